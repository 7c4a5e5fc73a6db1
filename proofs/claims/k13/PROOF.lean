import PyProof.Rows.All
import Wide.All
import OpenK.AllK
import Wide.FinOn
import PySem.Challenge.RW_oftenenough_k13_days_by_parts
import HandS.ForMost
import HandS.ForExc
import HandS.IsInst
import HandS.TupAny
import HandS.TupMul
import HandS.Walk
import HandS.Conv
import HandS.Wide
import HandS.Zip
import HandS.Flow
import HandS.Lambda
import KE.GoesEnum
import KE.GoesNew
import PyProof.ReprRoads
import KE.KEqDict
import KE.KExcSuper
import KE.KExcInit
import HandS.ExcValue
import PyProof.ReprBulk
import KE.KDflt
import HandS.Star
import HandS.Style
import KE.SortData
import HandS.SetFor
import HandS.Strs
import KE.KRevSl
import KE.KExcIs
import KE.KExcLine
import KE.RegKSuper
import KE.KNestM
set_option Elab.async false
set_option linter.all false
set_option autoImplicit false
set_option maxRecDepth 100000
set_option maxHeartbeats 2000000
/-! A layer of plain data over the hand layer: a def's body is read as a function over data, with the draws left open. -/
namespace OE
open PySem PySem.Spec L2
/-- the tables of code objects: the name that each one's code objects bear -/
class TN where
  nm : Addr → Option Str
variable [TN]

/-- data, the draws' state among them -/
inductive D where
  | non
  | bl (b : Bool)
  | int (i : Int)
  | str (x : Str)
  | lst (l : List D)
  | scr (l : List Int)
  | tup (l : List D)
  | dic (l : List (D × D))
  | m
  | exn (x : Str) (C : Addr) (l : List D)
  | clo (f : Addr) (Hs0 : Hp)
  | mref (a : Addr)
  | obj (C : Addr) (l : List (Str × D))
  deriving Inhabited

/-- an exception of the package: its class, its field -/
structure Exn where
  cls : Str
  arg : Option D

/-- what changes: a list, a dict, an instance -/
inductive MO where
  | lst (l : List D)
  | dic (l : List (D × D))
  | ins (C : Addr) (l : List (Str × D))
abbrev Mu := Addr → Option MO
def Mu.put (μ : Mu) (a : Addr) (o : MO) : Mu := fun b => if b = a then some o else μ b
def Mu.del (μ : Mu) (a : Addr) : Mu := fun b => if b = a then none else μ b
theorem Mu.put_same {μ : Mu} {a : Addr} {o : MO} : μ.put a o a = some o := if_pos rfl
theorem Mu.put_ne {μ : Mu} {a b : Addr} {o : MO} (h : b ≠ a) : μ.put a o b = μ b := if_neg h
theorem Mu.put_put {μ : Mu} {a : Addr} {o u : MO} : (μ.put a o).put a u = μ.put a u := by
  funext b; unfold Mu.put; split <;> rfl
theorem Mu.del_ne {μ : Mu} {a b : Addr} (h : b ≠ a) : μ.del a b = μ b := if_neg h
theorem Mu.del_same {μ : Mu} {a : Addr} : μ.del a a = none := if_pos rfl
theorem Mu.del_put {μ : Mu} {a : Addr} {o : MO} (h : μ a = none) : (μ.put a o).del a = μ := by
  funext b; unfold Mu.put Mu.del
  by_cases e : b = a
  · subst e; simp [h]
  · simp [e]
theorem Mu.del_free {μ : Mu} {a : Addr} (h : μ a = none) : μ.del a = μ := by
  funext b; unfold Mu.del; split
  · rename_i e; subst e; exact h.symm
  · rfl
theorem Mu.del_put_ne {μ : Mu} {a b : Addr} {o : MO} (h : a ≠ b) : (μ.put a o).del b = (μ.del b).put a o := by
  funext c; unfold Mu.put Mu.del
  by_cases h1 : c = b
  · subst h1; simp [Ne.symm h]
  · simp [h1]
/-- where a piece of code stands: the draws so far, what changes -/
structure S where
  n : Nat
  mu : Mu

/-- what a piece of code does: what is wanted of its value, of its exception -/
abbrev Wp (α : Type) := S → (α → S → Prop) → (Exn → S → Prop) → Prop
namespace Wp
def ret {α : Type} (a : α) : Wp α := fun n q _ => q a n
def bind {α β : Type} (t : Wp α) (f : α → Wp β) : Wp β := fun n q e => t n (fun a k => f a k q e) e
def fail {α : Type} (x : Exn) : Wp α := fun n _ e => e x n
def ask (p : Prop) : Wp Unit := fun n q _ => p ∧ q () n
def calm {α : Type} (t : Wp α) : Wp α := fun n q _ => t n q fun _ _ => False
end Wp

abbrev Ev := List (Option D)

/-- an exception that was caught: its class, its dict -/
def ExF (C : Addr) (d : Option Addr) (a : Addr) : HO := .ext fun h => ∃ (oe : Obj) (vs : Array Value), h.get? a = some oe ∧ Zc (.ref C) d oe ∧ oe.data = .fields vs
theorem exF_ok {P : Program} {w : World} {H : Hp} {h : Heap} {a C : Addr} {d : Option Addr} {oe : Obj} {vs : Array Value} (e : h.get? a = some oe) (z : Zc (.ref C) d oe) (dd : oe.data = .fields vs) : ObjOk P w H h a (ExF C d a) :=
  ⟨⟨oe, vs, e, z, dd⟩, ⟨oe, e⟩, fun _ _ ⟨o, v, q, r⟩ k => ⟨o, v, k o q, r⟩⟩
/-- the package's classes' fields -/
def fldOf (c : Str) : Str := if c = "BadPlan" then "place" else if c = "BadRow" then "place" else if c = "BadPaper" then "word" else if c = "BadText" then "word" else if c = "TooGreat" then "most" else "value"

/-- the keys of the draws' state -/
def mKeys : List Key := [.inr "left", .inr "seed", .inr "cells", .inr "spot"]
def isM : HO → Bool
  | .dK kvs => decide (kvs.map Prod.fst = mKeys)
  | _ => false
/-- what changes: the draws' states, the tables of code objects -/
def isC : HO → Bool
  | .tbl _ => true
  | .met _ _ => true
  | o => isM o
/-- the mark of what changes -/
def MK : HO := .met 0 0
def isK : HO → Bool
  | .met _ _ => true
  | _ => false
def kD : Key → D
  | .inl i => .int i
  | .inr x => .str x

/-- what stands, but for the draws' states: they stay such -/
def Ext (H H' : Hp) : Prop := ∀ a o, H a = some o → (isC o = false → H' a = some o) ∧ (isM o = true → ∃ o', H' a = some o' ∧ isM o' = true)
theorem Ext.refl (H : Hp) : Ext H H := fun _ o h => ⟨fun _ => h, fun z => ⟨o, h, z⟩⟩
theorem Ext.trans {H H1 H2 : Hp} (a : Ext H H1) (b : Ext H1 H2) : Ext H H2 := fun c o h => by
  obtain ⟨p, q⟩ := a c o h
  refine ⟨fun z => (b c o (p z)).1 z, fun z => ?_⟩
  obtain ⟨o', h', z'⟩ := q z
  exact (b c o' h').2 z'
theorem Ext.of_same {H H' : Hp} (s : Same H H') : Ext H H' := fun a o h => ⟨fun _ => s a o h, fun z => ⟨o, s a o h, z⟩⟩
mutual
inductive Dv (K : PySem.W.Frag) (H : Hp) : V → D → Prop
  | non : Dv K H .non .non
  | bl (b : Bool) : Dv K H (.bl b) (.bl b)
  | int (i : Int) : Dv K H (.int i) (.int i)
  | str (x : Str) : Dv K H (.str x) (.str x)
  | lst {a : Addr} {xs : List V} {ds : List D} (h : H a = some (.lst xs)) (g : DvAll K H xs ds) : Dv K H (.ref a) (.lst ds)
  | scr {a : Addr} {ns : List Int} (h : SqL K H a (ns.map V.int)) : Dv K H (.ref a) (.scr ns)
  | tup {a : Addr} {xs : List V} {ds : List D} (h : SqT K H a xs) (g : DvAll K H xs ds) : Dv K H (.ref a) (.tup ds)
  | dic {a : Addr} {kvs : List (Key × V)} {ds : List (D × D)} (h : H a = some (.dK kvs)) (z : isM (.dK kvs) = false) (g : DvKv K H kvs ds) : Dv K H (.ref a) (.dic ds)
  | m {a : Addr} {o : HO} (h : H a = some o) (z : isM o = true) : Dv K H (.ref a) .m
  | exn1 {a dd C : Addr} {x : Str} {v : V} {d : D} (h : H a = some (ExF C (some dd) a)) (hd : H dd = some (.xd [(fldOf x, v)])) (g : Dv K H v d) : Dv K H (.ref a) (.exn x C [d])
  | exn0 {a C : Addr} {x : Str} (h : H a = some (ExF C none a)) : Dv K H (.ref a) (.exn x C [])
  | clo {f : Addr} {Hs0 : Hp} (e : Ext Hs0 H) : Dv K H (.ref f) (.clo f Hs0)
  | mref (a : Addr) : Dv K H (.ref a) (.mref a)
  | dit {a : Addr} {kvs : List (List Key × V)} {ds : List (D × D)} (h : H a = some (.dT kvs)) (g : DvKt K H kvs ds) : Dv K H (.ref a) (.dic ds)
  | obj {a C dx : Addr} {fs : List (Str × V)} {ds : List (Str × D)} (h : H a = some (.ins C dx fs)) (hx : H dx = some (.own a)) (g : DvFs K H fs ds) : Dv K H (.ref a) (.obj C ds)
inductive DvAll (K : PySem.W.Frag) (H : Hp) : List V → List D → Prop
  | nil : DvAll K H [] []
  | cons {v : V} {vs : List V} {d : D} {ds : List D} (h : Dv K H v d) (g : DvAll K H vs ds) : DvAll K H (v :: vs) (d :: ds)
inductive DvKv (K : PySem.W.Frag) (H : Hp) : List (Key × V) → List (D × D) → Prop
  | nil : DvKv K H [] []
  | cons {k : Key} {v : V} {vs : List (Key × V)} {d : D} {ds : List (D × D)} (h : Dv K H v d) (g : DvKv K H vs ds) : DvKv K H ((k, v) :: vs) ((kD k, d) :: ds)
inductive DvKt (K : PySem.W.Frag) (H : Hp) : List (List Key × V) → List (D × D) → Prop
  | nil : DvKt K H [] []
  | cons {k : List Key} {v : V} {vs : List (List Key × V)} {d : D} {ds : List (D × D)} (h : Dv K H v d) (g : DvKt K H vs ds) : DvKt K H ((k, v) :: vs) ((.tup (k.map kD), d) :: ds)
inductive DvFs (K : PySem.W.Frag) (H : Hp) : List (Str × V) → List (Str × D) → Prop
  | nil : DvFs K H [] []
  | cons {k : Str} {v : V} {vs : List (Str × V)} {d : D} {ds : List (Str × D)} (h : Dv K H v d) (g : DvFs K H vs ds) : DvFs K H ((k, v) :: vs) ((k, d) :: ds)
end

theorem Ext.lst {K : PySem.W.Frag} {H H' : Hp} {a : Addr} {xs : List V} (e : Ext H H') (h : SqL K H a xs) : SqL K H' a xs := by
  rcases h with (h | ⟨o, h⟩) | h
  · exact .inl (.inl ((e _ _ h).1 rfl))
  · exact .inl (.inr ⟨o, (e _ _ h).1 rfl⟩)
  · exact .inr h
theorem Ext.tup {K : PySem.W.Frag} {H H' : Hp} {a : Addr} {xs : List V} (e : Ext H H') (h : SqT K H a xs) : SqT K H' a xs := by
  rcases h with (h | ⟨o, h⟩) | h
  · exact .inl (.inl ((e _ _ h).1 rfl))
  · exact .inl (.inr ⟨o, (e _ _ h).1 rfl⟩)
  · exact .inr h
mutual
theorem Dv.ext {K : PySem.W.Frag} {H H' : Hp} (e : Ext H H') : ∀ {v : V} {d : D}, Dv K H v d → Dv K H' v d
  | _, _, .non => .non
  | _, _, .bl b => .bl b
  | _, _, .int i => .int i
  | _, _, .str x => .str x
  | _, _, .lst h g => .lst ((e _ _ h).1 rfl) (DvAll.ext e g)
  | _, _, .scr h => .scr (e.lst h)
  | _, _, .tup h g => .tup (e.tup h) (DvAll.ext e g)
  | _, _, .dic h z g => .dic ((e _ _ h).1 z) z (DvKv.ext e g)
  | _, _, .m h z => let ⟨_, h', z'⟩ := (e _ _ h).2 z; .m h' z'
  | _, _, .exn1 h hd g => .exn1 ((e _ _ h).1 rfl) ((e _ _ hd).1 rfl) (Dv.ext e g)
  | _, _, .exn0 h => .exn0 ((e _ _ h).1 rfl)
  | _, _, .clo e0 => .clo (e0.trans e)
  | _, _, .mref a => .mref a
  | _, _, .dit h g => .dit ((e _ _ h).1 rfl) (DvKt.ext e g)
  | _, _, .obj h hx g => .obj ((e _ _ h).1 rfl) ((e _ _ hx).1 rfl) (DvFs.ext e g)
theorem DvAll.ext {K : PySem.W.Frag} {H H' : Hp} (e : Ext H H') : ∀ {v : List V} {d : List D}, DvAll K H v d → DvAll K H' v d
  | _, _, .nil => .nil
  | _, _, .cons h g => .cons (Dv.ext e h) (DvAll.ext e g)
theorem DvKv.ext {K : PySem.W.Frag} {H H' : Hp} (e : Ext H H') : ∀ {v : List (Key × V)} {d : List (D × D)}, DvKv K H v d → DvKv K H' v d
  | _, _, .nil => .nil
  | _, _, .cons h g => .cons (Dv.ext e h) (DvKv.ext e g)
theorem DvKt.ext {K : PySem.W.Frag} {H H' : Hp} (e : Ext H H') : ∀ {v : List (List Key × V)} {d : List (D × D)}, DvKt K H v d → DvKt K H' v d
  | _, _, .nil => .nil
  | _, _, .cons h g => .cons (Dv.ext e h) (DvKt.ext e g)
theorem DvFs.ext {K : PySem.W.Frag} {H H' : Hp} (e : Ext H H') : ∀ {v : List (Str × V)} {d : List (Str × D)}, DvFs K H v d → DvFs K H' v d
  | _, _, .nil => .nil
  | _, _, .cons h g => .cons (Dv.ext e h) (DvFs.ext e g)
end
theorem DvAll.length {K : PySem.W.Frag} {H : Hp} : ∀ {v : List V} {d : List D}, DvAll K H v d → v.length = d.length
  | _, _, .nil => rfl
  | _, _, .cons _ g => congrArg (· + 1) (DvAll.length g)
theorem DvAll.get {K : PySem.W.Frag} {H : Hp} : ∀ {vs : List V} {ds : List D} {i : Nat} {d : D}, DvAll K H vs ds → ds[i]? = some d → ∃ v, vs[i]? = some v ∧ Dv K H v d
  | _, _, _, _, .nil, e => by simp at e
  | _, _, 0, _, .cons h _, e => ⟨_, rfl, by simp at e; subst e; exact h⟩
  | _, _, i + 1, _, .cons _ g, e => by
    obtain ⟨v, h1, h2⟩ := DvAll.get (i := i) g (by simpa using e)
    exact ⟨v, by simpa using h1, h2⟩
theorem DvAll.getV {K : PySem.W.Frag} {H : Hp} : ∀ {vs : List V} {ds : List D} {i : Nat} {v : V}, DvAll K H vs ds → vs[i]? = some v → ∃ d, ds[i]? = some d ∧ Dv K H v d
  | _, _, _, _, .nil, e => by simp at e
  | _, _, 0, _, .cons h _, e => ⟨_, rfl, by simp at e; subst e; exact h⟩
  | _, _, i + 1, _, .cons _ g, e => by
    obtain ⟨v, h1, h2⟩ := DvAll.getV (i := i) g (by simpa using e)
    exact ⟨v, by simpa using h1, h2⟩
theorem DvAll.append {K : PySem.W.Frag} {H : Hp} : ∀ {vs ws : List V} {ds es : List D}, DvAll K H vs ds → DvAll K H ws es → DvAll K H (vs ++ ws) (ds ++ es)
  | _, _, _, _, .nil, g => g
  | _, _, _, _, .cons h g, g' => .cons h (DvAll.append g g')
theorem DvAll.take {K : PySem.W.Frag} {H : Hp} : ∀ {vs : List V} {ds : List D} (n : Nat), DvAll K H vs ds → DvAll K H (vs.take n) (ds.take n)
  | _, _, 0, _ => .nil
  | _, _, _ + 1, .nil => .nil
  | _, _, n + 1, .cons h g => .cons h (DvAll.take n g)
theorem DvAll.drop {K : PySem.W.Frag} {H : Hp} : ∀ {vs : List V} {ds : List D} (n : Nat), DvAll K H vs ds → DvAll K H (vs.drop n) (ds.drop n)
  | _, _, 0, g => g
  | _, _, _ + 1, .nil => .nil
  | _, _, n + 1, .cons _ g => DvAll.drop n g
theorem DvAll.rep {K : PySem.W.Frag} {H : Hp} {vs : List V} {ds : List D} (g : DvAll K H vs ds) : ∀ n : Nat, DvAll K H (List.replicate n vs).flatten (List.replicate n ds).flatten
  | 0 => .nil
  | n + 1 => by
    rw [List.replicate_succ, List.replicate_succ, List.flatten_cons, List.flatten_cons]
    exact g.append (DvAll.rep g n)
theorem DvAll.ints {K : PySem.W.Frag} {H : Hp} : ∀ ns : List Int, DvAll K H (ns.map V.int) (ns.map D.int)
  | [] => .nil
  | n :: ns => .cons (.int n) (DvAll.ints ns)

/-- a state of the draws that is in order: at most n draws -/
def GoodM (n : Nat) (H : Hp) (kvs : List (Key × V)) : Prop :=
  ∃ (l s p : Int) (c : Addr) (cs : List Int), kvs = [(.inr "left", .int l), (.inr "seed", .int s), (.inr "cells", .ref c), (.inr "spot", .int p)] ∧
    0 ≤ l ∧ 0 ≤ s ∧ s < 2147483647 ∧ 0 ≤ p ∧ p ≤ n ∧ H c = some (.lst (cs.map V.int)) ∧ 0 < cs.length
def Good (n : Nat) (H : Hp) : Prop := ∀ a kvs, H a = some (.dK kvs) → isM (.dK kvs) = true → GoodM n H kvs
theorem GoodM.mono {n k : Nat} {H H' : Hp} {kvs : List (Key × V)} (h : GoodM n H kvs) (hn : n ≤ k) (e : Ext H H') : GoodM k H' kvs := by
  obtain ⟨l, s, p, c, cs, e1, h1, h2, h3, h4, h5, h6, h7⟩ := h
  exact ⟨l, s, p, c, cs, e1, h1, h2, h3, h4, by omega, (e _ _ h6).1 rfl, h7⟩

/-- what stands at the address of something that changes -/
def MOk (K : PySem.W.Frag) (Hs H : Hp) (a : Addr) : MO → Prop
  | .lst l => ∃ xs, H a = some (.lst xs) ∧ DvAll K Hs xs l
  | .dic l => (∃ kvs, H a = some (.dK kvs) ∧ DvKv K Hs kvs l) ∨ ∃ kvs, H a = some (.dT kvs) ∧ DvKt K Hs kvs l
  | .ins C l => ∃ dx fs, H a = some (.ins C dx fs) ∧ Hs dx = some (.own a) ∧ DvFs K Hs fs l
theorem MOk.ext {K : PySem.W.Frag} {Hs H Hs' H' : Hp} {a : Addr} {o : MO} (h : MOk K Hs H a o) (e : Ext Hs Hs') (k : H' a = H a) : MOk K Hs' H' a o := by
  cases o with
  | lst l => obtain ⟨xs, h1, h2⟩ := h; exact ⟨xs, k.trans h1, h2.ext e⟩
  | dic l =>
    rcases h with ⟨kvs, h1, h2⟩ | ⟨kvs, h1, h2⟩
    · exact .inl ⟨kvs, k.trans h1, h2.ext e⟩
    · exact .inr ⟨kvs, k.trans h1, h2.ext e⟩
  | ins C l => obtain ⟨dx, fs, h1, h2, h3⟩ := h; exact ⟨dx, fs, k.trans h1, (e _ _ h2).1 rfl, h3.ext e⟩
theorem MOk.some {K : PySem.W.Frag} {Hs H : Hp} {a : Addr} {o : MO} (h : MOk K Hs H a o) : ∃ u, H a = some u := by
  cases o with
  | lst l => obtain ⟨xs, h1, h2⟩ := h; exact ⟨_, h1⟩
  | dic l => rcases h with ⟨kvs, h1, h2⟩ | ⟨kvs, h1, h2⟩ <;> exact ⟨_, h1⟩
  | ins C l => obtain ⟨dx, fs, h1, h2, h3⟩ := h; exact ⟨_, h1⟩
/-- what is shared stands, but for what changes -/
def SameK (Hs H : Hp) : Prop := ∀ a o, Hs a = some o → isK o = false → H a = some o
structure Sit (K : PySem.W.Frag) (n : S) (Hs H : Hp) : Prop where
  subK : SameK Hs H
  mkd : ∀ a, Hs a = some MK → ∃ o, H a = some o
  mks : ∀ a o, Hs a = some o → isK o = true → o = MK
  good : Good n.n Hs
  tabs : ∀ P q, TN.nm P = some q → LamX.TabS Hs P q
  muts : ∀ a o, n.mu a = some o → Hs a = some MK ∧ MOk K Hs H a o
theorem Sit.sub {K : PySem.W.Frag} {n : S} {Hs H : Hp} (s : Sit K n Hs H) (a : Addr) (o : HO) (h : Hs a = some o) (z : isK o = false := by rfl) : H a = some o := s.subK a o h z
theorem Sit.muFree {K : PySem.W.Frag} {n : S} {Hs H : Hp} (s : Sit K n Hs H) {a : Addr} (h : Hs a = none) : n.mu a = none := by
  cases e : n.mu a with
  | none => rfl
  | some o => rw [(s.muts a o e).1] at h; cases h
theorem Sit.muNe {K : PySem.W.Frag} {n : S} {Hs H : Hp} (s : Sit K n Hs H) {a b : Addr} {o : MO} (h : n.mu a = some o) (hb : Hs b = none) : a ≠ b := fun e => by
  rw [e, s.muFree hb] at h; cases h
structure Go (Hs H Hs' H' : Hp) : Prop where
  ext : Ext Hs Hs'
  own : ∀ a o, H a = some o → Hs a = none → H' a = some o ∧ Hs' a = none
theorem Go.refl (Hs H : Hp) : Go Hs H Hs H := ⟨.refl _, fun _ _ h n => ⟨h, n⟩⟩
theorem Go.trans {Hs H Hs1 H1 Hs2 H2 : Hp} (a : Go Hs H Hs1 H1) (b : Go Hs1 H1 Hs2 H2) : Go Hs H Hs2 H2 :=
  ⟨a.ext.trans b.ext, fun c o h n => let ⟨p, q⟩ := a.own c o h n; b.own c o p q⟩
theorem Sit.free {K : PySem.W.Frag} {n : S} {Hs H : Hp} (s : Sit K n Hs H) {a : Addr} (h : H a = none) : Hs a = none := by
  cases e : Hs a with
  | none => rfl
  | some o =>
    cases z : isK o with
    | false => rw [s.subK a o e z] at h; cases h
    | true =>
      have z := s.mks a o e z
      subst z
      obtain ⟨u, hu⟩ := s.mkd a e
      rw [hu] at h; cases h
/-- a new shared object -/
theorem Sit.putG {K : PySem.W.Frag} {n : S} {Hs H : Hp} (s : Sit K n Hs H) {p : Addr} {o : HO} (hs : Hs p = none) (z : ∀ kvs, o = .dK kvs → isM (.dK kvs) = true → GoodM n.n Hs kvs) (zk : isK o = false) : Sit K n (upd Hs p o) (upd H p o) ∧ Ext Hs (upd Hs p o) := by
  have sm : Same Hs (upd Hs p o) := fun b u q => by rw [upd_ne (ne_of_none q hs)]; exact q
  have e : Ext Hs (upd Hs p o) := Ext.of_same sm
  refine ⟨⟨fun b u q y => ?_, fun b q => ?_, fun b u q y => ?_, fun b kvs q y => ?_, fun P q t => (s.tabs P q t).ext sm, fun b u q => ?_⟩, e⟩
  · by_cases hb : b = p
    · subst hb; rw [upd_same] at q ⊢; exact q
    · rw [upd_ne hb] at q ⊢; exact s.subK b u q y
  · by_cases hb : b = p
    · subst hb; exact ⟨_, upd_same⟩
    · rw [upd_ne hb] at q ⊢; exact s.mkd b q
  · by_cases hb : b = p
    · subst hb; rw [upd_same] at q; cases q; rw [zk] at y; cases y
    · rw [upd_ne hb] at q; exact s.mks b u q y
  · by_cases hb : b = p
    · subst hb
      rw [upd_same] at q
      exact (z kvs (Option.some.inj q) y).mono (Nat.le_refl _) e
    · rw [upd_ne hb] at q
      exact (s.good b kvs q y).mono (Nat.le_refl _) e
  · have hb : b ≠ p := s.muNe q hs
    obtain ⟨h1, h2⟩ := s.muts b u q
    exact ⟨by rw [upd_ne hb]; exact h1, h2.ext e (upd_ne hb)⟩
theorem Sit.put {K : PySem.W.Frag} {n : S} {Hs H : Hp} (s : Sit K n Hs H) {p : Addr} {o : HO} (hs : Hs p = none) (z : isM o = false) (zk : isK o = false) : Sit K n (upd Hs p o) (upd H p o) ∧ Ext Hs (upd Hs p o) :=
  s.putG hs (fun kvs e y => by rw [e, y] at z; cases z) zk
/-- a new shared object that is no draws' state -/
theorem Sit.new {K : PySem.W.Frag} {n : S} {Hs H : Hp} (s : Sit K n Hs H) {p : Addr} {o : HO} (h : H p = none) (z : isM o = false) (zk : isK o = false := by rfl) : Sit K n (upd Hs p o) (upd H p o) ∧ Go Hs H (upd Hs p o) (upd H p o) := by
  have hs := s.free h
  obtain ⟨s1, e⟩ := s.put hs z zk
  refine ⟨s1, ⟨e, fun b u q y => ?_⟩⟩
  have hb : b ≠ p := fun e => by rw [e, h] at q; cases q
  rw [upd_ne hb, upd_ne hb]
  exact ⟨q, y⟩
theorem upd_id {H : Hp} {a : Addr} {o : HO} (h : H a = some o) : upd H a o = H := by
  funext b; unfold upd; split
  · rename_i e; subst e; exact h.symm
  · rfl
/-- what is not shared changes -/
theorem Sit.own {K : PySem.W.Frag} {n : S} {Hs H H' : Hp} (s : Sit K n Hs H) (k : ∀ b u, Hs b = some u → H' b = H b) : Sit K n Hs H' :=
  ⟨fun b u q y => (k b u q).trans (s.subK b u q y), fun b q => let ⟨o, h⟩ := s.mkd b q; ⟨o, (k b _ q).trans h⟩, s.mks, s.good, s.tabs, fun b u q => let ⟨h1, h2⟩ := s.muts b u q; ⟨h1, h2.ext (.refl _) (k b _ h1)⟩⟩

/-- the classes of the package: where they stand; their fields -/
abbrev Gam := Str → Option Addr
def XRep (K : PySem.W.Frag) (Γ : Gam) (H : Hp) (x : Exn) (cls : Value) (dd : Option Addr) : Prop :=
  ∃ C, Γ x.cls = some C ∧ cls = .ref C ∧ match x.arg with
    | none => dd = none
    | some d => ∃ a v, dd = some a ∧ H a = some (.xd [(fldOf x.cls, v)]) ∧ Dv K H v d

/-- the slots hold the data -/
structure R (K : PySem.W.Frag) (ρ : Ev) (σ : St) (Hs : Hp) : Prop where
  len : ρ.length = σ.length
  at' : ∀ (i : Nat) (d : D), ρ[i]? = some (some d) → ∃ v, σ[i]? = some (some v) ∧ Dv K Hs v d
theorem R.ext {K : PySem.W.Frag} {ρ : Ev} {σ : St} {Hs Hs' : Hp} (r : R K ρ σ Hs) (e : Ext Hs Hs') : R K ρ σ Hs' :=
  ⟨r.len, fun i d h => let ⟨v, h1, h2⟩ := r.at' i d h; ⟨v, h1, h2.ext e⟩⟩
theorem R.set {K : PySem.W.Frag} {ρ : Ev} {σ : St} {Hs : Hp} (r : R K ρ σ Hs) (i : Nat) {v : V} {d : D} (h : Dv K Hs v d) : R K (ρ.set i (some d)) (σ.set i (some v)) Hs := by
  refine ⟨by simpa using r.len, fun j d' e => ?_⟩
  by_cases hj : j = i
  · subst hj
    have hlt : j < ρ.length := by
      rcases Nat.lt_or_ge j ρ.length with h | h
      · exact h
      · rw [List.getElem?_eq_none (by simpa using h)] at e; cases e
    rw [List.getElem?_set_self hlt] at e
    cases e
    exact ⟨v, List.getElem?_set_self (by rw [← r.len]; exact hlt), h⟩
  · rw [List.getElem?_set_ne (Ne.symm hj)] at e
    obtain ⟨w, h1, h2⟩ := r.at' j d' e
    exact ⟨w, by rw [List.getElem?_set_ne (Ne.symm hj)]; exact h1, h2⟩
theorem R.unset {K : PySem.W.Frag} {ρ : Ev} {σ : St} {Hs : Hp} (r : R K ρ σ Hs) (i : Nat) (o : Option V) : R K (ρ.set i none) (σ.set i o) Hs := by
  refine ⟨by simpa using r.len, fun j d' e => ?_⟩
  by_cases hj : j = i
  · subst hj
    rcases Nat.lt_or_ge j ρ.length with h | h
    · rw [List.getElem?_set_self h] at e; cases e
    · rw [List.getElem?_eq_none (by simpa using h)] at e; cases e
  · rw [List.getElem?_set_ne (Ne.symm hj)] at e
    obtain ⟨w, h1, h2⟩ := r.at' j d' e
    exact ⟨w, by rw [List.getElem?_set_ne (Ne.symm hj)]; exact h1, h2⟩

/-- what is wanted behind, of values, of exceptions -/
def OkQ (K : PySem.W.Frag) (Hs H : Hp) (q : D → S → Prop) (Q : VK) : Prop := ∀ v H' Hs' d n', Go Hs H Hs' H' → Sit K n' Hs' H' → Dv K Hs' v d → q d n' → Q v H'
def OkE (K : PySem.W.Frag) (Γ : Gam) (Hs H : Hp) (e : Exn → S → Prop) (E : XK) : Prop := ∀ x cls dd H' Hs' n', Go Hs H Hs' H' → Sit K n' Hs' H' → XRep K Γ Hs' x cls dd → e x n' → E cls dd H'
theorem OkE.go {K : PySem.W.Frag} {Γ : Gam} {Hs H Hs1 H1 : Hp} {e : Exn → S → Prop} {E : XK} (h : OkE K Γ Hs H e E) (g : Go Hs H Hs1 H1) : OkE K Γ Hs1 H1 e E := fun x cls dd H' Hs' n' g' => h x cls dd H' Hs' n' (g.trans g')
theorem OkQ.go {K : PySem.W.Frag} {Hs H Hs1 H1 : Hp} {q : D → S → Prop} {Q : VK} (h : OkQ K Hs H q Q) (g : Go Hs H Hs1 H1) : OkQ K Hs1 H1 q Q := fun v H' Hs' d n' g' => h v H' Hs' d n' (g.trans g')

section
variable (Γ : Gam) (X : Cx) (W : WX)
def DE (e : Expr) (t : Ev → Wp D) : Prop := ∃ te : TE, PE X e te ∧ ∀ (σ : St) (H Hs : Hp) (ρ : Ev) (n : S) (q : D → S → Prop) (x : Exn → S → Prop) (Q : VK),
  Sit X.K n Hs H → R X.K ρ σ Hs → t ρ n q x → OkQ X.K Hs H q Q → OkE X.K Γ Hs H x (fun c d h => W c d σ h) → te σ H Q
def DT (e : Expr) (t : Ev → Wp Bool) : Prop := ∃ te : TT, PT X e te ∧ ∀ (σ : St) (H Hs : Hp) (ρ : Ev) (n : S) (q : Bool → S → Prop) (x : Exn → S → Prop) (Q : Bool → Hp → Prop),
  Sit X.K n Hs H → R X.K ρ σ Hs → t ρ n q x → (∀ b H' Hs' n', Go Hs H Hs' H' → Sit X.K n' Hs' H' → q b n' → Q b H') → OkE X.K Γ Hs H x (fun c d h => W c d σ h) → te σ H Q
def DA (es : List Expr) (t : Ev → Wp (List D)) : Prop := ∃ te : TA, PA X es te ∧ ∀ (σ : St) (H Hs : Hp) (ρ : Ev) (n : S) (q : List D → S → Prop) (x : Exn → S → Prop) (Q : List V → Hp → Prop),
  Sit X.K n Hs H → R X.K ρ σ Hs → t ρ n q x → (∀ vs H' Hs' ds n', Go Hs H Hs' H' → Sit X.K n' Hs' H' → DvAll X.K Hs' vs ds → q ds n' → Q vs H') → OkE X.K Γ Hs H x (fun c d h => W c d σ h) → te σ H Q
end

section
variable {Γ : Gam} {X : Cx} {W : WX}
/-! ### names, constants -/
def tvar (i : Nat) : Ev → Wp D := fun ρ n q _ => ∃ d, ρ[i]? = some (some d) ∧ q d n
theorem d_var (i : Nat) {x : Str} {pos : Pos} (h : PE X (.Name x pos) (tVar i)) : DE Γ X W (.Name x pos) (tvar i) :=
  ⟨_, h, fun σ H Hs ρ n q x Q s r ⟨d, h1, h2⟩ k _ => let ⟨v, h3, h4⟩ := r.at' i d h1; ⟨v, h3, k v H Hs d n (.refl _ _) s h4 h2⟩⟩
def tconst (d : D) : Ev → Wp D := fun _ => Wp.ret d
theorem d_const {e : Expr} {v : V} {d : D} (h : PE X e (tC v)) (hd : ∀ H, Dv X.K H v d) : DE Γ X W e (tconst d) :=
  ⟨_, h, fun σ H Hs ρ n q x Q s r hq k _ => k v H Hs d n (.refl _ _) s (hd _) hq⟩
theorem d_int {i j pos} : DE Γ X W (.Constant (.int i) j pos) (tconst (.int i)) := d_const pe_int fun _ => .int i
theorem d_bl {i j pos} : DE Γ X W (.Constant (.bool i) j pos) (tconst (.bl i)) := d_const pe_bl fun _ => .bl i
theorem d_non {j pos} : DE Γ X W (.Constant .none j pos) (tconst .non) := d_const pe_non fun _ => .non
theorem d_str {i j pos} : DE Γ X W (.Constant (.str i) j pos) (tconst (.str i)) := d_const pe_str fun _ => .str i
theorem d_gint {x : Str} {i : Int} {t : Tok} {pos : Pos} (hg : Gl X x) (hm : X.mg x = some (.int i t)) (hd : (x == ("__debug__" : Str)) = false := by decide) : DE Γ X W (.Name x pos) (tconst (.int i)) :=
  d_const (pe_glob (v := .int i) hg hm ⟨_, rfl⟩ hd) fun _ => .int i
theorem d_gstr {x y : Str} {t : Tok} {pos : Pos} (hg : Gl X x) (hm : X.mg x = some (.str y t)) (hd : (x == ("__debug__" : Str)) = false := by decide) : DE Γ X W (.Name x pos) (tconst (.str y)) :=
  d_const (pe_glob (v := .str y) hg hm ⟨_, rfl⟩ hd) fun _ => .str y

/-! ### arguments, tuples, lists -/
def tnil : Ev → Wp (List D) := fun _ => Wp.ret []
def tcons (a : Ev → Wp D) (r : Ev → Wp (List D)) : Ev → Wp (List D) := fun ρ => Wp.bind (a ρ) fun x => Wp.bind (r ρ) fun xs => Wp.ret (x :: xs)
theorem da_nil : DA Γ X W [] tnil := ⟨_, pa_nil, fun σ H Hs ρ n q x Q s r hq k _ => k [] H Hs [] n (.refl _ _) s .nil hq⟩
theorem da_cons {e : Expr} {es : List Expr} {a : Ev → Wp D} {r : Ev → Wp (List D)} (ha : DE Γ X W e a) (hr : DA Γ X W es r) (hs : starEach (e :: es) X.env = (false, eval e X.env) :: starEach es X.env := by rfl) : DA Γ X W (e :: es) (tcons a r) := by
  obtain ⟨ta, pa, fa⟩ := ha
  obtain ⟨tr, pr, fr⟩ := hr
  refine ⟨_, pa_cons pa pr hs, fun σ H Hs ρ n q x Q s r hq k ke => ?_⟩
  refine fa σ H Hs ρ n _ x _ s r hq (fun v H1 Hs1 d n1 g1 s1 hv h1 => ?_) ke
  refine fr σ H1 Hs1 ρ n1 _ x _ s1 (r.ext g1.ext) h1 (fun vs H2 Hs2 ds n2 g2 s2 hvs h2 => ?_) (ke.go g1)
  exact k _ H2 Hs2 _ n2 (g1.trans g2) s2 (.cons (hv.ext g2.ext) hvs) h2
def ttup (t : Ev → Wp (List D)) : Ev → Wp D := fun ρ => Wp.bind (t ρ) fun ds => Wp.bind (Wp.ask (ds.length ≤ 1000000)) fun _ => Wp.ret (.tup ds)
def tlst (t : Ev → Wp (List D)) : Ev → Wp D := fun ρ => Wp.bind (t ρ) fun ds => Wp.bind (Wp.ask (ds.length ≤ 1000000)) fun _ => Wp.ret (.lst ds)
theorem line_le {n : Nat} (h : n ≤ 1000000) : n ≤ sizeLine := by rw [sizeLine_eq]; omega
theorem new_tup {K : PySem.W.Frag} {n : S} {Hs H : Hp} (s : Sit K n Hs H) {p : Addr} {xs : List V} {ds : List D} (hp : H p = none) (g : DvAll K Hs xs ds) :
    Sit K n (upd Hs p (.tup xs)) (upd H p (.tup xs)) ∧ Go Hs H (upd Hs p (.tup xs)) (upd H p (.tup xs)) ∧ Dv K (upd Hs p (.tup xs)) (.ref p) (.tup ds) := by
  obtain ⟨s1, g1⟩ := s.new hp (o := .tup xs) rfl
  exact ⟨s1, g1, .tup (SqT.of upd_same) (g.ext g1.ext)⟩
theorem new_lst {K : PySem.W.Frag} {n : S} {Hs H : Hp} (s : Sit K n Hs H) {p : Addr} {xs : List V} {ds : List D} (hp : H p = none) (g : DvAll K Hs xs ds) :
    Sit K n (upd Hs p (.lst xs)) (upd H p (.lst xs)) ∧ Go Hs H (upd Hs p (.lst xs)) (upd H p (.lst xs)) ∧ Dv K (upd Hs p (.lst xs)) (.ref p) (.lst ds) := by
  obtain ⟨s1, g1⟩ := s.new hp (o := .lst xs) rfl
  exact ⟨s1, g1, .lst upd_same (g.ext g1.ext)⟩
theorem d_tup {es : List Expr} {t : Ev → Wp (List D)} {k pos} (h : DA Γ X W es t) : DE Γ X W (.Tuple es k pos) (ttup t) := by
  obtain ⟨ta, pa, fa⟩ := h
  refine ⟨_, pe_tup pa, fun σ H Hs ρ n q x Q s r hq k ke => ?_⟩
  refine fa σ H Hs ρ n _ x _ s r hq (fun vs H1 Hs1 ds n1 g1 s1 hv h1 => ⟨?_, fun p hp => ?_⟩) ke
  · rw [hv.length]; exact line_le h1.1
  · obtain ⟨s2, g2, v2⟩ := new_tup s1 hp hv
    exact k _ _ _ _ n1 (g1.trans g2) s2 v2 h1.2
theorem d_lst {es : List Expr} {t : Ev → Wp (List D)} {pos} (h : DA Γ X W es t) : DE Γ X W (.List es pos) (tlst t) := by
  obtain ⟨ta, pa, fa⟩ := h
  refine ⟨_, pe_lst pa, fun σ H Hs ρ n q x Q s r hq k ke => ?_⟩
  refine fa σ H Hs ρ n _ x _ s r hq (fun vs H1 Hs1 ds n1 g1 s1 hv h1 => ⟨?_, fun p hp => ?_⟩) ke
  · rw [hv.length]; exact line_le h1.1
  · obtain ⟨s2, g2, v2⟩ := new_lst s1 hp hv
    exact k _ _ _ _ n1 (g1.trans g2) s2 v2 h1.2
end
end OE

namespace OE
open PySem PySem.Spec L2
variable [TN]

def Wp.stuck {α : Type} : Wp α := fun _ _ _ => False
/-- two values, an operation on data -/
def R2D (K : PySem.W.Frag) (r : R2) (f : D → D → Wp D) : Prop := ∀ (x y : V) (a b : D) (H Hs : Hp) (n : S) (q : D → S → Prop) (e : Exn → S → Prop) (Q : VK),
  Sit K n Hs H → Dv K Hs x a → Dv K Hs y b → f a b n q e → OkQ K Hs H q Q → r x y H Q
def CD (K : PySem.W.Frag) (r : List V → Hp → VK → Prop) (f : List D → Wp D) : Prop := ∀ (xs : List V) (ds : List D) (H Hs : Hp) (n : S) (q : D → S → Prop) (e : Exn → S → Prop) (Q : VK),
  Sit K n Hs H → DvAll K Hs xs ds → f ds n q e → OkQ K Hs H q Q → r xs H Q
theorem opR_or {X : Cx} {f : Value → Value → Sem Value} {r r' : R2} (h : OpR X f r) (h' : OpR X f r') : OpR X f (fun x y H Q => r x y H Q ∨ r' x y H Q) := by
  intro pins s σ H x y v u Q I rx ry q
  rcases q with q | q
  · exact h pins s σ H x y v u Q I rx ry q
  · exact h' pins s σ H x y v u Q I rx ry q
theorem callR_or {X : Cx} {f : Value} {r r' : List V → Hp → VK → Prop} (h : CallR X f r) (h' : CallR X f r') : CallR X f (fun x H Q => r x H Q ∨ r' x H Q) := by
  intro pins s σ H xs us Q I rx q
  rcases q with q | q
  · exact h pins s σ H xs us Q I rx q
  · exact h' pins s σ H xs us Q I rx q
def tbin (f : D → D → Wp D) (ta tb : Ev → Wp D) : Ev → Wp D := fun ρ => Wp.bind (ta ρ) fun x => Wp.bind (tb ρ) fun y => f x y
def tbind (f : D → Wp D) (ta : Ev → Wp D) : Ev → Wp D := fun ρ => Wp.bind (ta ρ) f
def tcall (f : List D → Wp D) (ta : Ev → Wp (List D)) : Ev → Wp D := fun ρ => Wp.bind (ta ρ) f
theorem SameK.ext {Hs H : Hp} (s : SameK Hs H) : Ext Hs H := fun a o h => ⟨fun z => s a o h (by cases o <;> first | rfl | cases z), fun z => ⟨o, s a o h (by cases o <;> first | rfl | cases z), z⟩⟩
theorem Sit.same {K : PySem.W.Frag} {n : S} {Hs H : Hp} (s : Sit K n Hs H) : Ext Hs H := SameK.ext s.subK
section
variable {Γ : Gam} {X : Cx} {W : WX} {a b c : Expr} {ta tb tc : Ev → Wp D} {pos : Pos}
theorem tOp_of {r : R2} {f : D → D → Wp D} {ea eb : TE} (hr : R2D X.K r f)
    (fa : ∀ (σ : St) (H Hs : Hp) (ρ : Ev) (n : S) (q : D → S → Prop) (x : Exn → S → Prop) (Q : VK), Sit X.K n Hs H → R X.K ρ σ Hs → ta ρ n q x → OkQ X.K Hs H q Q → OkE X.K Γ Hs H x (fun c d h => W c d σ h) → ea σ H Q)
    (fb : ∀ (σ : St) (H Hs : Hp) (ρ : Ev) (n : S) (q : D → S → Prop) (x : Exn → S → Prop) (Q : VK), Sit X.K n Hs H → R X.K ρ σ Hs → tb ρ n q x → OkQ X.K Hs H q Q → OkE X.K Γ Hs H x (fun c d h => W c d σ h) → eb σ H Q)
    (σ : St) (H Hs : Hp) (ρ : Ev) (n : S) (q : D → S → Prop) (x : Exn → S → Prop) (Q : VK) (s : Sit X.K n Hs H) (rr : R X.K ρ σ Hs) (h : tbin f ta tb ρ n q x) (k : OkQ X.K Hs H q Q) (ke : OkE X.K Γ Hs H x (fun c d h => W c d σ h)) :
    tOp r ea eb σ H Q := by
  refine fa σ H Hs ρ n _ x _ s rr h (fun v H1 Hs1 d n1 g1 s1 hv h1 => ?_) ke
  refine fb σ H1 Hs1 ρ n1 _ x _ s1 (rr.ext g1.ext) h1 (fun w H2 Hs2 d2 n2 g2 s2 hw h2 => ?_) (ke.go g1)
  exact hr v w d d2 H2 Hs2 n2 q x Q s2 (hv.ext g2.ext) hw h2 (k.go (g1.trans g2))
theorem d_bin {op : Operator} {r : R2} {f : D → D → Wp D} (ho : OpR X (binaryOp op) r) (hr : R2D X.K r f) (ha : DE Γ X W a ta) (hb : DE Γ X W b tb) : DE Γ X W (.BinOp a op b pos) (tbin f ta tb) := by
  obtain ⟨ea, pa, fa⟩ := ha
  obtain ⟨eb, pb, fb⟩ := hb
  exact ⟨_, pe_op ho pa pb, tOp_of hr fa fb⟩
theorem d_cmp {op : CmpOp} {r : R2} {f : D → D → Wp D} (ho : OpR X (compareOp op) r) (hr : R2D X.K r f) (ha : DE Γ X W a ta) (hb : DE Γ X W b tb) (hm : behindInMarks op b = false) : DE Γ X W (.Compare a [op] [b] pos) (tbin f ta tb) := by
  obtain ⟨ea, pa, fa⟩ := ha
  obtain ⟨eb, pb, fb⟩ := hb
  exact ⟨_, pe_cmpR ho pa pb hm, tOp_of hr fa fb⟩
/-- a value that is a truth, as a test -/
def ttest (t : Ev → Wp D) : Ev → Wp Bool := fun ρ => Wp.bind (t ρ) fun d => match d with
  | .bl b => Wp.ret b
  | _ => Wp.stuck
theorem test_of {te : TE}
    (fa : ∀ (σ : St) (H Hs : Hp) (ρ : Ev) (n : S) (q : D → S → Prop) (x : Exn → S → Prop) (Q : VK), Sit X.K n Hs H → R X.K ρ σ Hs → ta ρ n q x → OkQ X.K Hs H q Q → OkE X.K Γ Hs H x (fun c d h => W c d σ h) → te σ H Q)
    (σ : St) (H Hs : Hp) (ρ : Ev) (n : S) (q : Bool → S → Prop) (x : Exn → S → Prop) (Q : Bool → Hp → Prop) (s : Sit X.K n Hs H) (r : R X.K ρ σ Hs) (h : ttest ta ρ n q x) (k : ∀ b H' Hs' n', Go Hs H Hs' H' → Sit X.K n' Hs' H' → q b n' → Q b H')
    (ke : OkE X.K Γ Hs H x (fun c d h => W c d σ h)) : te σ H fun v H' => ∃ b, v = .bl b ∧ Q b H' := by
  refine fa σ H Hs ρ n _ x _ s r h (fun v H1 Hs1 d n1 g1 s1 hv h1 => ?_) ke
  cases hv with
  | bl b => exact ⟨b, rfl, k b H1 Hs1 n1 g1 s1 h1⟩
  | _ => exact (show False from h1).elim
theorem dt_val (ha : DE Γ X W a ta) (he : ∀ whole, isTrue a X.env whole = (do let v ← whole; standAt a.pos; holding [v] (truthy v)) := by intro _; rfl) : DT Γ X W a (ttest ta) := by
  obtain ⟨ea, pa, fa⟩ := ha
  exact ⟨_, pt_val pa he, test_of fa⟩
theorem dt_cmp {op : CmpOp} {r : R2} {f : D → D → Wp D} (ho : OpR X (compareOp op) r) (hr : R2D X.K r f) (ha : DE Γ X W a ta) (hb : DE Γ X W b tb) (hm : behindInMarks op b = false) : DT Γ X W (.Compare a [op] [b] pos) (ttest (tbin f ta tb)) := by
  obtain ⟨ea, pa, fa⟩ := ha
  obtain ⟨eb, pb, fb⟩ := hb
  exact ⟨_, pt_cmpR ho pa pb hm, test_of (tOp_of hr fa fb)⟩
/-- a op b op' c -/
def tchain (f f' : D → D → Wp D) (ta tb tc : Ev → Wp D) : Ev → Wp D := fun ρ => Wp.bind (ta ρ) fun x => Wp.bind (tb ρ) fun y => Wp.bind (f x y) fun z => match z with
  | .bl true => Wp.bind (tc ρ) fun w => f' y w
  | .bl false => Wp.ret (.bl false)
  | _ => Wp.stuck
theorem tChain_of {r r' : R2} {f f' : D → D → Wp D} {ea eb ec : TE} (hr : R2D X.K r f) (hr' : R2D X.K r' f')
    (fa : ∀ (σ : St) (H Hs : Hp) (ρ : Ev) (n : S) (q : D → S → Prop) (x : Exn → S → Prop) (Q : VK), Sit X.K n Hs H → R X.K ρ σ Hs → ta ρ n q x → OkQ X.K Hs H q Q → OkE X.K Γ Hs H x (fun c d h => W c d σ h) → ea σ H Q)
    (fb : ∀ (σ : St) (H Hs : Hp) (ρ : Ev) (n : S) (q : D → S → Prop) (x : Exn → S → Prop) (Q : VK), Sit X.K n Hs H → R X.K ρ σ Hs → tb ρ n q x → OkQ X.K Hs H q Q → OkE X.K Γ Hs H x (fun c d h => W c d σ h) → eb σ H Q)
    (fc : ∀ (σ : St) (H Hs : Hp) (ρ : Ev) (n : S) (q : D → S → Prop) (x : Exn → S → Prop) (Q : VK), Sit X.K n Hs H → R X.K ρ σ Hs → tc ρ n q x → OkQ X.K Hs H q Q → OkE X.K Γ Hs H x (fun c d h => W c d σ h) → ec σ H Q)
    (σ : St) (H Hs : Hp) (ρ : Ev) (n : S) (q : D → S → Prop) (x : Exn → S → Prop) (Q : VK) (s : Sit X.K n Hs H) (rr : R X.K ρ σ Hs) (h : tchain f f' ta tb tc ρ n q x) (k : OkQ X.K Hs H q Q) (ke : OkE X.K Γ Hs H x (fun c d h => W c d σ h)) :
    tChain r r' ea eb ec σ H Q := by
  refine fa σ H Hs ρ n _ x _ s rr h (fun v H1 Hs1 d n1 g1 s1 hv h1 => ?_) ke
  refine fb σ H1 Hs1 ρ n1 _ x _ s1 (rr.ext g1.ext) h1 (fun w H2 Hs2 d2 n2 g2 s2 hw h2 => ?_) (ke.go g1)
  refine hr v w d d2 H2 Hs2 n2 _ x _ s2 (hv.ext g2.ext) hw h2 (fun z H3 Hs3 d3 n3 g3 s3 hz h3 => ?_)
  cases hz with
  | bl y =>
    refine ⟨y, rfl, ?_⟩
    cases y with
    | true =>
      rw [if_pos rfl]
      refine fc σ H3 Hs3 ρ n3 _ x _ s3 (rr.ext (g1.trans (g2.trans g3)).ext) h3 (fun u H4 Hs4 d4 n4 g4 s4 hu h4 => ?_) (ke.go (g1.trans (g2.trans g3)))
      exact hr' w u d2 d4 H4 Hs4 n4 q x Q s4 (hw.ext (g3.trans g4).ext) hu h4 (k.go (g1.trans (g2.trans (g3.trans g4))))
    | false =>
      rw [if_neg Bool.false_ne_true]
      exact k _ H3 Hs3 _ n3 (g1.trans (g2.trans g3)) s3 (.bl false) h3
  | _ => exact (show False from h3).elim
theorem d_chain {op op' : CmpOp} {r r' : R2} {f f' : D → D → Wp D} (ho : OpR X (compareOp op) r) (hr : R2D X.K r f) (ho' : OpR X (compareOp op') r') (hr' : R2D X.K r' f') (ha : DE Γ X W a ta) (hb : DE Γ X W b tb) (hc : DE Γ X W c tc)
    (hm : lastMarks [op, op'] [b, c] = false := by with_unfolding_all rfl) : DE Γ X W (.Compare a [op, op'] [b, c] pos) (tchain f f' ta tb tc) := by
  obtain ⟨ea, pa, fa⟩ := ha
  obtain ⟨eb, pb, fb⟩ := hb
  obtain ⟨ec, pc, fc⟩ := hc
  exact ⟨_, pe_chain ho ho' pa pb pc hm, tChain_of hr hr' fa fb fc⟩
theorem dt_chain {op op' : CmpOp} {r r' : R2} {f f' : D → D → Wp D} (ho : OpR X (compareOp op) r) (hr : R2D X.K r f) (ho' : OpR X (compareOp op') r') (hr' : R2D X.K r' f') (ha : DE Γ X W a ta) (hb : DE Γ X W b tb) (hc : DE Γ X W c tc)
    (hm : lastMarks [op, op'] [b, c] = false := by with_unfolding_all rfl) : DT Γ X W (.Compare a [op, op'] [b, c] pos) (ttest (tchain f f' ta tb tc)) := by
  obtain ⟨ea, pa, fa⟩ := ha
  obtain ⟨eb, pb, fb⟩ := hb
  obtain ⟨ec, pc, fc⟩ := hc
  exact ⟨_, pt_chain ho ho' pa pb pc hm, test_of (tChain_of hr hr' fa fb fc)⟩
/-- x is None, x is not None -/
def isNon : D → Bool
  | .non => true
  | _ => false
theorem isNon_of {K : PySem.W.Frag} {H : Hp} {x : V} {d : D} (h : Dv K H x d) : decide (x = .non) = isNon d := by
  cases h <;> first | rfl | exact decide_eq_false (fun z => nomatch z)
def tisN (ta : Ev → Wp D) : Ev → Wp D := fun ρ => Wp.bind (ta ρ) fun d => Wp.ret (.bl (isNon d))
def tnotN (ta : Ev → Wp D) : Ev → Wp D := fun ρ => Wp.bind (ta ρ) fun d => Wp.ret (.bl (!isNon d))
theorem d_isN {j p} (ha : DE Γ X W a ta) : DE Γ X W (.Compare a [.Is] [.Constant .none j p] pos) (tisN ta) := by
  obtain ⟨ea, pa, fa⟩ := ha
  refine ⟨_, pe_cmp (pc_isN pa), fun σ H Hs ρ n q x Q s r h k ke => fa σ H Hs ρ n _ x _ s r h (fun v H1 Hs1 d n1 g1 s1 hv h1 => ?_) ke⟩
  rw [isNon_of hv]
  exact k _ H1 Hs1 _ n1 g1 s1 (.bl _) h1
theorem d_notN {j p} (ha : DE Γ X W a ta) : DE Γ X W (.Compare a [.IsNot] [.Constant .none j p] pos) (tnotN ta) := by
  obtain ⟨ea, pa, fa⟩ := ha
  refine ⟨_, pe_cmp (pc_notN pa), fun σ H Hs ρ n q x Q s r h k ke => fa σ H Hs ρ n _ x _ s r h (fun v H1 Hs1 d n1 g1 s1 hv h1 => ?_) ke⟩
  rw [isNon_of hv]
  exact k _ H1 Hs1 _ n1 g1 s1 (.bl _) h1
theorem dt_isN {j p} (ha : DE Γ X W a ta) : DT Γ X W (.Compare a [.Is] [.Constant .none j p] pos) (ttest (tisN ta)) := by
  obtain ⟨ea, pa, fa⟩ := ha
  refine ⟨_, pt_cmp (pc_isN pa), test_of (te := tIsN ea) (ta := tisN ta) fun σ H Hs ρ n q x Q s r h k ke => fa σ H Hs ρ n _ x _ s r h (fun v H1 Hs1 d n1 g1 s1 hv h1 => ?_) ke⟩
  rw [isNon_of hv]
  exact k _ H1 Hs1 _ n1 g1 s1 (.bl _) h1
theorem dt_notN {j p} (ha : DE Γ X W a ta) : DT Γ X W (.Compare a [.IsNot] [.Constant .none j p] pos) (ttest (tnotN ta)) := by
  obtain ⟨ea, pa, fa⟩ := ha
  refine ⟨_, pt_cmp (pc_notN pa), test_of (te := tNotN ea) (ta := tnotN ta) fun σ H Hs ρ n q x Q s r h k ke => fa σ H Hs ρ n _ x _ s r h (fun v H1 Hs1 d n1 g1 s1 hv h1 => ?_) ke⟩
  rw [isNon_of hv]
  exact k _ H1 Hs1 _ n1 g1 s1 (.bl _) h1

/-! ### and, or, not, if -/
variable {ua ub : Ev → Wp Bool} {rest : List Expr}
def DW (Γ : Gam) (X : Cx) (W : WX) (e : Expr) (t : Ev → Wp Bool) : Prop := ∃ te : TT, PW X e te ∧ ∀ (σ : St) (H Hs : Hp) (ρ : Ev) (n : S) (q : Bool → S → Prop) (x : Exn → S → Prop) (Q : Bool → Hp → Prop),
  Sit X.K n Hs H → R X.K ρ σ Hs → t ρ n q x → (∀ b H' Hs' n', Go Hs H Hs' H' → Sit X.K n' Hs' H' → q b n' → Q b H') → OkE X.K Γ Hs H x (fun c d h => W c d σ h) → te σ H Q
theorem DW.dt {e : Expr} {t : Ev → Wp Bool} (h : DW Γ X W e t) : DT Γ X W e t := let ⟨te, p, f⟩ := h; ⟨te, p.pt, f⟩
def tand (t u : Ev → Wp Bool) : Ev → Wp Bool := fun ρ => Wp.bind (t ρ) fun c => if c = true then u ρ else Wp.ret false
def tor (t u : Ev → Wp Bool) : Ev → Wp Bool := fun ρ => Wp.bind (t ρ) fun c => if c = true then Wp.ret true else u ρ
def tnot (t : Ev → Wp Bool) : Ev → Wp Bool := fun ρ => Wp.bind (t ρ) fun c => Wp.ret (!c)
theorem dw_and1 (h : DT Γ X W a ua) : DW Γ X W (.BoolOp .And [a] pos) ua := let ⟨te, p, f⟩ := h; ⟨te, pw_and1 p, f⟩
theorem dw_or1 (h : DT Γ X W a ua) : DW Γ X W (.BoolOp .Or [a] pos) ua := let ⟨te, p, f⟩ := h; ⟨te, pw_or1 p, f⟩
theorem dw_and (h : DT Γ X W a ua) (g : DW Γ X W (.BoolOp .And (b :: rest) pos) ub) : DW Γ X W (.BoolOp .And (a :: b :: rest) pos) (tand ua ub) := by
  obtain ⟨ea, pa, fa⟩ := h
  obtain ⟨eb, pb, fb⟩ := g
  refine ⟨_, pw_and pa pb, fun σ H Hs ρ n q x Q s r h k ke => fa σ H Hs ρ n _ x _ s r h (fun c H1 Hs1 n1 g1 s1 h1 => ?_) ke⟩
  cases c with
  | true => exact fb σ H1 Hs1 ρ n1 q x Q s1 (r.ext g1.ext) h1 (fun b H2 Hs2 n2 g2 => k b H2 Hs2 n2 (g1.trans g2)) (ke.go g1)
  | false => exact k false H1 Hs1 n1 g1 s1 h1
theorem dw_or (h : DT Γ X W a ua) (g : DW Γ X W (.BoolOp .Or (b :: rest) pos) ub) : DW Γ X W (.BoolOp .Or (a :: b :: rest) pos) (tor ua ub) := by
  obtain ⟨ea, pa, fa⟩ := h
  obtain ⟨eb, pb, fb⟩ := g
  refine ⟨_, pw_or pa pb, fun σ H Hs ρ n q x Q s r h k ke => fa σ H Hs ρ n _ x _ s r h (fun c H1 Hs1 n1 g1 s1 h1 => ?_) ke⟩
  cases c with
  | false => exact fb σ H1 Hs1 ρ n1 q x Q s1 (r.ext g1.ext) h1 (fun b H2 Hs2 n2 g2 => k b H2 Hs2 n2 (g1.trans g2)) (ke.go g1)
  | true => exact k true H1 Hs1 n1 g1 s1 h1
theorem dt_not (h : DT Γ X W a ua) : DT Γ X W (.UnaryOp .Not a pos) (tnot ua) := by
  obtain ⟨ea, pa, fa⟩ := h
  exact ⟨_, pt_not pa, fun σ H Hs ρ n q x Q s r h k ke => fa σ H Hs ρ n _ x _ s r h (fun c H1 Hs1 n1 g1 s1 h1 => k (!c) H1 Hs1 n1 g1 s1 h1) ke⟩
def tandV (t u : Ev → Wp D) : Ev → Wp D := fun ρ => Wp.bind (t ρ) fun c => match c with
  | .bl true => u ρ
  | .bl false => Wp.ret (.bl false)
  | _ => Wp.stuck
def torV (t u : Ev → Wp D) : Ev → Wp D := fun ρ => Wp.bind (t ρ) fun c => match c with
  | .bl false => u ρ
  | .bl true => Wp.ret (.bl true)
  | _ => Wp.stuck
def tnotV (t : Ev → Wp D) : Ev → Wp D := fun ρ => Wp.bind (t ρ) fun c => match c with
  | .bl b => Wp.ret (.bl (!b))
  | _ => Wp.stuck
theorem d_one {op} (h : DE Γ X W a ta) : DE Γ X W (.BoolOp op [a] pos) ta := let ⟨te, p, f⟩ := h; ⟨te, pe_one p, f⟩
theorem d_and (h : DE Γ X W a ta) (g : DE Γ X W (.BoolOp .And (b :: rest) pos) tb) : DE Γ X W (.BoolOp .And (a :: b :: rest) pos) (tandV ta tb) := by
  obtain ⟨ea, pa, fa⟩ := h
  obtain ⟨eb, pb, fb⟩ := g
  refine ⟨_, pe_and pa pb, fun σ H Hs ρ n q x Q s r h k ke => fa σ H Hs ρ n _ x _ s r h (fun v H1 Hs1 d n1 g1 s1 hv h1 => ?_) ke⟩
  cases hv with
  | bl c =>
    refine ⟨c, rfl, ?_⟩
    cases c with
    | true => exact fb σ H1 Hs1 ρ n1 q x Q s1 (r.ext g1.ext) h1 (k.go g1) (ke.go g1)
    | false => exact k _ H1 Hs1 _ n1 g1 s1 (.bl false) h1
  | _ => exact (show False from h1).elim
theorem d_or (h : DE Γ X W a ta) (g : DE Γ X W (.BoolOp .Or (b :: rest) pos) tb) : DE Γ X W (.BoolOp .Or (a :: b :: rest) pos) (torV ta tb) := by
  obtain ⟨ea, pa, fa⟩ := h
  obtain ⟨eb, pb, fb⟩ := g
  refine ⟨_, pe_or pa pb, fun σ H Hs ρ n q x Q s r h k ke => fa σ H Hs ρ n _ x _ s r h (fun v H1 Hs1 d n1 g1 s1 hv h1 => ?_) ke⟩
  cases hv with
  | bl c =>
    refine ⟨c, rfl, ?_⟩
    cases c with
    | false => exact fb σ H1 Hs1 ρ n1 q x Q s1 (r.ext g1.ext) h1 (k.go g1) (ke.go g1)
    | true => exact k _ H1 Hs1 _ n1 g1 s1 (.bl true) h1
  | _ => exact (show False from h1).elim
theorem d_not (h : DE Γ X W a ta) : DE Γ X W (.UnaryOp .Not a pos) (tnotV ta) := by
  obtain ⟨ea, pa, fa⟩ := h
  refine ⟨_, pe_not pa, fun σ H Hs ρ n q x Q s r h k ke => fa σ H Hs ρ n _ x _ s r h (fun v H1 Hs1 d n1 g1 s1 hv h1 => ?_) ke⟩
  cases hv with
  | bl c => exact ⟨c, rfl, k _ H1 Hs1 _ n1 g1 s1 (.bl _) h1⟩
  | _ => exact (show False from h1).elim
def tif (c : Ev → Wp Bool) (t u : Ev → Wp D) : Ev → Wp D := fun ρ => Wp.bind (c ρ) fun z => if z = true then t ρ else u ρ
theorem d_if (hc : DT Γ X W c ua) (h : DE Γ X W a ta) (g : DE Γ X W b tb) : DE Γ X W (.IfExp c a b pos) (tif ua ta tb) := by
  obtain ⟨ec, pc, fc⟩ := hc
  obtain ⟨ea, pa, fa⟩ := h
  obtain ⟨eb, pb, fb⟩ := g
  refine ⟨_, pe_ifExp pc pa pb, fun σ H Hs ρ n q x Q s r h k ke => fc σ H Hs ρ n _ x _ s r h (fun z H1 Hs1 n1 g1 s1 h1 => ?_) ke⟩
  cases z with
  | true => exact fa σ H1 Hs1 ρ n1 q x Q s1 (r.ext g1.ext) h1 (k.go g1) (ke.go g1)
  | false => exact fb σ H1 Hs1 ρ n1 q x Q s1 (r.ext g1.ext) h1 (k.go g1) (ke.go g1)

/-! ### calls of built-ins -/
theorem d_callB {x : Str} {p : Pos} {es : List Expr} {t : Ev → Wp (List D)} {id : String} {r : List V → Hp → VK → Prop} {f : List D → Wp D} (hc : CallR X (.builtin id) r) (hr : CD X.K r f) (hg : Gl X x) (hm : X.mg x = none) (hv : bootBuiltins x = some (.builtin id)) (ha : DA Γ X W (a :: es) t)
    (hn : x ≠ "__name__" := by decide) (hdb : (x == ("__debug__" : Str)) = false := by decide) (he : starEach (a :: es) X.env = (false, eval a X.env) :: starEach es X.env := by rfl) (hpl : (backTo pos (starEach es X.env)).any (·.1) = false := by rfl) :
    DE Γ X W (.Call (.Name x p) (a :: es) [] pos) (tcall f t) := by
  obtain ⟨ea, pa, fa⟩ := ha
  refine ⟨_, pe_callB hc hg hm hv pa hn hdb he hpl, fun σ H Hs ρ n q x Q s rr h k ke => fa σ H Hs ρ n _ x _ s rr h (fun vs H1 Hs1 ds n1 g1 s1 hv h1 => ?_) ke⟩
  exact hr vs ds H1 Hs1 n1 q x Q s1 hv h1 (k.go g1)
theorem d_callTy {x : Str} {p : Pos} {es : List Expr} {t : Ev → Wp (List D)} {id : String} {r : List V → Hp → VK → Prop} {f : List D → Wp D} (hc : CallR X (.type id) r) (hr : CD X.K r f) (hg : Gl X x) (hm : X.mg x = none) (hv : bootBuiltins x = some (.type id)) (ha : DA Γ X W (a :: es) t)
    (hn : x ≠ "__name__" := by decide) (hdb : (x == ("__debug__" : Str)) = false := by decide) (he : starEach (a :: es) X.env = (false, eval a X.env) :: starEach es X.env := by rfl) (hpl : (backTo pos (starEach es X.env)).any (·.1) = false := by rfl) :
    DE Γ X W (.Call (.Name x p) (a :: es) [] pos) (tcall f t) := by
  obtain ⟨ea, pa, fa⟩ := ha
  refine ⟨_, pe_callTy hc hg hm hv pa hn hdb he hpl, fun σ H Hs ρ n q x Q s rr h k ke => fa σ H Hs ρ n _ x _ s rr h (fun vs H1 Hs1 ds n1 g1 s1 hv h1 => ?_) ke⟩
  exact hr vs ds H1 Hs1 n1 q x Q s1 hv h1 (k.go g1)
/-! ### subscripts -/
theorem d_ix {r : R2} {f : D → D → Wp D} (ho : IxR X r) (hr : R2D X.K r f) (ha : DE Γ X W a ta) (hb : DE Γ X W b tb) (hs : PlainIx b) : DE Γ X W (.Subscript a b pos) (tbin f ta tb) := by
  obtain ⟨ea, pa, fa⟩ := ha
  obtain ⟨eb, pb, fb⟩ := hb
  exact ⟨_, pe_ix ho pa pb hs, tOp_of hr fa fb⟩
end

/-! ### the operations on data -/
def fAdd : D → D → Wp D
  | .int i, .int j => Wp.ret (.int (i + j))
  | .str x, .str y => Wp.bind (Wp.ask (x.length + y.length ≤ 1000000)) fun _ => Wp.ret (.str (x ++ y))
  | .tup a, .tup b => Wp.bind (Wp.ask (a.length + b.length ≤ 1000000)) fun _ => Wp.ret (.tup (a ++ b))
  | .lst a, .lst b => Wp.bind (Wp.ask (a.length + b.length ≤ 1000000)) fun _ => Wp.ret (.lst (a ++ b))
  | _, _ => Wp.stuck
def rAddU (K : PySem.W.Frag) : R2 := fun x y H Q => rI0 (fun i j => .int (i + j)) x y H Q ∨ (∃ i j, x = .str i ∧ y = .str j ∧ i.length + j.length ≤ sizeLine ∧ Q (.str (i ++ j)) H) ∨ rCatA K x y H Q ∨ rCat x y H Q
theorem op_addU {X : Cx} : OpR X (binaryOp .Add) (rAddU X.K) := opR_or op_add (opR_or op_add_str (opR_or op_catA op_cat))
theorem r2_add {K : PySem.W.Frag} : R2D K (rAddU K) fAdd := by
  intro x y a b H Hs n q e Q s hx hy h k
  cases hx with
  | int i =>
    cases hy with
    | int j => exact .inl ⟨i, j, rfl, rfl, k _ H Hs _ n (.refl _ _) s (.int _) h⟩
    | _ => exact (show False from h).elim
  | str i =>
    cases hy with
    | str j => exact .inr (.inl ⟨i, j, rfl, rfl, line_le h.1, k _ H Hs _ n (.refl _ _) s (.str _) h.2⟩)
    | _ => exact (show False from h).elim
  | @tup a xs ds h1 g1 =>
    cases hy with
    | @tup b ys es h2 g2 =>
      refine .inr (.inr (.inl ⟨a, b, xs, ys, rfl, rfl, s.same.tup h1, s.same.tup h2, by rw [g1.length, g2.length]; exact line_le h.1, fun z => ?_, fun z1 z2 => ?_, fun z1 z2 p hp => ?_⟩))
      · subst z
        cases g1
        exact k _ H Hs _ n (.refl _ _) s (.tup h2 g2) h.2
      · subst z2
        cases g2
        refine k _ H Hs _ n (.refl _ _) s (.tup h1 g1) ?_
        have h2 := h.2
        rw [List.append_nil] at h2
        exact h2
      · obtain ⟨s1, g, v⟩ := new_tup s hp (g1.append g2)
        exact k _ _ _ _ n g s1 v h.2
    | _ => exact (show False from h).elim
  | @lst a xs ds h1 g1 =>
    cases hy with
    | @lst b ys es h2 g2 =>
      refine .inr (.inr (.inr ⟨a, b, xs, ys, rfl, rfl, s.sub _ _ h1, s.sub _ _ h2, by rw [g1.length, g2.length]; exact line_le h.1, fun p hp => ?_⟩))
      obtain ⟨s1, g, v⟩ := new_lst s hp (g1.append g2)
      exact k _ _ _ _ n g s1 v h.2
    | _ => exact (show False from h).elim
  | _ => exact (show False from h).elim
/-- an operation on two ints, under a condition -/
def fII (C : Int → Int → Prop) (g : Int → Int → D) : D → D → Wp D
  | .int i, .int j => Wp.bind (Wp.ask (C i j)) fun _ => Wp.ret (g i j)
  | _, _ => Wp.stuck
theorem r2_ii {K : PySem.W.Frag} {C C' : Int → Int → Prop} {g : Int → Int → D} {gv : Int → Int → V} (hC : ∀ i j, C i j → C' i j) (hg : ∀ H i j, Dv K H (gv i j) (g i j)) : R2D K (rI C' gv) (fII C g) := by
  intro x y a b H Hs n q e Q s hx hy h k
  cases hx with
  | int i =>
    cases hy with
    | int j => exact ⟨i, j, rfl, rfl, hC _ _ h.1, k _ H Hs _ n (.refl _ _) s (hg _ _ _) h.2⟩
    | _ => exact (show False from h).elim
  | _ => exact (show False from h).elim
def fI0 (g : Int → Int → D) : D → D → Wp D
  | .int i, .int j => Wp.ret (g i j)
  | _, _ => Wp.stuck
theorem r2_i0 {K : PySem.W.Frag} {g : Int → Int → D} {gv : Int → Int → V} (hg : ∀ H i j, Dv K H (gv i j) (g i j)) : R2D K (rI0 gv) (fI0 g) := by
  intro x y a b H Hs n q e Q s hx hy h k
  cases hx with
  | int i =>
    cases hy with
    | int j => exact ⟨i, j, rfl, rfl, k _ H Hs _ n (.refl _ _) s (hg _ _ _) h⟩
    | _ => exact (show False from h).elim
  | _ => exact (show False from h).elim
section
variable {Γ : Gam} {X : Cx} {W : WX} {a b c : Expr} {ta tb tc : Ev → Wp D} {pos : Pos}
/-- a power: a small base, or one of less than 2000 bits and at most the thousandth -/
def CPowA (i j : Int) : Prop := CPow i j ∨ (0 ≤ j ∧ j ≤ 1000 ∧ i.natAbs.log2 < 2000)
theorem op_powA : OpR X (binaryOp .Pow) (rI CPowA fun i j => .int (i ^ j.toNat)) := opI fun i j _ _ _ _ _ hc q => by
  rcases hc with hc | ⟨h0, h1, h2⟩
  · exact PyProof.Rows.pow_int_small hc.1 hc.2.1 hc.2.2 q
  · refine PyProof.Rows.pow_int h0 ?_ q
    have b : Builtin.Int.intBits i ≤ i.natAbs.log2 + 1 := by
      unfold Builtin.Int.intBits
      split <;> omega
    have h3 : (Builtin.Int.intBits i : Int) * j ≤ 2000 * 1000 := Int.le_trans (Int.mul_le_mul_of_nonneg_right (show (Builtin.Int.intBits i : Int) ≤ 2000 by omega) h0) (Int.mul_le_mul_of_nonneg_left h1 (by decide))
    exact Int.le_trans h3 (by decide)
abbrev fSub := fI0 fun i j => .int (i - j)
abbrev fLt := fI0 fun i j => .bl (decide (i < j))
abbrev fLe := fI0 fun i j => .bl (decide (i ≤ j))
abbrev fGt := fI0 fun i j => .bl (decide (j < i))
abbrev fGe := fI0 fun i j => .bl (decide (j ≤ i))
abbrev fMod := fII (fun _ j => j ≠ 0) fun i j => .int (i.fmod j)
abbrev fDiv := fII CDivW fun i j => .int (i / j)
abbrev fPow := fII CPowA fun i j => .int (i ^ j.toNat)
theorem d_add (ha : DE Γ X W a ta) (hb : DE Γ X W b tb) : DE Γ X W (.BinOp a .Add b pos) (tbin fAdd ta tb) := d_bin op_addU r2_add ha hb
theorem d_sub (ha : DE Γ X W a ta) (hb : DE Γ X W b tb) : DE Γ X W (.BinOp a .Sub b pos) (tbin fSub ta tb) := d_bin op_sub (r2_i0 fun _ _ _ => .int _) ha hb
theorem d_mod (ha : DE Γ X W a ta) (hb : DE Γ X W b tb) : DE Γ X W (.BinOp a .Mod b pos) (tbin fMod ta tb) := d_bin op_modN (r2_ii (fun _ _ z => z) fun _ _ _ => .int _) ha hb
theorem d_div (ha : DE Γ X W a ta) (hb : DE Γ X W b tb) : DE Γ X W (.BinOp a .FloorDiv b pos) (tbin fDiv ta tb) := d_bin op_fdivW (r2_ii (fun _ _ z => z) fun _ _ _ => .int _) ha hb
theorem d_pow (ha : DE Γ X W a ta) (hb : DE Γ X W b tb) : DE Γ X W (.BinOp a .Pow b pos) (tbin fPow ta tb) := d_bin op_powA (r2_ii (fun _ _ z => z) fun _ _ _ => .int _) ha hb
theorem d_lt (ha : DE Γ X W a ta) (hb : DE Γ X W b tb) : DE Γ X W (.Compare a [.Lt] [b] pos) (tbin fLt ta tb) := d_cmp op_lt (r2_i0 fun _ _ _ => .bl _) ha hb (nomark _)
theorem d_le (ha : DE Γ X W a ta) (hb : DE Γ X W b tb) : DE Γ X W (.Compare a [.LtE] [b] pos) (tbin fLe ta tb) := d_cmp op_le (r2_i0 fun _ _ _ => .bl _) ha hb (nomark _)
theorem d_gt (ha : DE Γ X W a ta) (hb : DE Γ X W b tb) : DE Γ X W (.Compare a [.Gt] [b] pos) (tbin fGt ta tb) := d_cmp op_gt (r2_i0 fun _ _ _ => .bl _) ha hb (nomark _)
theorem d_ge (ha : DE Γ X W a ta) (hb : DE Γ X W b tb) : DE Γ X W (.Compare a [.GtE] [b] pos) (tbin fGe ta tb) := d_cmp op_ge (r2_i0 fun _ _ _ => .bl _) ha hb (nomark _)
theorem dt_lt (ha : DE Γ X W a ta) (hb : DE Γ X W b tb) : DT Γ X W (.Compare a [.Lt] [b] pos) (ttest (tbin fLt ta tb)) := dt_cmp op_lt (r2_i0 fun _ _ _ => .bl _) ha hb (nomark _)
theorem dt_le (ha : DE Γ X W a ta) (hb : DE Γ X W b tb) : DT Γ X W (.Compare a [.LtE] [b] pos) (ttest (tbin fLe ta tb)) := dt_cmp op_le (r2_i0 fun _ _ _ => .bl _) ha hb (nomark _)
theorem dt_gt (ha : DE Γ X W a ta) (hb : DE Γ X W b tb) : DT Γ X W (.Compare a [.Gt] [b] pos) (ttest (tbin fGt ta tb)) := dt_cmp op_gt (r2_i0 fun _ _ _ => .bl _) ha hb (nomark _)
theorem dt_ge (ha : DE Γ X W a ta) (hb : DE Γ X W b tb) : DT Γ X W (.Compare a [.GtE] [b] pos) (ttest (tbin fGe ta tb)) := dt_cmp op_ge (r2_i0 fun _ _ _ => .bl _) ha hb (nomark _)
theorem d_lele (ha : DE Γ X W a ta) (hb : DE Γ X W b tb) (hc : DE Γ X W c tc) (hm : lastMarks [.LtE, .LtE] [b, c] = false := by with_unfolding_all rfl) : DE Γ X W (.Compare a [.LtE, .LtE] [b, c] pos) (tchain fLe fLe ta tb tc) :=
  d_chain op_le (r2_i0 fun _ _ _ => .bl _) op_le (r2_i0 fun _ _ _ => .bl _) ha hb hc hm
theorem dt_lele (ha : DE Γ X W a ta) (hb : DE Γ X W b tb) (hc : DE Γ X W c tc) (hm : lastMarks [.LtE, .LtE] [b, c] = false := by with_unfolding_all rfl) : DT Γ X W (.Compare a [.LtE, .LtE] [b, c] pos) (ttest (tchain fLe fLe ta tb tc)) :=
  dt_chain op_le (r2_i0 fun _ _ _ => .bl _) op_le (r2_i0 fun _ _ _ => .bl _) ha hb hc hm
theorem tuple_mul1 (l : Addr) (items : Array Value) (n : Nat) (dd : Option Addr) (sl : Array (Option Value)) (u : Tok) :
    Meets (Builtin.«tuple.__mul__» ⟨[.ref l, .int 1 u], []⟩) (fun _ R s => s.heap.get? l = some { cls := .type "tuple", dict := dd, data := .seq items n, slots := sl } ∧ R (.ok (.ret (Value.ref l))) s) :=
  .of_wp fun prog w A R s h => by
    obtain ⟨hp, g, d, tk, os⟩ := s
    obtain ⟨hl, h⟩ := h
    have f1 := AutoSeq1.idx_int
    have c1 : (items.isEmpty || (1 : Int) == 1) = true := by simp
    wp_walk using wpAny_loadPart' hl
    repeat (first
      | (refine wpAny_ite_false (decide_eq_false (by decide)) ?_; wp_walk using wpAny_loadPart' hl)
      | (refine wpAny_ite_true (decide_eq_true c1) ?_; wp_walk using wpAny_loadPart' hl))
    exact ⟨_, rfl, h⟩
/-- t * 1 is t itself -/
def rRep1 (K : PySem.W.Frag) : R2 := fun x y H Q => ∃ l xs, x = .ref l ∧ y = .int 1 ∧ SqT K H l xs ∧ Q (.ref l) H
theorem op_rep1 : OpR X (binaryOp .Mult) (rRep1 X.K) := by
  intro pins s σ H x y v u Q I rx ry h
  obtain ⟨l, xs, rfl, rfl, hT, q⟩ := h
  cases rx
  obtain ⟨t, rfl⟩ := ry
  obtain ⟨its, r, ⟨⟨cls, dd, data, sl⟩, ho, hc, n, hd⟩, hs⟩ := I.tuple hT
  simp only at hc hd
  subst hc hd
  exact wpAny_binaryOp_repeat_ref (T := "tuple") (U := "int") (by decide) ⟨_, ho, rfl⟩ (fun s' => typeIs_int s' 1 t) noFill_tuple_mul F.fills_int_mul F.slot_int_rmul repeat_tuple F.slot_int_index.lookup
    (call_meets F.slot_int_rmul (typeIs_int s 1 t) F.entry_int_rmul (F.args_int_rmul_2 _ _) (int_rmul_tuple 1 t l its.toArray n dd sl)
      ⟨ho, rfl, ⟨_, ho, rfl⟩, call_meets F.slot_tuple_mul ⟨_, ho, rfl⟩ F.entry_tuple_mul (F.args_tuple_mul_2 _ _) (tuple_mul1 l its.toArray n dd sl t) ⟨ho, ⟨.ref l, H, I, rfl, q⟩⟩⟩)
/-- a product: one factor small, both together of less than a million bits, or a sequence so many times -/
def CMulA (i j : Int) : Prop := CMul i j ∨ CMulW i j
def fMul : D → D → Wp D
  | .int i, .int j => Wp.bind (Wp.ask (CMulA i j)) fun _ => Wp.ret (.int (i * j))
  | .tup l, .int k => Wp.bind (Wp.ask (l ≠ [] ∧ 1 ≤ k ∧ k ≤ 1000 ∧ l.length ≤ 1000)) fun _ => Wp.ret (.tup (List.replicate k.toNat l).flatten)
  | .lst l, .int k => Wp.bind (Wp.ask (0 ≤ k ∧ k ≤ 1000 ∧ l.length ≤ 1000)) fun _ => Wp.ret (.lst (List.replicate k.toNat l).flatten)
  | _, _ => Wp.stuck
def rMulU (K : PySem.W.Frag) : R2 := fun x y H Q => rI CMul (fun i j => .int (i * j)) x y H Q ∨ rI CMulW (fun i j => .int (i * j)) x y H Q ∨ rRepT K x y H Q ∨ rRep x y H Q ∨ rRep1 K x y H Q
theorem op_mulU : OpR X (binaryOp .Mult) (rMulU X.K) := opR_or op_mul (opR_or op_mulW (opR_or op_repT (opR_or op_rep op_rep1)))
theorem r2_mul {K : PySem.W.Frag} : R2D K (rMulU K) fMul := by
  intro x y a b H Hs n q e Q s hx hy h k
  cases hx with
  | int i =>
    cases hy with
    | int j =>
      rcases h.1 with z | z
      · exact .inl ⟨i, j, rfl, rfl, z, k _ H Hs _ n (.refl _ _) s (.int _) h.2⟩
      · exact .inr (.inl ⟨i, j, rfl, rfl, z, k _ H Hs _ n (.refl _ _) s (.int _) h.2⟩)
    | _ => exact (show False from h).elim
  | @tup a xs ds h1 g1 =>
    cases hy with
    | int j =>
      obtain ⟨⟨z1, z2, z3, z4⟩, h2⟩ := h
      by_cases j1 : j = 1
      · subst j1
        rw [show (List.replicate (Int.toNat 1) ds).flatten = ds by simp] at h2
        exact .inr (.inr (.inr (.inr ⟨a, xs, rfl, rfl, s.same.tup h1, k _ H Hs _ n (.refl _ _) s (.tup h1 g1) h2⟩)))
      refine .inr (.inr (.inl ⟨a, j, xs, rfl, rfl, s.same.tup h1, fun z => z1 ?_, by omega, z3, by rw [g1.length]; exact z4, fun p hp => ?_⟩))
      · subst z; cases g1; rfl
      · obtain ⟨s1, g, v⟩ := new_tup s hp (g1.rep j.toNat)
        exact k _ _ _ _ n g s1 v h2
    | _ => exact (show False from h).elim
  | @lst a xs ds h1 g1 =>
    cases hy with
    | int j =>
      obtain ⟨⟨z1, z2, z3⟩, h2⟩ := h
      refine .inr (.inr (.inr (.inl ⟨a, j, xs, rfl, rfl, s.sub _ _ h1, by omega, by omega, ?_, fun p hp => ?_⟩)))
      · rw [g1.length]
        have : ds.length * j.toNat ≤ 1000 * 1000 := Nat.mul_le_mul z3 (by omega)
        exact line_le (by omega)
      · obtain ⟨s1, g, v⟩ := new_lst s hp (g1.rep j.toNat)
        exact k _ _ _ _ n g s1 v h2
    | _ => exact (show False from h).elim
  | _ => exact (show False from h).elim
theorem d_mul (ha : DE Γ X W a ta) (hb : DE Γ X W b tb) : DE Γ X W (.BinOp a .Mult b pos) (tbin fMul ta tb) := d_bin op_mulU r2_mul ha hb
def fNeg : D → Wp D
  | .int i => Wp.ret (.int (-i))
  | _ => Wp.stuck
theorem d_neg (ha : DE Γ X W a ta) : DE Γ X W (.UnaryOp .USub a pos) (tbind fNeg ta) := by
  obtain ⟨ea, pa, fa⟩ := ha
  refine ⟨_, pe_un un_neg pa, fun σ H Hs ρ n q x Q s r h k ke => fa σ H Hs ρ n _ x _ s r h (fun v H1 Hs1 d n1 g1 s1 hv h1 => ?_) ke⟩
  cases hv with
  | int i => exact ⟨i, rfl, k _ H1 Hs1 _ n1 g1 s1 (.int _) h1⟩
  | _ => exact (show False from h1).elim
end
end OE

namespace OE
open PySem PySem.Spec L2
variable [TN]

/-! ### items, slices, lengths, kinds -/
def cut {α : Type} (xs : List α) (lo hi : Option Int) : List α := (xs.drop (HT.sIx xs.length 0 lo)).take (HT.sIx xs.length xs.length hi - HT.sIx xs.length 0 lo)
theorem DvAll.cut {K : PySem.W.Frag} {H : Hp} {vs : List V} {ds : List D} (g : DvAll K H vs ds) (lo hi : Option Int) : DvAll K H (cutV vs lo hi) (OE.cut ds lo hi) := by
  unfold cutV OE.cut
  rw [g.length]
  exact (g.drop _).take _
theorem ints_cut (ns : List Int) (lo hi : Option Int) : cutV (ns.map V.int) lo hi = (OE.cut ns lo hi).map V.int := by
  unfold cutV OE.cut
  rw [List.length_map, ← List.map_drop, ← List.map_take]
theorem atI_of {K : PySem.W.Frag} {H : Hp} {vs : List V} {ds : List D} (g : DvAll K H vs ds) {i : Int} {d : D} (h : atI ds i = some d) : ∃ v, atI vs i = some v ∧ Dv K H v d := by
  unfold atI at h ⊢
  rw [g.length]
  cases e : ixN ds.length i with
  | none => rw [e] at h; cases h
  | some j =>
    rw [e] at h
    exact g.get h
def fIx : D → D → Wp D
  | .lst l, .int i => fun n q _ => ∃ d, atI l i = some d ∧ q d n
  | .tup l, .int i => fun n q _ => ∃ d, atI l i = some d ∧ q d n
  | .scr l, .int i => fun n q _ => ∃ d, atI l i = some d ∧ q (.int d) n
  | .str z, .int i => fun n q _ => z.length ≤ 1000000 ∧ ∃ c, atI z.cps.toList i = some c ∧ q (.str ⟨#[c]⟩) n
  | .mref a, .int i => fun n q _ => ∃ l d, n.mu a = some (.lst l) ∧ atI l i = some d ∧ q d n
  | _, _ => Wp.stuck
theorem r2_ix {K : PySem.W.Frag} : R2D K (rIx K) fIx := by
  intro x y a b H Hs n q e Q s hx hy h k
  cases hx with
  | mref a =>
    cases hy with
    | int i =>
      obtain ⟨l, d, hm, h2, h3⟩ := h
      obtain ⟨_, xs, hl, g1⟩ := s.muts _ _ hm
      obtain ⟨v, h4, h5⟩ := atI_of g1 h2
      exact .inl ⟨a, xs, i, v, rfl, rfl, SqL.of hl, h4, k _ H Hs _ n (.refl _ _) s h5 h3⟩
    | _ => exact (show False from h).elim
  | @lst a xs ds h1 g1 =>
    cases hy with
    | int i =>
      obtain ⟨d, h2, h3⟩ := h
      obtain ⟨v, h4, h5⟩ := atI_of g1 h2
      exact .inl ⟨a, xs, i, v, rfl, rfl, SqL.of (s.sub _ _ h1), h4, k _ H Hs _ n (.refl _ _) s h5 h3⟩
    | _ => exact (show False from h).elim
  | @scr a ns h1 =>
    cases hy with
    | int i =>
      obtain ⟨d, h2, h3⟩ := h
      have z : atI (ns.map V.int) i = some (V.int d) := by
        unfold atI at h2 ⊢
        rw [List.length_map]
        cases e : ixN ns.length i with
        | none => rw [e] at h2; cases h2
        | some j =>
          rw [e] at h2
          show (ns.map V.int)[j]? = _
          rw [List.getElem?_map]
          have h2' : ns[j]? = some d := h2
          rw [h2']; rfl
      exact .inl ⟨a, _, i, _, rfl, rfl, s.same.lst h1, z, k _ H Hs _ n (.refl _ _) s (.int d) h3⟩
    | _ => exact (show False from h).elim
  | @tup a xs ds h1 g1 =>
    cases hy with
    | int i =>
      obtain ⟨d, h2, h3⟩ := h
      obtain ⟨v, h4, h5⟩ := atI_of g1 h2
      exact .inr (.inl ⟨a, xs, i, v, rfl, rfl, s.same.tup h1, h4, k _ H Hs _ n (.refl _ _) s h5 h3⟩)
    | _ => exact (show False from h).elim
  | str z =>
    cases hy with
    | int i =>
      obtain ⟨h0, c, h2, h3⟩ := h
      exact .inr (.inr ⟨z, i, c, rfl, rfl, line_le h0, h2, k _ H Hs _ n (.refl _ _) s (.str _) h3⟩)
    | _ => exact (show False from h).elim
  | _ => exact (show False from h).elim
section
variable {Γ : Gam} {X : Cx} {W : WX} {a b c : Expr} {ta tb tc : Ev → Wp D} {pos : Pos}
theorem d_item (ha : DE Γ X W a ta) (hb : DE Γ X W b tb) (hs : PlainIx b := by exact fun _ _ => rfl) : DE Γ X W (.Subscript a b pos) (tbin fIx ta tb) := d_ix ix_seq r2_ix ha hb hs
/-- the ends of a slice -/
def DO (Γ : Gam) (X : Cx) (W : WX) (e : Option Expr) (t : Ev → Wp (Option Int)) : Prop := ∃ te : TO, PO X e te ∧ ∀ (σ : St) (H Hs : Hp) (ρ : Ev) (n : S) (q : Option Int → S → Prop) (x : Exn → S → Prop) (Q : Option Int → Hp → Prop),
  Sit X.K n Hs H → R X.K ρ σ Hs → t ρ n q x → (∀ o H' Hs' n', Go Hs H Hs' H' → Sit X.K n' Hs' H' → q o n' → Q o H') → OkE X.K Γ Hs H x (fun c d h => W c d σ h) → te σ H Q
def tpart (t : Ev → Wp D) : Ev → Wp (Option Int) := fun ρ => Wp.bind (t ρ) fun d => match d with
  | .int i => Wp.ret (some i)
  | _ => Wp.stuck
theorem do_none : DO Γ X W none (fun _ => Wp.ret none) := ⟨_, po_none, fun σ H Hs ρ n q x Q s r h k _ => k none H Hs n (.refl _ _) s h⟩
theorem do_some (ha : DE Γ X W a ta) : DO Γ X W (some a) (tpart ta) := by
  obtain ⟨ea, pa, fa⟩ := ha
  refine ⟨_, po_some pa, fun σ H Hs ρ n q x Q s r h k ke => fa σ H Hs ρ n _ x _ s r h (fun v H1 Hs1 d n1 g1 s1 hv h1 => ?_) ke⟩
  cases hv with
  | int i => exact ⟨i, rfl, k _ H1 Hs1 n1 g1 s1 h1⟩
  | _ => exact (show False from h1).elim
def fSl : D → Option Int → Option Int → Wp D
  | .lst l, lo, hi => Wp.ret (.lst (cut l lo hi))
  | .tup l, lo, hi => Wp.ret (.tup (cut l lo hi))
  | .scr l, lo, hi => Wp.ret (.lst ((cut l lo hi).map D.int))
  | .str z, lo, hi => Wp.bind (Wp.ask (z.length ≤ 1000000)) fun _ => Wp.ret (.str (cutS z lo hi))
  | _, _, _ => Wp.stuck
def tslice (t : Ev → Wp D) (l h : Ev → Wp (Option Int)) : Ev → Wp D := fun ρ => Wp.bind (t ρ) fun d => Wp.bind (l ρ) fun lo => Wp.bind (h ρ) fun hi => fSl d lo hi
def rSlU (K : PySem.W.Frag) : V → Option Int → Option Int → Hp → VK → Prop := fun x lo hi H Q => rSlL K x lo hi H Q ∨ rSlA K x lo hi H Q ∨ rSlS x lo hi H Q
theorem sl_all : SlR X (rSlU X.K) := sl_list.or (sl_tupA.or sl_str)
theorem cut_whole {α : Type} (xs : List α) (lo hi : Option Int) (h : HT.sIx xs.length 0 lo = 0 ∧ HT.sIx xs.length xs.length hi = xs.length) : cut xs lo hi = xs := by
  unfold cut
  rw [h.1, h.2]
  simp
theorem d_slice {lo hi : Option Expr} {p2 : Pos} {tl th : Ev → Wp (Option Int)} (ha : DE Γ X W a ta) (hl : DO Γ X W lo tl) (hh : DO Γ X W hi th) : DE Γ X W (.Subscript a (.Slice lo hi none p2) pos) (tslice ta tl th) := by
  obtain ⟨ea, pa, fa⟩ := ha
  obtain ⟨el, pl, fl⟩ := hl
  obtain ⟨eh, ph, fh⟩ := hh
  refine ⟨_, pe_slice sl_all pa pl ph, fun σ H Hs ρ n q x Q s r h k ke => fa σ H Hs ρ n _ x _ s r h (fun v H1 Hs1 d n1 g1 s1 hv h1 => ?_) ke⟩
  refine fl σ H1 Hs1 ρ n1 _ x _ s1 (r.ext g1.ext) h1 (fun o H2 Hs2 n2 g2 s2 h2 => ?_) (ke.go g1)
  refine fh σ H2 Hs2 ρ n2 _ x _ s2 (r.ext (g1.trans g2).ext) h2 (fun o' H3 Hs3 n3 g3 s3 h3 => ?_) (ke.go (g1.trans g2))
  have hv := hv.ext (g2.trans g3).ext
  have k := k.go (g1.trans (g2.trans g3))
  cases hv with
  | @lst a xs ds e1 g =>
    refine .inl ⟨a, xs, rfl, SqL.of (s3.sub _ _ e1), fun p hp => ?_⟩
    obtain ⟨s4, g4, v4⟩ := new_lst s3 hp (g.cut o o')
    exact k _ _ _ _ n3 g4 s4 v4 h3
  | @scr a ns e1 =>
    refine .inl ⟨a, _, rfl, s3.same.lst e1, fun p hp => ?_⟩
    rw [ints_cut]
    obtain ⟨s4, g4, v4⟩ := new_lst s3 hp (DvAll.ints (K := X.K) (OE.cut ns o o'))
    exact k _ _ _ _ n3 g4 s4 v4 h3
  | @tup a xs ds e1 g =>
    refine .inr (.inl ⟨a, xs, rfl, s3.same.tup e1, fun z => ?_, fun z p hp => ?_⟩)
    · rw [g.length] at z
      have h3' : q (.tup (OE.cut ds o o')) n3 := h3
      rw [cut_whole ds o o' z] at h3'
      exact k _ H3 Hs3 _ n3 (.refl _ _) s3 (.tup e1 g) h3'
    · obtain ⟨s4, g4, v4⟩ := new_tup s3 hp (g.cut o o')
      exact k _ _ _ _ n3 g4 s4 v4 h3
  | str z => exact .inr (.inr ⟨z, rfl, line_le h3.1, k _ H3 Hs3 _ n3 (.refl _ _) s3 (.str _) h3.2⟩)
  | _ => exact (show False from h3).elim

def fLen : List D → Wp D
  | [.lst l] => Wp.ret (.int l.length)
  | [.tup l] => Wp.ret (.int l.length)
  | [.scr l] => Wp.ret (.int l.length)
  | [.str z] => Wp.bind (Wp.ask (z.length ≤ 1000000)) fun _ => Wp.ret (.int z.length)
  | [.mref a] => fun n q _ => ∃ l, n.mu a = some (.lst l) ∧ q (.int l.length) n
  | _ => Wp.stuck
theorem cd_len {K : PySem.W.Frag} : CD K (fun xs H Q => ∃ x n, xs = [x] ∧ LenV K x H n ∧ Q (.int n) H) fLen := by
  intro xs ds H Hs n q e Q s hx h k
  cases hx with
  | nil => exact (show False from h).elim
  | @cons v vs d ds hv g =>
    cases g with
    | cons _ _ => cases d <;> exact (show False from h).elim
    | nil =>
      cases hv with
      | mref a =>
        obtain ⟨l, hm, h⟩ := h
        obtain ⟨_, xs, hl, g1⟩ := s.muts _ _ hm
        exact ⟨_, xs.length, rfl, .inl ⟨xs, SqL.of hl, rfl⟩, by rw [g1.length]; exact k _ H Hs _ n (.refl _ _) s (.int _) h⟩
      | @lst a xs ds h1 g1 => exact ⟨_, xs.length, rfl, .inl ⟨xs, SqL.of (s.sub _ _ h1), rfl⟩, by rw [g1.length]; exact k _ H Hs _ n (.refl _ _) s (.int _) h⟩
      | @scr a ns h1 => exact ⟨_, ns.length, rfl, .inl ⟨_, s.same.lst h1, by rw [List.length_map]⟩, k _ H Hs _ n (.refl _ _) s (.int _) h⟩
      | @tup a xs ds h1 g1 => exact ⟨_, xs.length, rfl, .inr ⟨xs, s.same.tup h1, rfl⟩, by rw [g1.length]; exact k _ H Hs _ n (.refl _ _) s (.int _) h⟩
      | str z => exact ⟨_, z.length, rfl, ⟨line_le h.1, rfl⟩, k _ H Hs _ n (.refl _ _) s (.int _) h.2⟩
      | _ => exact (show False from h).elim
theorem d_len {p : Pos} {t : Ev → Wp (List D)} (hm : X.mg "len" = none) (ha : DA Γ X W [a] t) (hg : Gl X "len" := by rfl) (he : starEach [a] X.env = (false, eval a X.env) :: starEach [] X.env := by rfl) (hpl : (backTo pos (starEach [] X.env)).any (·.1) = false := by rfl) :
    DE Γ X W (.Call (.Name "len" p) [a] [] pos) (tcall fLen t) := d_callB call_len cd_len hg hm PySem.boot_len ha (by decide) (by decide) he hpl
def fInt : List D → Wp D
  | [.int i] => Wp.ret (.int i)
  | [.bl b] => Wp.ret (.int (if b then 1 else 0))
  | _ => Wp.stuck
theorem cd_int {K : PySem.W.Frag} : CD K (fun xs H Q => (∃ i, xs = [.int i] ∧ Q (.int i) H) ∨ ∃ k, xs = [.bl k] ∧ Q (.int (if k then 1 else 0)) H) fInt := by
  intro xs ds H Hs n q e Q s hx h k
  cases hx with
  | nil => exact (show False from h).elim
  | @cons v vs d ds hv g =>
    cases g with
    | cons _ _ => cases d <;> exact (show False from h).elim
    | nil =>
      cases hv with
      | int i => exact .inl ⟨i, rfl, k _ H Hs _ n (.refl _ _) s (.int _) h⟩
      | bl i => exact .inr ⟨i, rfl, k _ H Hs _ n (.refl _ _) s (.int _) h⟩
      | _ => exact (show False from h).elim
theorem d_toInt {p : Pos} {t : Ev → Wp (List D)} (hm : X.mg "int" = none) (ha : DA Γ X W [a] t) (hg : Gl X "int" := by rfl) (he : starEach [a] X.env = (false, eval a X.env) :: starEach [] X.env := by rfl) (hpl : (backTo pos (starEach [] X.env)).any (·.1) = false := by rfl) :
    DE Γ X W (.Call (.Name "int" p) [a] [] pos) (tcall fInt t) := d_callTy call_int1 cd_int hg hm PyProof.Rows.boot_int ha (by decide) (by decide) he hpl
def fMin : List D → Wp D
  | [.int i, .int j] => Wp.ret (.int (if j < i then j else i))
  | _ => Wp.stuck
def fMax : List D → Wp D
  | [.int i, .int j] => Wp.ret (.int (if j > i then j else i))
  | _ => Wp.stuck
theorem cd_min {K : PySem.W.Frag} : CD K (fun xs H Q => ∃ i j, xs = [.int i, .int j] ∧ Q (.int (if j < i then j else i)) H) fMin := by
  intro xs ds H Hs n q e Q s hx h k
  rcases hx with _ | ⟨hv, _ | ⟨hw, _ | ⟨_, _⟩⟩⟩
  · exact (show False from h).elim
  · cases hv <;> exact (show False from h).elim
  · cases hv <;> cases hw <;> first | exact (show False from h).elim | exact ⟨_, _, rfl, k _ H Hs _ n (.refl _ _) s (.int _) h⟩
  · cases hv <;> cases hw <;> exact (show False from h).elim
theorem cd_max {K : PySem.W.Frag} : CD K (fun xs H Q => ∃ i j, xs = [.int i, .int j] ∧ Q (.int (if j > i then j else i)) H) fMax := by
  intro xs ds H Hs n q e Q s hx h k
  rcases hx with _ | ⟨hv, _ | ⟨hw, _ | ⟨_, _⟩⟩⟩
  · exact (show False from h).elim
  · cases hv <;> exact (show False from h).elim
  · cases hv <;> cases hw <;> first | exact (show False from h).elim | exact ⟨_, _, rfl, k _ H Hs _ n (.refl _ _) s (.int _) h⟩
  · cases hv <;> cases hw <;> exact (show False from h).elim
theorem d_min {p : Pos} {t : Ev → Wp (List D)} (hm : X.mg "min" = none) (ha : DA Γ X W [a, b] t) (hc : X.calm = true := by rfl) (hg : Gl X "min" := by rfl) (he : starEach [a, b] X.env = (false, eval a X.env) :: starEach [b] X.env := by rfl) (hpl : (backTo pos (starEach [b] X.env)).any (·.1) = false := by rfl) :
    DE Γ X W (.Call (.Name "min" p) [a, b] [] pos) (tcall fMin t) := d_callB (call_min2 hc) cd_min hg hm (by decide +kernel) ha (by decide) (by decide) he hpl
theorem d_max {p : Pos} {t : Ev → Wp (List D)} (hm : X.mg "max" = none) (ha : DA Γ X W [a, b] t) (hc : X.calm = true := by rfl) (hg : Gl X "max" := by rfl) (he : starEach [a, b] X.env = (false, eval a X.env) :: starEach [b] X.env := by rfl) (hpl : (backTo pos (starEach [b] X.env)).any (·.1) = false := by rfl) :
    DE Γ X W (.Call (.Name "max" p) [a, b] [] pos) (tcall fMax t) := d_callB (call_max2 hc) cd_max hg hm (by decide +kernel) ha (by decide) (by decide) he hpl
def fTuple : List D → Wp D
  | [.lst l] => Wp.ret (.tup l)
  | [.tup l] => Wp.ret (.tup l)
  | [.scr l] => Wp.ret (.tup (l.map D.int))
  | _ => Wp.stuck
theorem cd_tuple {K : PySem.W.Frag} : CD K (fun xs H Q => ∃ p ys, xs = [.ref p] ∧ ((SqL K H p ys ∧ ∀ l, H l = none → Q (.ref l) (upd H l (.tup ys))) ∨ (SqT K H p ys ∧ Q (.ref p) H))) fTuple := by
  intro xs ds H Hs n q e Q s hx h k
  cases hx with
  | nil => exact (show False from h).elim
  | @cons v vs d ds hv g =>
    cases g with
    | cons _ _ => cases d <;> exact (show False from h).elim
    | nil =>
      cases hv with
      | @lst a xs ds h1 g1 =>
        refine ⟨a, xs, rfl, .inl ⟨SqL.of (s.sub _ _ h1), fun p hp => ?_⟩⟩
        obtain ⟨s4, g4, v4⟩ := new_tup s hp g1
        exact k _ _ _ _ n g4 s4 v4 h
      | @scr a ns h1 =>
        refine ⟨a, _, rfl, .inl ⟨s.same.lst h1, fun p hp => ?_⟩⟩
        obtain ⟨s4, g4, v4⟩ := new_tup s hp (DvAll.ints (K := K) ns)
        exact k _ _ _ _ n g4 s4 v4 h
      | @tup a xs ds h1 g1 => exact ⟨a, xs, rfl, .inr ⟨s.same.tup h1, k _ H Hs _ n (.refl _ _) s (.tup h1 g1) h⟩⟩
      | _ => exact (show False from h).elim
theorem d_tuple {p : Pos} {t : Ev → Wp (List D)} (hm : X.mg "tuple" = none) (ha : DA Γ X W [a] t) (hg : Gl X "tuple" := by rfl) (he : starEach [a] X.env = (false, eval a X.env) :: starEach [] X.env := by rfl) (hpl : (backTo pos (starEach [] X.env)).any (·.1) = false := by rfl) :
    DE Γ X W (.Call (.Name "tuple" p) [a] [] pos) (tcall fTuple t) := d_callTy call_tuple_of cd_tuple hg hm PyProof.Rows.boot_tuple ha (by decide) (by decide) he hpl
def fList : List D → Wp D
  | [.lst l] => Wp.ret (.lst l)
  | [.tup l] => Wp.ret (.lst l)
  | [.scr l] => Wp.ret (.lst (l.map D.int))
  | _ => Wp.stuck
theorem cd_list {K : PySem.W.Frag} : CD K (fun xs H Q => ∃ p ys, xs = [.ref p] ∧ (SqL K H p ys ∨ SqT K H p ys) ∧ ∀ l, H l = none → Q (.ref l) (upd H l (.lst ys))) fList := by
  intro xs ds H Hs n q e Q s hx h k
  cases hx with
  | nil => exact (show False from h).elim
  | @cons v vs d ds hv g =>
    cases g with
    | cons _ _ => cases d <;> exact (show False from h).elim
    | nil =>
      cases hv with
      | @lst a xs ds h1 g1 =>
        refine ⟨a, xs, rfl, .inl (SqL.of (s.sub _ _ h1)), fun p hp => ?_⟩
        obtain ⟨s4, g4, v4⟩ := new_lst s hp g1
        exact k _ _ _ _ n g4 s4 v4 h
      | @scr a ns h1 =>
        refine ⟨a, _, rfl, .inl (s.same.lst h1), fun p hp => ?_⟩
        obtain ⟨s4, g4, v4⟩ := new_lst s hp (DvAll.ints (K := K) ns)
        exact k _ _ _ _ n g4 s4 v4 h
      | @tup a xs ds h1 g1 =>
        refine ⟨a, xs, rfl, .inr (s.same.tup h1), fun p hp => ?_⟩
        obtain ⟨s4, g4, v4⟩ := new_lst s hp g1
        exact k _ _ _ _ n g4 s4 v4 h
      | _ => exact (show False from h).elim
theorem d_list {p : Pos} {t : Ev → Wp (List D)} (hm : X.mg "list" = none) (ha : DA Γ X W [a] t) (hg : Gl X "list" := by rfl) (he : starEach [a] X.env = (false, eval a X.env) :: starEach [] X.env := by rfl) (hpl : (backTo pos (starEach [] X.env)).any (·.1) = false := by rfl) :
    DE Γ X W (.Call (.Name "list" p) [a] [] pos) (tcall fList t) := d_callTy call_list_of cd_list hg hm PyProof.Rows.boot_list ha (by decide) (by decide) he hpl
/-! ### isinstance with a built-in class -/
def tyName : D → String
  | .non => "NoneType"
  | .bl _ => "bool"
  | .int _ => "int"
  | .str _ => "str"
  | .lst _ => "list"
  | .scr _ => "list"
  | .tup _ => "tuple"
  | .dic _ => "dict"
  | .m => "dict"
  | .exn _ _ _ => "dict"
  | .clo _ _ => "dict"
  | .mref _ => "dict"
  | .obj _ _ => "dict"
def D.isE : D → Bool
  | .exn _ _ _ => true
  | .clo _ _ => true
  | .mref _ => true
  | .obj _ _ => true
  | _ => false
theorem ty_of {K : PySem.W.Frag} {n : S} {Hs H : Hp} (s : Sit K n Hs H) {x : V} {d : D} (h : Dv K Hs x d) (he : d.isE = false) : TyX K H x (.type (tyName d)) := by
  cases h with
  | exn1 _ _ _ => cases he
  | exn0 _ => cases he
  | clo _ => cases he
  | mref _ => cases he
  | obj _ _ _ => cases he
  | dit h g => exact .base (.dT (s.sub _ _ h))
  | non => exact .base .non
  | bl b => exact .base (.bl b)
  | int i => exact .base (.int i)
  | str y => exact .base (.str y)
  | lst h g => exact .base (.lst (s.sub _ _ h))
  | scr h =>
    rcases h with (h | ⟨o, h⟩) | ⟨o, _, _, h, hc, _⟩
    · exact .base (.lst (s.sub _ _ h))
    · exact .base (.frz (s.sub _ _ h))
    · exact .kList h hc
  | tup h g =>
    rcases h with (h | ⟨o, h⟩) | ⟨o, _, _, h, hc, _⟩
    · exact .base (.tup (s.sub _ _ h))
    · exact .fTuple (s.sub _ _ h)
    · exact .kTuple h hc
  | dic h z g => exact .base (.dK (s.sub _ _ h))
  | @m a o h z =>
    cases o with
    | dK kvs => exact .base (.dK (s.sub _ _ h))
    | _ => cases z
/-- isinstance(d, T): T a built-in class -/
def isiN (T t : String) : Bool := t == T || (T == "int" && t == "bool")
def isiB (T : String) (d : D) : Bool := isiN T (tyName d)
def isiT (T : String) : Prop := T = "int" ∨ T = "bool" ∨ T = "str" ∨ T = "list" ∨ T = "tuple" ∨ T = "dict"
theorem tyName_one (d : D) : tyName d = "NoneType" ∨ tyName d = "bool" ∨ tyName d = "int" ∨ tyName d = "str" ∨ tyName d = "list" ∨ tyName d = "tuple" ∨ tyName d = "dict" := by
  cases d <;> simp [tyName]
theorem kit_of_ty {T : String} (h : isiT T) (d : D) : kitB (tyName d) T = some (isiB T d) := by
  unfold isiB
  rcases h with h | h | h | h | h | h <;> subst h <;> rcases tyName_one d with e | e | e | e | e | e | e <;> rw [e] <;> decide +kernel
def tisi (T : String) (t : Ev → Wp D) : Ev → Wp D := fun ρ => Wp.bind (t ρ) fun d => Wp.bind (Wp.ask (d.isE = false)) fun _ => Wp.ret (.bl (isiB T d))
theorem d_isi {y : Str} {T : String} {p p2 : Pos} (hT : isiT T) (hm : X.mg "isinstance" = none) (hmT : X.mg y = none) (hv : bootBuiltins y = some (.type T)) (ha : DE Γ X W a ta) (hg : Gl X "isinstance" := by rfl) (hgT : Gl X y := by rfl)
    (hn : y ≠ "__name__" := by decide) (hd : (y == ("__debug__" : Str)) = false := by decide) (he : starEach [a, .Name y p2] X.env = (false, eval a X.env) :: starEach [.Name y p2] X.env := by rfl) (he2 : starEach [.Name y p2] X.env = (false, eval (.Name y p2) X.env) :: starEach [] X.env := by rfl)
    (hpl : (backTo pos (starEach [.Name y p2] X.env)).any (·.1) = false := by rfl) : DE Γ X W (.Call (.Name "isinstance" p) [a, .Name y p2] [] pos) (tisi T ta) := by
  obtain ⟨ea, pa, fa⟩ := ha
  have pT : PE X (.Name y p2) (tC (.ty T)) := pe_bltn hgT hmT hv rfl hn hd
  refine ⟨_, pe_callB call_isi hg hm PyProof.Rows.boot_isinstance (pa_cons pa (pa_cons pT pa_nil he2) he) (by decide) (by decide) he hpl, fun σ H Hs ρ n q x Q s r h k ke => fa σ H Hs ρ n _ x _ s r h (fun v H1 Hs1 d n1 g1 s1 hv h1 => ?_) ke⟩
  exact ⟨v, .ty T, _, _, _, rfl, .ty T, ty_of s1 hv h1.1, kit_ty (kit_of_ty hT d), k _ H1 Hs1 _ n1 g1 s1 (.bl _) h1.2⟩
end
end OE

namespace OE
open PySem PySem.Spec L2
variable [TN]

/-! ### defs -/
/-- a def keeps its promise where no repr is under way -/
structure FnG (P : Program) (w : World) (K : PySem.W.Frag) (mg : Str → Option Value) (base : Heap) (k : Nat) (f : Addr) (fd : FuncData) (ps : List Str) (sp : Sp) : Prop where
  len : ∀ vs H Q E, sp vs H Q E → vs.length = ps.length
  run : ∀ (A : Around) (outer : List Env) (s : Shared) (H : Hp) (args : Args) (us : List Value) (vs : List V) (Q : VK) (E : XK), Room k A → A.guards = some [] → Env0 P w K mg base A outer s H → BindsTo s fd args (ps.zip us) → Vals vs us →
    sp vs H Q E → codeAny (model P w) A (.call (.ref f) args) (CR (L2.CX P w) outer P w H s Q E) s
/-- what a def does, over data -/
def spW (K : PySem.W.Frag) (Γ : Gam) (k : Nat) (F : List D → Wp D) : Sp := fun vs H Q E =>
  ∃ (n : S) (Hs : Hp) (ds : List D) (q : D → S → Prop) (x : Exn → S → Prop), ds.length = k ∧ Sit K n Hs H ∧ DvAll K Hs vs ds ∧ F ds n q x ∧ OkQ K Hs H q Q ∧ OkE K Γ Hs H x E
/-- a def of the module, by name -/
def Fn (Γ : Gam) (P : Program) (w : World) (K : PySem.W.Frag) (mg : Str → Option Value) (base : Heap) (x : Str) (k : Nat) (a : Nat) (F : List D → Wp D) : Prop :=
  ∃ (f : Addr) (fd : FuncData) (ps : List Str), ps.length = a ∧ FnG P w K mg base k f fd ps (spW K Γ a F) ∧ mg x = some (.ref f) ∧ PySem.W.keepIn K (.ref f) = true ∧ Binds K fd ps []

section
variable {P : Program} {w : World} {K : PySem.W.Frag} {mg : Str → Option Value} {base : Heap}
theorem fnG_of {k : Nat} {f : Addr} {x qual : Str} {st : Stmt} {fd : FuncData} {N ps : List Str} {sp : Sp} (F : Fun K x qual st f fd) (S : FnScope N ps (defScope st)) (len : ∀ vs H Q E, sp vs H Q E → vs.length = ps.length)
    (hbody : ∀ (cdv : Value), fd.code = cdv → ∀ (A : Around) (outer : List Env) (s : Shared) (H : Hp) (vs : List V) (Q : VK) (E : XK), Room k (A.deeper (PyProof.Rows.envOfC qual (defScope st) s.heap.objs.size f cdv)) → A.guards = some [] → sp vs H Q E →
      ∃ t, PSs (cxOf (L2.CX P w) P w K mg base N qual (defScope st) f cdv A outer s H E) (defBody st) t ∧ t { nx := fun _ H' => Q .non H', rt := Q } (start N vs) H) :
    FnG P w K mg base (k + 1) f fd ps sp := by
  obtain ⟨oc, od, kV, doc, pm, an, cdv, ct, osl, rfl, lk, hcd⟩ := F.ex
  refine ⟨len, fun A outer s H args us vs Q E hr hg e0 hb r hsp => ?_⟩
  have nl : s.heap.NoLimit := e0.mod.nolimit.keeps fun b o e => (e0.bs b o e).1
  have kin : K.In s.heap := e0.mod.kin.keeps fun b o e => (e0.bs b o e).1
  refine codeAny_call_function hr.depth (kin _ _ lk) rfl S.co S.gen rfl (PySem.W.codeRec_of kin hcd) (hb _ _ _ _ ?_)
  refine wpAny_newFunctionEnv_cells S.kind (fun y hy => ?_) fun env he s1 z => ?_
  · obtain ⟨n, v⟩ := y
    rcases S.par n (List.of_mem_zip hy).1 with q | q
    · exact Or.inl q
    · exact Or.inr ⟨q, PySem.W.cellsFrom_some _ _ _ (Or.inl q)⟩
  · subst he
    obtain ⟨t, ht, hq⟩ := hbody cdv rfl A outer s H vs Q E (hr.deeper _) hg hsp
    refine ⟨nl.keeps z.toInCall.keep, codeAny_func (wpAny_mono (ht.run [] s1 _ H _ (inv_start S hr.hd e0 (len _ _ _ _ hsp) r z) hq) (fun fl s' hs => ?_) fun _ _ hs => hs)⟩
    cases fl with
    | ret u =>
      obtain ⟨v, _, H', J, rv, q⟩ := hs
      exact ⟨v, H', J.os, J.bare, J.base, J.hok, rv, q⟩
    | next =>
      obtain ⟨_, H', J, q⟩ := hs
      exact ⟨V.non, H', J.os, J.bare, J.base, J.hok, rfl, q⟩
    | brk => exact (hs.elim fun _ h => h.elim fun _ h => h.2.elim)
    | cont => exact (hs.elim fun _ h => h.elim fun _ h => h.2.elim)
end

section
variable {Γ : Gam} {X : Cx} {W : WX} {a b c : Expr} {ta tb tc : Ev → Wp D} {pos : Pos}
theorem run_g {k : Nat} {f : Addr} {fd : FuncData} {ps : List Str} {sp : Sp} {pins : List (Addr × Obj)} {σ : St} {H : Hp} {s : Shared} {Q : VK} {us : List Value} {vs : List V} {E : XK} (F : FnG X.prog X.w X.K X.mg X.base k f fd ps sp) (hr : Room k X.A) (hg : X.A.guards = some []) (hb : Binds X.K fd ps [])
    (hx : PassesAt (L2.CX X.prog X.w) X σ E) (I : Inv X pins σ H s) (r : Vals vs us) (h : sp vs H Q E) : wpAny (model X.prog X.w) X.A (call (.ref f) us) (EP X pins σ Q) X.xe s := by
  have hl : (us ++ []).length = ps.length := by rw [List.append_nil, ← r.length]; exact F.len _ _ _ _ h
  have hbb := hb s us I.kIn hl
  rw [List.append_nil] at hbb
  refine wpAny_call (codeAny_mono (F.run X.A X.stack s H ⟨us, []⟩ us vs Q E hr hg I.env0 hbb r h) fun y s' hy => ?_)
  rcases y with e | (_ | u | _ | _)
  · exact hx pins H s e s' I hy
  all_goals first | exact I.after hy | exact False.elim hy
/-- a call of a def -/
def tfn (m : Nat) (F : List D → Wp D) (t : Ev → Wp (List D)) : Ev → Wp D := fun ρ => Wp.bind (t ρ) fun ds => Wp.bind (Wp.ask (ds.length = m)) fun _ => F ds
theorem d_call {x : Str} {k m : Nat} {F : List D → Wp D} {p : Pos} {es : List Expr} {t : Ev → Wp (List D)} (G : Fn Γ X.prog X.w X.K X.mg X.base x k m F) (hr : Room k X.A) (hgd : X.A.guards = some []) (tk : Takes X W) (ha : DA Γ X W (a :: es) t) (hlen : (a :: es).length = m := by rfl)
    (hg : Gl X x := by rfl) (hdb : (x == ("__debug__" : Str)) = false := by decide) (he : starEach (a :: es) X.env = (false, eval a X.env) :: starEach es X.env := by rfl) (hpl : (backTo pos (starEach es X.env)).any (·.1) = false := by rfl) :
    DE Γ X W (.Call (.Name x p) (a :: es) [] pos) (tfn m F t) := by
  obtain ⟨f, fd, ps, hps, G, hm, hk, hb⟩ := G
  obtain ⟨ea, pa, fa⟩ := ha
  refine ⟨fun σ H Q => ea σ H fun vs H1 => spW X.K Γ m F vs H1 Q (WE W σ), ⟨fun pins s σ H Q I h => ?_⟩, fun σ H Hs ρ n q x Q s rr h k ke => fa σ H Hs ρ n _ x _ s rr h (fun vs H1 Hs1 ds n1 g1 s1 hv h1 => ?_) ke⟩
  · refine wpAny_Call_Name_kw (ld_glob I hg hm ?_ hdb)
    refine PySem.W.callWith_K (h₀ := X.base) I.ok.mod.kin hk (thn (pa.run pos pins s σ H _ I h) fun us s1 hh => ?_) he hpl
    obtain ⟨vs, H1, I1, r, q⟩ := hh
    exact ⟨I1.kIn, run_g G hr hgd hb (passAt tk σ) I1 r q⟩
  · exact ⟨n1, Hs1, ds, q, x, h1.1, s1, hv, h1.2, k.go g1, ke.go g1⟩
theorem d_call0 {x : Str} {k : Nat} {F : List D → Wp D} {p : Pos} (G : Fn Γ X.prog X.w X.K X.mg X.base x k 0 F) (hr : Room k X.A) (hgd : X.A.guards = some []) (tk : Takes X W)
    (hg : Gl X x := by rfl) (hdb : (x == ("__debug__" : Str)) = false := by decide) : DE Γ X W (.Call (.Name x p) [] [] pos) (fun _ => F []) := by
  obtain ⟨f, fd, ps, hps, G, hm, hk, hb⟩ := G
  refine ⟨fun σ H Q => spW X.K Γ 0 F [] H Q (WE W σ), ⟨fun pins s σ H Q I h => ?_⟩, fun σ H Hs ρ n q x Q s rr h k ke => ⟨n, Hs, [], q, x, rfl, s, .nil, h, k, ke⟩⟩
  refine wpAny_Call_Name_kw (ld_glob I hg hm ?_ hdb)
  exact PySem.W.callWith_K0 I.kIn hk (run_g (us := []) (vs := []) G hr hgd hb (passAt tk σ) I .nil h)
end

/-! ### statements -/
inductive Out where
  | nx (ρ : Ev)
  | rt (d : D)
  | bk (ρ : Ev)
  | ct (ρ : Ev)
def OutOk (K : PySem.W.Frag) (Hs H : Hp) (E : Ends) : Out → Prop
  | .nx ρ => ∀ σ, R K ρ σ Hs → E.nx σ H
  | .rt d => ∀ v, Dv K Hs v d → E.rt v H
  | .bk ρ => ∀ σ, R K ρ σ Hs → E.bk σ H
  | .ct ρ => ∀ σ, R K ρ σ Hs → E.ct σ H
def OkO (K : PySem.W.Frag) (Hs H : Hp) (q : Out → S → Prop) (E : Ends) : Prop := ∀ o n' H' Hs', Go Hs H Hs' H' → Sit K n' Hs' H' → q o n' → OutOk K Hs' H' E o
def OkX (K : PySem.W.Frag) (Γ : Gam) (Hs H : Hp) (e : Exn → S → Prop) (W : WX) : Prop := ∀ σ, OkE K Γ Hs H e (fun c d h => W c d σ h)
theorem OkO.go {K : PySem.W.Frag} {Hs H Hs1 H1 : Hp} {q : Out → S → Prop} {E : Ends} (h : OkO K Hs H q E) (g : Go Hs H Hs1 H1) : OkO K Hs1 H1 q E := fun o n' H' Hs' g' => h o n' H' Hs' (g.trans g')
theorem OkX.go {K : PySem.W.Frag} {Γ : Gam} {Hs H Hs1 H1 : Hp} {e : Exn → S → Prop} {W : WX} (h : OkX K Γ Hs H e W) (g : Go Hs H Hs1 H1) : OkX K Γ Hs1 H1 e W := fun σ => (h σ).go g
section
variable (Γ : Gam) (X : Cx) (W : WX)
def DS (st : Stmt) (t : Ev → Wp Out) : Prop := ∃ ts : TS, PS X st ts ∧ ∀ (σ : St) (H Hs : Hp) (ρ : Ev) (n : S) (q : Out → S → Prop) (x : Exn → S → Prop) (E : Ends),
  Sit X.K n Hs H → R X.K ρ σ Hs → t ρ n q x → OkO X.K Hs H q E → OkX X.K Γ Hs H x W → ts E σ H
def DB (st : List Stmt) (t : Ev → Wp Out) : Prop := ∃ ts : TS, PSs X st ts ∧ ∀ (σ : St) (H Hs : Hp) (ρ : Ev) (n : S) (q : Out → S → Prop) (x : Exn → S → Prop) (E : Ends),
  Sit X.K n Hs H → R X.K ρ σ Hs → t ρ n q x → OkO X.K Hs H q E → OkX X.K Γ Hs H x W → ts E σ H
end
section
variable {Γ : Gam} {X : Cx} {W : WX} {a b c : Expr} {ta tb tc : Ev → Wp D} {pos : Pos} {st : Stmt} {rest : List Stmt} {t u : Ev → Wp Out}
def tnext : Ev → Wp Out := fun ρ => Wp.ret (.nx ρ)
def tthen (t u : Ev → Wp Out) : Ev → Wp Out := fun ρ => Wp.bind (t ρ) fun o => match o with
  | .nx ρ' => u ρ'
  | .rt d => Wp.ret (.rt d)
  | .bk ρ' => Wp.ret (.bk ρ')
  | .ct ρ' => Wp.ret (.ct ρ')
theorem db_nil : DB Γ X W [] tnext := ⟨_, pss_nil, fun σ H Hs ρ n q x E s r h k _ => k _ n H Hs (.refl _ _) s h σ r⟩
theorem db_one (h : DS Γ X W st t) : DB Γ X W [st] t := let ⟨ts, p, f⟩ := h; ⟨ts, pss_one p, f⟩
theorem db_cons (h : DS Γ X W st t) (g : DB Γ X W rest u) : DB Γ X W (st :: rest) (tthen t u) := by
  obtain ⟨ts, p, f⟩ := h
  obtain ⟨us, p2, f2⟩ := g
  refine ⟨_, pss_cons p p2, fun σ H Hs ρ n q x E s r h k ke => f σ H Hs ρ n _ x _ s r h (fun o n1 H1 Hs1 g1 s1 h1 => ?_) ke⟩
  cases o with
  | nx ρ1 => exact fun σ1 r1 => f2 σ1 H1 Hs1 ρ1 n1 q x E s1 r1 h1 (k.go g1) (ke.go g1)
  | rt d => exact k _ n1 H1 Hs1 g1 s1 h1
  | bk ρ1 => exact k _ n1 H1 Hs1 g1 s1 h1
  | ct ρ1 => exact k _ n1 H1 Hs1 g1 s1 h1
theorem ds_pass : DS Γ X W (.Pass pos) tnext := ⟨_, ps_pass, fun σ H Hs ρ n q x E s r h k _ => k _ n H Hs (.refl _ _) s h σ r⟩
def tret (t : Ev → Wp D) : Ev → Wp Out := fun ρ => Wp.bind (t ρ) fun d => Wp.ret (.rt d)
theorem ds_ret (ha : DE Γ X W a ta) : DS Γ X W (.Return (some a) pos) (tret ta) := by
  obtain ⟨ea, pa, fa⟩ := ha
  exact ⟨_, ps_ret pa, fun σ H Hs ρ n q x E s r h k ke => fa σ H Hs ρ n _ x _ s r h (fun v H1 Hs1 d n1 g1 s1 hv h1 => k (.rt d) n1 H1 Hs1 g1 s1 h1 v hv) (ke σ)⟩
theorem ds_retN : DS Γ X W (.Return none pos) (fun _ => Wp.ret (.rt .non)) := ⟨_, ps_retN, fun σ H Hs ρ n q x E s r h k _ => k (.rt .non) n H Hs (.refl _ _) s h .non .non⟩
def tdrop (t : Ev → Wp D) : Ev → Wp Out := fun ρ => Wp.bind (t ρ) fun _ => Wp.ret (.nx ρ)
theorem ds_expr (ha : DE Γ X W a ta) (hs : swapsWith a none pos.line X.env = pure false := by rfl) : DS Γ X W (.Expr a pos) (tdrop ta) := by
  obtain ⟨ea, pa, fa⟩ := ha
  exact ⟨_, ps_expr pa hs, fun σ H Hs ρ n q x E s r h k ke => fa σ H Hs ρ n _ x _ s r h (fun v H1 Hs1 d n1 g1 s1 hv h1 => k (.nx ρ) n1 H1 Hs1 g1 s1 h1 σ (r.ext g1.ext)) (ke σ)⟩
def tset (i : Nat) (t : Ev → Wp D) : Ev → Wp Out := fun ρ => Wp.bind (t ρ) fun d => Wp.ret (.nx (ρ.set i (some d)))
theorem ds_set (i : Nat) {y : Str} {py : Pos} (hN : X.N.Nodup) (ha : DE Γ X W a ta) (hi : X.N[i]? = some y := by rfl) (hx : Loc X.env.scope y := by first | exact Or.inl rfl | exact Or.inr rfl) (hs : swapsWith a (some (.Name y py)) pos.line X.env = pure false := by rfl)
    (hf : X.fn y = true ∨ X.env.scope.names.lookup y = some .local := by first | exact .inl rfl | exact .inr rfl) : DS Γ X W (.Assign [.Name y py] a pos) (tset i ta) := by
  obtain ⟨ea, pa, fa⟩ := ha
  exact ⟨_, ps_set hN hi hx pa hs hf, fun σ H Hs ρ n q x E s r h k ke => fa σ H Hs ρ n _ x _ s r h (fun v H1 Hs1 d n1 g1 s1 hv h1 => k (.nx (ρ.set i (some d))) n1 H1 Hs1 g1 s1 h1 _ ((r.ext g1.ext).set i hv)) (ke σ)⟩
def tite (c : Ev → Wp Bool) (t u : Ev → Wp Out) : Ev → Wp Out := fun ρ => Wp.bind (c ρ) fun z => if z = true then t ρ else u ρ
theorem ds_if {uc : Ev → Wp Bool} {sa sb : List Stmt} (hc : DT Γ X W c uc) (ha : DB Γ X W sa t) (hb : DB Γ X W sb u) : DS Γ X W (.If c sa sb pos) (tite uc t u) := by
  obtain ⟨ec, pc, fc⟩ := hc
  obtain ⟨ea, pa, fa⟩ := ha
  obtain ⟨eb, pb, fb⟩ := hb
  refine ⟨_, ps_if pc pa pb, fun σ H Hs ρ n q x E s r h k ke => fc σ H Hs ρ n _ x _ s r h (fun z H1 Hs1 n1 g1 s1 h1 => ?_) (ke σ)⟩
  cases z with
  | true => exact fa σ H1 Hs1 ρ n1 q x E s1 (r.ext g1.ext) h1 (k.go g1) (ke.go g1)
  | false => exact fb σ H1 Hs1 ρ n1 q x E s1 (r.ext g1.ext) h1 (k.go g1) (ke.go g1)
/-- a, b = x, y -/
def tpar (i j : Nat) (t : Ev → Wp (List D)) : Ev → Wp Out := fun ρ => Wp.bind (t ρ) fun ds => match ds with
  | [d, e] => Wp.ret (.nx ((ρ.set i (some d)).set j (some e)))
  | _ => Wp.stuck
theorem ds_par (i j : Nat) {x y : Str} {tt : Ev → Wp (List D)} {px py pt : Pos} {kt k2 : Nat} {pt2 : Pos} (hN : X.N.Nodup) (ha : DA Γ X W [a, b] tt) (hij : i ≠ j := by decide) (hc : X.calm = true := by rfl) (hi : X.N[i]? = some x := by rfl) (hj : X.N[j]? = some y := by rfl)
    (hx : X.env.scope.names.lookup x = some .local := by rfl) (hy : X.env.scope.names.lookup y = some .local := by rfl)
    (hw : swappedStores [.Tuple [.Name x px, .Name y py] kt pt] (.Tuple [a, b] k2 pt2) X.env = pure (some [x, y]) := by rfl)
    (hs : swapsWithSole [.Tuple [.Name x px, .Name y py] kt pt] (.Tuple [a, b] k2 pt2) pos.line X.env = pure false := by rfl) :
    DS Γ X W (.Assign [.Tuple [.Name x px, .Name y py] kt pt] (.Tuple [a, b] k2 pt2) pos) (tpar i j tt) := by
  obtain ⟨ea, pa, fa⟩ := ha
  refine ⟨_, ps_par hc hN hi hj hij hx hy pa hw hs, fun σ H Hs ρ n q x E s r h k ke => fa σ H Hs ρ n _ x _ s r h (fun vs H1 Hs1 ds n1 g1 s1 hv h1 => ?_) (ke σ)⟩
  rcases hv with _ | ⟨hv, _ | ⟨hw, _ | ⟨_, _⟩⟩⟩
  · exact (show False from h1).elim
  · exact (show False from h1).elim
  · exact ⟨_, _, rfl, k (.nx _) n1 H1 Hs1 g1 s1 h1 _ (((r.ext g1.ext).set i hv).set j hw)⟩
  · exact (show False from h1).elim
/-- targets: a name, a tuple of names -/
def Sets (is : List Nat) (σ σ' : St) : Prop := ∀ vs : List Nat, (∀ i ∈ is, i ∈ vs) → wipe σ' vs = wipe σ vs
def DG (X : Cx) (tg : Expr) (is : List Nat) (g : D → Ev → Wp Ev) : Prop := ∃ tv : TG, PG X tg tv ∧ ∀ (v : V) (d : D) (σ : St) (H Hs : Hp) (ρ : Ev) (n : S) (q : Ev → S → Prop) (x : Exn → S → Prop) (Q : St → Hp → Prop),
  Sit X.K n Hs H → R X.K ρ σ Hs → Dv X.K Hs v d → g d ρ n q x → (∀ ρ' σ', R X.K ρ' σ' Hs → Sets is σ σ' → q ρ' n → Q σ' H) → tv v σ H Q
def DGs (X : Cx) (tg : List Expr) (is : List Nat) (g : List D → Ev → Wp Ev) : Prop := ∃ tv : TGs, PGs X tg tv ∧ ∀ (v : List V) (d : List D) (σ : St) (H Hs : Hp) (ρ : Ev) (n : S) (q : Ev → S → Prop) (x : Exn → S → Prop) (Q : St → Hp → Prop),
  Sit X.K n Hs H → R X.K ρ σ Hs → DvAll X.K Hs v d → g d ρ n q x → (∀ ρ' σ', R X.K ρ' σ' Hs → Sets is σ σ' → q ρ' n → Q σ' H) → tv v σ H Q
theorem wipe_set {σ : St} {i : Nat} {o : Option V} : ∀ {vs : List Nat}, i ∈ vs → wipe (σ.set i o) vs = wipe σ vs
  | [], h => nomatch h
  | v :: vs, h => by
    by_cases hv : i ∈ vs
    · show List.set (wipe (σ.set i o) vs) v none = List.set (wipe σ vs) v none
      rw [wipe_set hv]
    · have e : i = v := by
        rcases List.mem_cons.mp h with h | h
        · exact h
        · exact absurd h hv
      subst e
      show List.set (wipe (σ.set i o) vs) i none = List.set (wipe σ vs) i none
      refine List.ext_getElem? fun j => ?_
      by_cases hj : i = j
      · subst hj
        by_cases hlt : i < σ.length
        · rw [List.getElem?_set_self (by rw [wipe_length]; simpa using hlt), List.getElem?_set_self (by rw [wipe_length]; exact hlt)]
        · rw [List.getElem?_eq_none (by rw [List.length_set, wipe_length, List.length_set]; omega), List.getElem?_eq_none (by rw [List.length_set, wipe_length]; omega)]
      · rw [List.getElem?_set_ne hj, List.getElem?_set_ne hj]
        by_cases hjv : j ∈ vs
        · have none_at : ∀ (τ : St) {vs : List Nat}, j ∈ vs → (wipe τ vs)[j]? = (if j < τ.length then some none else none) := by
            intro τ vs
            induction vs with
            | nil => intro h; exact nomatch h
            | cons u us ih =>
              intro h
              show (List.set (wipe τ us) u none)[j]? = _
              by_cases hu : u = j
              · subst hu
                by_cases hl : u < τ.length
                · rw [List.getElem?_set_self (by rw [wipe_length]; exact hl), if_pos hl]
                · rw [List.getElem?_eq_none (by rw [List.length_set, wipe_length]; omega), if_neg hl]
              · rw [List.getElem?_set_ne hu]
                rcases List.mem_cons.mp h with h | h
                · exact absurd h.symm hu
                · exact ih h
          rw [none_at _ hjv, none_at _ hjv, List.length_set]
        · rw [wipe_out hjv, wipe_out hjv, List.getElem?_set_ne hj]
theorem Sets.refl (σ : St) : Sets [] σ σ := fun _ _ => rfl
theorem Sets.one (σ : St) (i : Nat) (o : Option V) : Sets [i] σ (σ.set i o) := fun vs h => wipe_set (h i List.mem_cons_self)
theorem Sets.trans {is js : List Nat} {σ σ1 σ2 : St} (a : Sets is σ σ1) (b : Sets js σ1 σ2) : Sets (is ++ js) σ σ2 := fun vs h =>
  (b vs fun i hi => h i (List.mem_append_right _ hi)).trans (a vs fun i hi => h i (List.mem_append_left _ hi))
def gname (i : Nat) : D → Ev → Wp Ev := fun d ρ => Wp.ret (ρ.set i (some d))
theorem dg_name (i : Nat) {y : Str} {p : Pos} (hN : X.N.Nodup) (hi : X.N[i]? = some y := by rfl) (hx : Loc X.env.scope y := by first | exact Or.inl rfl | exact Or.inr rfl)
    (hf : X.fn y = true ∨ X.env.scope.names.lookup y = some .local := by first | exact .inl rfl | exact .inr rfl) : DG X (.Name y p) [i] (gname i) :=
  ⟨_, pg_name hN hi hx hf, fun v d σ H Hs ρ n q x Q s r hv h k => k _ _ (r.set i hv) (.one _ _ _) h⟩
def gnil : List D → Ev → Wp Ev := fun ds ρ => match ds with
  | [] => Wp.ret ρ
  | _ => Wp.stuck
def gcons (g : D → Ev → Wp Ev) (gs : List D → Ev → Wp Ev) : List D → Ev → Wp Ev := fun ds ρ => match ds with
  | [] => Wp.stuck
  | d :: ds => Wp.bind (g d ρ) fun ρ' => gs ds ρ'
theorem dgs_nil : DGs X [] [] gnil := ⟨_, pgs_nil, fun v d σ H Hs ρ n q x Q s r hv h k => by
  cases hv with
  | nil => exact ⟨rfl, k _ _ r (.refl _) h⟩
  | cons _ _ => exact (show False from h).elim⟩
theorem dgs_cons {e : Expr} {es : List Expr} {g : D → Ev → Wp Ev} {gs : List D → Ev → Wp Ev} {is js : List Nat} (h : DG X e is g) (h2 : DGs X es js gs) (hs : (assignEach (e :: es) X.env).map (·.2) = assign e X.env :: (assignEach es X.env).map (·.2) := by rfl) : DGs X (e :: es) (is ++ js) (gcons g gs) := by
  obtain ⟨tv, p, f⟩ := h
  obtain ⟨ts, p2, f2⟩ := h2
  refine ⟨_, pgs_cons p p2 hs, fun v d σ H Hs ρ n q x Q s r hv h k => ?_⟩
  cases hv with
  | nil => exact (show False from h).elim
  | cons hv hr => exact ⟨_, _, rfl, f _ _ σ H Hs ρ n _ x _ s r hv h fun ρ' σ' r' z' h' => f2 _ _ σ' H Hs ρ' n q x Q s r' hr h' fun ρ2 σ2 r2 z2 => k ρ2 σ2 r2 (z'.trans z2)⟩
def gtup (k : Nat) (gs : List D → Ev → Wp Ev) : D → Ev → Wp Ev := fun d ρ => match d with
  | .tup l => Wp.bind (Wp.ask (l.length = k)) fun _ => gs l ρ
  | _ => Wp.stuck
theorem dg_tup {es : List Expr} {k m : Nat} {gs : List D → Ev → Wp Ev} {is : List Nat} {p : Pos} (h : DGs X es is gs) (hc : X.calm = true := by rfl) (hn : (assignEach es X.env).length = m := by rfl) (hst : (assignEach es X.env).findIdx? (·.1) = none := by rfl) : DG X (.Tuple es k p) is (gtup m gs) := by
  obtain ⟨ts, p2, f2⟩ := h
  refine ⟨_, pg_tup hc p2 hn hst, fun v d σ H Hs ρ n q x Q s r hv h k => ?_⟩
  cases hv with
  | @tup a xs ds h1 g1 => exact ⟨a, xs, rfl, s.same.tup h1, by rw [g1.length]; exact h.1, f2 _ _ σ H Hs ρ n q x Q s r g1 h.2 k⟩
  | _ => exact (show False from h).elim
/-- target = e (a tuple of names) -/
def tasg (t : Ev → Wp D) (g : D → Ev → Wp Ev) : Ev → Wp Out := fun ρ => Wp.bind (t ρ) fun d => Wp.bind (g d ρ) fun ρ' => Wp.ret (.nx ρ')
theorem ds_asg {tg : Expr} {g : D → Ev → Wp Ev} {is : List Nat} (ha : DE Γ X W a ta) (hg : DG X tg is g) (hs : swapsWithSole [tg] a pos.line X.env = pure false := by rfl) (hw : swappedStores [tg] a X.env = pure none := by rfl)
    (h1 : (assignEach [tg] X.env).map (·.2) = [assign tg X.env] := by rfl) : DS Γ X W (.Assign [tg] a pos) (tasg ta g) := by
  obtain ⟨ea, pa, fa⟩ := ha
  obtain ⟨tv, p, f⟩ := hg
  refine ⟨_, ps_asg pa p hs hw h1, fun σ H Hs ρ n q x E s r h k ke => fa σ H Hs ρ n _ x _ s r h (fun v H1 Hs1 d n1 g1 s1 hv h1 => ?_) (ke σ)⟩
  exact f v d σ H1 Hs1 ρ n1 _ x _ s1 (r.ext g1.ext) hv h1 fun ρ' σ' r' _ h' => k (.nx ρ') n1 H1 Hs1 g1 s1 h' σ' r'
end

/-! ### what is walked -/
structure WalkD (K : PySem.W.Frag) (J : It) (Hs0 : Hp) (ds : List D) : Prop where
  go : ∀ (i : Nat) (n : S) (Hs H : Hp), Ext Hs0 Hs → Sit K n Hs H → i < ds.length → J.go i H
  stop : ∀ (n : S) (Hs H : Hp), Ext Hs0 Hs → Sit K n Hs H → J.stop ds.length H
  yld : ∀ (i : Nat) (n : S) (Hs H : Hp) (x : V) (H' : Hp), Ext Hs0 Hs → Sit K n Hs H → i < ds.length → J.yld i H x H' → ∃ Hs' d, ds[i]? = some d ∧ Go Hs H Hs' H' ∧ Sit K n Hs' H' ∧ Dv K Hs' x d
def DI (Γ : Gam) (X : Cx) (W : WX) (tg it : Expr) (t : Ev → Wp (List D)) : Prop := ∃ wi : TI, PI X tg it wi ∧ ∀ (σ : St) (H Hs : Hp) (ρ : Ev) (n : S) (q : List D → S → Prop) (x : Exn → S → Prop) (Q : It → Hp → Prop),
  Sit X.K n Hs H → R X.K ρ σ Hs → t ρ n q x → (∀ J H' Hs' ds n', Go Hs H Hs' H' → Sit X.K n' Hs' H' → WalkD X.K J Hs' ds → q ds n' → Q J H') → OkE X.K Γ Hs H x (fun c d h => W c d σ h) → wi σ H Q
/-- the turns of a for -/
def forW (g : D → Ev → Wp Ev) (body : Ev → Wp Out) : List D → Ev → Wp Out
  | [], ρ => Wp.ret (.nx ρ)
  | d :: ds, ρ => Wp.bind (g d ρ) fun ρ1 => Wp.bind (body ρ1) fun o => match o with
    | .nx ρ2 => forW g body ds ρ2
    | .ct ρ2 => forW g body ds ρ2
    | .bk ρ2 => Wp.ret (.nx ρ2)
    | .rt e => Wp.ret (.rt e)
def tfor (t : Ev → Wp (List D)) (g : D → Ev → Wp Ev) (body : Ev → Wp Out) : Ev → Wp Out := fun ρ => Wp.bind (t ρ) fun ds => forW g body ds ρ
theorem drop_cons {α : Type} {l : List α} {i : Nat} {d : α} (h : l[i]? = some d) : l.drop i = d :: l.drop (i + 1) := by
  obtain ⟨h1, h2⟩ := List.getElem?_eq_some_iff.mp h
  rw [← h2]
  exact List.drop_eq_getElem_cons h1
section
variable {Γ : Gam} {X : Cx} {W : WX} {a b c : Expr} {ta tb tc : Ev → Wp D} {pos : Pos} {st : Stmt} {rest : List Stmt} {t u : Ev → Wp Out}
theorem ds_for {tg it : Expr} {body : List Stmt} {ti : Ev → Wp (List D)} {g : D → Ev → Wp Ev} {is : List Nat} (hp : PassesOwn (model X.prog X.w) X.A X.env X.xe) (hi : DI Γ X W tg it ti) (hg : DG X tg is g) (hb : DB Γ X W body t) (hc : X.calm = true := by rfl)
    (hs : ∀ x, foldedSetIterable it X.env x = pure x := by intro _; rfl) : DS Γ X W (.For tg it body [] pos) (tfor ti g t) := by
  obtain ⟨wi, pi, fi⟩ := hi
  obtain ⟨tv, pg, fg⟩ := hg
  obtain ⟨ts, pb, fb⟩ := hb
  refine ⟨_, ps_for hp hc pi pg pb hs, fun σ H Hs ρ n q x E s r h k ke => fi σ H Hs ρ n _ x _ s r h (fun J H1 Hs1 ds n1 g1 s1 wd h1 => ?_) (ke σ)⟩
  refine ⟨fun i m σ' H' => m = ds.length - i ∧ i ≤ ds.length ∧ ∃ Hs' ρ' n', Go Hs H Hs' H' ∧ Ext Hs1 Hs' ∧ Sit X.K n' Hs' H' ∧ R X.K ρ' σ' Hs' ∧ forW g t (ds.drop i) ρ' n' q x,
    ⟨_, rfl, Nat.zero_le _, Hs1, ρ, n1, g1, .refl _, s1, r.ext g1.ext, h1⟩, ?_⟩
  rintro i m σ2 H2 ⟨rfl, hi, Hs2, ρ2, n2, g2, e2, s2, r2, h2⟩
  by_cases hlt : i < ds.length
  · refine .inr ⟨wd.go i n2 Hs2 H2 e2 s2 hlt, fun σ' H' => ∃ Hs' ρ' n', Go Hs H Hs' H' ∧ Ext Hs1 Hs' ∧ Sit X.K n' Hs' H' ∧ R X.K ρ' σ' Hs' ∧ forW g t (ds.drop (i + 1)) ρ' n' q x, fun σ' H' hN => ⟨ds.length - (i + 1), by omega, rfl, hlt, hN⟩, fun y H3 hy => ?_⟩
    obtain ⟨Hs3, d, hd, g3, s3, hv⟩ := wd.yld i n2 Hs2 H2 y H3 e2 s2 hlt hy
    rw [drop_cons hd] at h2
    have G3 := g2.trans g3
    have E3 := e2.trans g3.ext
    refine fg y d σ2 H3 Hs3 ρ2 n2 _ x _ s3 (r2.ext g3.ext) hv h2 fun ρ4 σ4 r4 _ h4 => ?_
    refine fb σ4 H3 Hs3 ρ4 n2 _ x _ s3 r4 h4 (fun o n5 H5 Hs5 g5 s5 h5 => ?_) (ke.go G3)
    cases o with
    | nx ρ5 => exact fun σ5 r5 => ⟨Hs5, ρ5, n5, G3.trans g5, E3.trans g5.ext, s5, r5, h5⟩
    | ct ρ5 => exact fun σ5 r5 => ⟨Hs5, ρ5, n5, G3.trans g5, E3.trans g5.ext, s5, r5, h5⟩
    | bk ρ5 => exact k _ n5 H5 Hs5 (G3.trans g5) s5 h5
    | rt e => exact k _ n5 H5 Hs5 (G3.trans g5) s5 h5
  · have e : i = ds.length := by omega
    subst e
    rw [List.drop_length] at h2
    exact .inl ⟨wd.stop n2 Hs2 H2 e2 s2, k _ n2 H2 Hs2 g2 s2 h2 σ2 r2⟩
/-- a while, so many turns -/
def whileN (c : Ev → Wp Bool) (body : Ev → Wp Out) : Nat → Ev → Wp Out
  | 0, _ => Wp.stuck
  | m + 1, ρ => Wp.bind (c ρ) fun z => if z = true then Wp.bind (body ρ) fun o => (match o with
    | .nx ρ2 => whileN c body m ρ2
    | .ct ρ2 => whileN c body m ρ2
    | .bk ρ2 => Wp.ret (.nx ρ2)
    | .rt e => Wp.ret (.rt e)) else Wp.ret (.nx ρ)
def twhile (c : Ev → Wp Bool) (body : Ev → Wp Out) : Ev → Wp Out := fun ρ n q x => ∃ m, whileN c body m ρ n q x
theorem ds_while {body : List Stmt} {uc : Ev → Wp Bool} (hp : PassesOwn (model X.prog X.w) X.A X.env X.xe) (hc : DT Γ X W c uc) (hb : DB Γ X W body t) : DS Γ X W (.While c body [] pos) (twhile uc t) := by
  obtain ⟨ec, pc, fc⟩ := hc
  obtain ⟨ts, pb, fb⟩ := hb
  refine ⟨_, ps_while hp pc pb, fun σ H Hs ρ n q x E s r h k ke => ?_⟩
  obtain ⟨m0, h⟩ := h
  refine ⟨fun m σ' H' => ∃ Hs' ρ' n', Go Hs H Hs' H' ∧ Sit X.K n' Hs' H' ∧ R X.K ρ' σ' Hs' ∧ whileN uc t m ρ' n' q x, ⟨m0, Hs, ρ, n, .refl _ _, s, r, h⟩, ?_⟩
  rintro m σ1 H1 ⟨Hs1, ρ1, n1, g1, s1, r1, h1⟩
  cases m with
  | zero => exact (show False from h1).elim
  | succ m =>
    refine fc σ1 H1 Hs1 ρ1 n1 _ x _ s1 r1 h1 (fun z H2 Hs2 n2 g2 s2 h2 => ?_) (ke.go g1 σ1)
    cases z with
    | false => exact k _ n2 H2 Hs2 (g1.trans g2) s2 h2 σ1 (r1.ext g2.ext)
    | true =>
      rw [if_pos rfl]
      refine ⟨fun σ' H' => ∃ Hs' ρ' n', Go Hs H Hs' H' ∧ Sit X.K n' Hs' H' ∧ R X.K ρ' σ' Hs' ∧ whileN uc t m ρ' n' q x, fun σ' H' hN => ⟨m, by omega, hN⟩, ?_⟩
      refine fb σ1 H2 Hs2 ρ1 n2 _ x _ s2 (r1.ext g2.ext) h2 (fun o n3 H3 Hs3 g3 s3 h3 => ?_) (ke.go (g1.trans g2))
      cases o with
      | nx ρ5 => exact fun σ5 r5 => ⟨Hs3, ρ5, n3, g1.trans (g2.trans g3), s3, r5, h3⟩
      | ct ρ5 => exact fun σ5 r5 => ⟨Hs3, ρ5, n3, g1.trans (g2.trans g3), s3, r5, h3⟩
      | bk ρ5 => exact k _ n3 H3 Hs3 (g1.trans (g2.trans g3)) s3 h3
      | rt e => exact k _ n3 H3 Hs3 (g1.trans (g2.trans g3)) s3 h3
end
end OE

/-! ### enumerate over anything that begins -/
namespace PySem
namespace OEnum
theorem new1 {v : Value} {o : Obj} {H : Heap → Prop} (B : Begins v o H) : Meets (Builtin.«enumerate.__new__» ⟨[.type "enumerate", v], []⟩) (fun _ R s => H s.heap ∧
    R (.ok (.ret (.ref (s.heap.push o).objs.size))) { s with heap := (s.heap.push o).push { cls := .type "enumerate", data := .fields #[.none, .bool false, .ref s.heap.objs.size, rawInt 0, .none, .none] } }) :=
  .of_wp fun prog w A R s hh => by
    obtain ⟨hp, g, d, tk, os⟩ := s
    obtain ⟨h0, hr⟩ := hh
    have hsub := sub_enumerate
    have it : ∀ {A' : Around} {E : Value → Shared → Prop} {Q : Value → Shared → Prop}, Q (.ref hp.objs.size) ⟨hp.push o, g, d, tk, os⟩ → wpAny (model prog w) A' (pyIter v) Q E ⟨hp, g, d, tk, os⟩ :=
      fun q => B.iter prog w _ _ ⟨hp, g, d, tk, os⟩ _ h0 q
    wp_walk using it
    refine wpAny_stack_any fun st => wpAny_pure ?_
    split
    · rename_i c _ _ _ _ _
      cases (c == Value.type "enumerate") <;> (wp_walk using it; exact ⟨_, rfl, hr⟩)
    · wp_walk using it
      exact ⟨_, rfl, hr⟩
theorem call1 {prog : Program} {w : World} {A : Around} {E : Value → Shared → Prop} {s : Shared} {v : Value} {o : Obj} {H : Heap → Prop} {Q : Value → Shared → Prop} (B : Begins v o H) (h0 : H s.heap)
    (h : ∀ h', IsEnum h' (s.heap.objs.size + 1) s.heap.objs.size 0 .none → h'.get? s.heap.objs.size = some o → (∀ b o, s.heap.get? b = some o → h'.get? b = some o) → Q (.ref (s.heap.objs.size + 1)) { s with heap := h' }) :
    wpAny (model prog w) A (call (.type "enumerate") [v]) Q E s := by
  refine callType_new F.called_enumerate (by decide) (F.typeCall_enumerate_1 _) (F.newCall_enumerate_1 _) (fun obj => F.args_object_init_2 obj _) F.entry_enumerate_new (new1 B) ⟨h0, ?_⟩
  have z : (s.heap.push o).objs.size = s.heap.objs.size + 1 := Heap.size_push ..
  show _ ∧ _
  rw [z]
  have e := Heap.get?_push_size (s.heap.push o) (o := { cls := .type "enumerate", data := .fields #[.none, .bool false, .ref s.heap.objs.size, rawInt 0, .none, .none] }) rfl
  rw [z] at e
  exact ⟨⟨_, e, rfl⟩, h _ e (Heap.get?_push_of_some _ (Heap.get?_push_size _ B.free)) fun b o x => Heap.get?_push_of_some _ (Heap.get?_push_of_some _ x)⟩
end OEnum
end PySem
namespace OE
open PySem PySem.Spec L2
variable [TN]

/-- the tuple at t, its items in new pairs with their numbers -/
def IteT (K : PySem.W.Frag) (t : Addr) : It :=
  ⟨fun i H => ∃ (xs : List V) (x : V), SqT K H t xs ∧ xs[i]? = some x, fun i H v H' => ∃ T x, v = .ref T ∧ H T = none ∧ H' = upd H T (.tup [.int (i : Nat), x]) ∧ ∀ xs, SqT K H t xs → xs[i]? = some x, fun i H => ∃ xs : List V, SqT K H t xs ∧ xs.length = i⟩
theorem turn_enumT {P : Program} {w : World} {K : PySem.W.Frag} {elts : List Expr} {kk : Nat} {tpos : Pos} (t e it : Addr) :
    Turn P w K (.Tuple elts kk tpos) (IteT K t) [e, it] e (fun i h => (∃ old, IsEnum h e it ((i : Nat) : Int) old) ∧ h.IsTupleIter it t i ∧ e ≠ it) where
  mem := List.mem_cons_self
  obj := fun i h st b hb => by
    obtain ⟨⟨old, he⟩, ⟨o, ho, _, hd⟩, _⟩ := st
    rcases List.mem_cons.mp hb with z | z
    · subst z
      exact ⟨_, he, fun v q => nomatch q⟩
    · rw [List.mem_singleton.mp z]
      exact ⟨o, ho, fun v q => by rw [hd] at q; cases q⟩
  keep := fun i h h' st k => by
    obtain ⟨⟨old, he⟩, hi, hne⟩ := st
    exact ⟨⟨old, k e List.mem_cons_self _ he⟩, hi.at fun o q => k it (List.mem_cons_of_mem _ List.mem_cons_self) o q, hne⟩
  item := by
    intro X hP hw hK hc i pins s σ H E I hf st hg
    subst hP hw hK
    obtain ⟨⟨old, he⟩, hit, hne⟩ := st
    obtain ⟨xs, x, hq, hx⟩ := hg
    obtain ⟨its, rv, pt, hz⟩ := I.tuple hq
    obtain ⟨u, hu, ru⟩ := rv.get hx
    have tne : t ≠ e := fun z => by
      obtain ⟨o, h1, h2, _⟩ := pt
      rw [z, he] at h1; cases h1; exact absurd (Value.type.inj h2) (by decide)
    have tni : t ≠ it := fun z => by
      obtain ⟨o, h1, h2, _⟩ := pt
      obtain ⟨o', h3, h4, _⟩ := hit
      rw [z, h3] at h1; cases h1; rw [h4] at h2; exact absurd (Value.type.inj h2) (by decide)
    have hlt : i < its.toArray.size := by
      rw [List.size_toArray]
      exact (List.getElem?_eq_some_iff.mp hu).1
    have WG := GoesN.enumFrom (elts := elts) (x1 := kk) (pos := tpos) 0 (Draws.tuple (prog := X.prog) (w := X.w) (A := X.A.in1) (I.ok.hd hc) it t tni its.toArray) e hne (by
      intro z
      rcases List.mem_cons.mp z with z | z
      · exact hne z
      · exact tne (List.mem_singleton.mp z).symm) List.mem_cons_self
    refine WG.goes i s _ E hlt ⟨⟨old, by rw [Int.zero_add]; exact he⟩, hit, pt⟩ fun v h' tk hY st' hk _ => ?_
    obtain ⟨T, t2, y, rfl, hT, hy, hTup⟩ := hY
    have eu : y = u := by
      have hy' : its[i]? = some y := by simpa using hy
      rw [hu] at hy'; exact (Option.some.inj hy').symm
    subst eu
    obtain ⟨⟨old', he'⟩, hit', _⟩ := st'
    have fr : H T = none := I.hok.fresh hT
    have new : ObjOk X.prog X.w (upd H T (.tup [.int (i : Nat), x])) h' T (.tup [.int (i : Nat), x]) :=
      ⟨by show 2 ≤ sizeLine; decide, [.int (0 + (i : Int)) t2, y], .cons ⟨t2, by rw [Int.zero_add]⟩ (.cons ru .nil), hTup⟩
    refine ⟨.ref T, _, I.turnedNew (ch := [e, it]) hk hf hT new, rfl, ⟨T, x, rfl, fr, rfl, fun ys hy => by rw [I.tuple_inj hy hq]; exact hx⟩, ⟨⟨old', ?_⟩, hit', hne⟩, fun b hb => ?_⟩
    · have z : (0 : Int) + ((i + 1 : Nat) : Int) = ((i + 1 : Nat) : Int) := Int.zero_add _
      rw [z] at he'
      exact he'
    · have hb2 := (hf b hb).1
      have : b ≠ T := fun z => by
        subst z
        rcases List.mem_cons.mp hb with z | z
        · subst z; exact absurd (Nat.lt_of_lt_of_le (Heap.lt_size he) hT) (Nat.lt_irrefl _)
        · rw [List.mem_singleton.mp z] at hT
          obtain ⟨o, ho, _⟩ := hit
          exact absurd (Nat.lt_of_lt_of_le (Heap.lt_size ho) hT) (Nat.lt_irrefl _)
      rw [upd_ne this]
      exact hb2
  done := by
    intro X hP hw hK hc i pins s σ H E I hf st hg
    subst hP hw hK
    obtain ⟨⟨old, he⟩, hit, hne⟩ := st
    obtain ⟨xs, hq, hx⟩ := hg
    obtain ⟨its, rv, pt, hz⟩ := I.tuple hq
    have tne : t ≠ e := fun z => by
      obtain ⟨o, h1, h2, _⟩ := pt
      rw [z, he] at h1; cases h1; exact absurd (Value.type.inj h2) (by decide)
    have tni : t ≠ it := fun z => by
      obtain ⟨o, h1, h2, _⟩ := pt
      obtain ⟨o', h3, h4, _⟩ := hit
      rw [z, h3] at h1; cases h1; rw [h4] at h2; exact absurd (Value.type.inj h2) (by decide)
    have hl : its.toArray.size = i := by rw [List.size_toArray, ← rv.length]; exact hx
    have WG := GoesN.enumFrom (elts := elts) (x1 := kk) (pos := tpos) 0 (Draws.tuple (prog := X.prog) (w := X.w) (A := X.A.in1) (I.ok.hd hc) it t tni its.toArray) e hne (by
      intro z
      rcases List.mem_cons.mp z with z | z
      · exact hne z
      · exact tne (List.mem_singleton.mp z).symm) List.mem_cons_self
    refine WG.stops s _ E ?_ fun h' tk hk _ => ?_
    · rw [hl]
      exact ⟨⟨old, by rw [Int.zero_add]; exact he⟩, hit, pt⟩
    · have nit : ∀ b u, H b = some u → b ∉ [e, it] := fun b u q z => by
        rw [(hf b z).1] at q; cases q
      refine I.step (g' := s.gens) (d' := s.drawn) (t' := tk) (ch := [e, it]) (fun b hb => ⟨(hf b hb).2.2.2.1, (hf b hb).2.1, (hf b hb).2.2.2.2.1, (hf b hb).2.2.2.2.2⟩) (fun b o _ _ hc e _ => hk b o hc e) (fun b o _ _ hc e _ => ⟨o.slots, hk b o hc e⟩)
        (fun b o _ _ n => n) (fun b o hc e => ⟨o, hk b o hc e⟩) (fun _ _ e => e) (fun _ _ _ e => e) (fun b ps q => ⟨#[], by rw [q]; simp⟩) (fun m hm => ?_) (fun b u q => ?_) I.bare
      · obtain ⟨o, es, ep, ho, r⟩ := hm
        exact ⟨o, es, ep, hk _ o (fun z => (hf _ z).2.1 rfl) ho, r⟩
      · refine (I.hok b u q).stay (fun c v hc r => hk c v ?_ r) (fun _ r => r) fun _ _ r => r
        rcases hc with z | z
        · rw [z]; exact nit b u q
        · exact nit c _ z
  self := fun A i s Q E st h => let ⟨⟨_, he⟩, _⟩ := st; wpAny_pyIter_enum he h
def iEnumA (K : PySem.W.Frag) (ta : TA) : TI := fun σ H R => ta σ H fun vs H1 => ∃ a xs, vs = [.ref a] ∧ ((SqL K H1 a xs ∧ R (Ite K a) H1) ∨ (SqT K H1 a xs ∧ R (IteT K a) H1))
theorem pi_enumA {X : Cx} {e : Expr} {ta : TA} {p pos tpos : Pos} {elts : List Expr} {kk : Nat} (hg : Gl X "enumerate") (hm : X.mg "enumerate" = none) (ha : PA X [e] ta) (hs : starEach [e] X.env = [(false, eval e X.env)] := by rfl) :
    PI X (.Tuple elts kk tpos) (.Call (.Name "enumerate" p) [e] [] pos) (iEnumA X.K ta) := by
  refine ⟨fun pins s σ H R I h => ?_⟩
  refine PyProof.Rows.Call_ (ld_blt I hg hm PyProof.Rows.boot_enumerate (PyProof.Rows.callWith_type1 (thn (ha.run pos pins s σ H _ I h) fun us s1 hh => ?_) hs rfl))
  obtain ⟨vs, H1, I1, r1, a, xs, ex, q⟩ := hh
  subst ex
  rcases r1 with _ | ⟨r, rr⟩
  cases rr
  cases r
  have fin : ∀ {h' : Heap} {J : It} {tn : Nat → Heap → Prop}, (∀ b o, s1.heap.get? b = some o → h'.get? b = some o) → Turn X.prog X.w X.K (.Tuple elts kk tpos) J [s1.heap.objs.size + 1, s1.heap.objs.size] (s1.heap.objs.size + 1) tn → tn 0 h' → R J H1 →
      PIE X pins σ (.Tuple elts kk tpos) R (.ref (s1.heap.objs.size + 1)) { s1 with heap := h' } := fun {h' J tn} hk T t0 hR => by
    refine ⟨_, _, tn, J, H1, rfl, I1.kept (t' := s1.toks) hk, T, t0, fun b hb => ?_, hR⟩
    have hle : s1.heap.objs.size ≤ b := by
      rcases List.mem_cons.mp hb with z | z
      · rw [z]; exact Nat.le_succ _
      · rw [List.mem_singleton.mp z]; exact Nat.le_refl _
    exact I1.fpOk hle (I1.hok.fresh hle)
  rcases q with ⟨hq, q⟩ | ⟨hq, q⟩
  · obtain ⟨its, rv, p', hz⟩ := I1.list hq
    refine OEnum.call1 (begins_list a its.toArray) p'.isList fun h' he hi hk => wpAny_pyIter_enum he ?_
    exact fin hk (turn_enum a _ _) ⟨⟨.none, he⟩, ⟨_, hi, rfl, rfl⟩, Nat.succ_ne_self _⟩ q
  · obtain ⟨its, rv, p', hz⟩ := I1.tuple hq
    refine OEnum.call1 (begins_tuple a its.toArray) p' fun h' he hi hk => wpAny_pyIter_enum he ?_
    exact fin hk (turn_enumT a _ _) ⟨⟨.none, he⟩, ⟨_, hi, rfl, rfl⟩, Nat.succ_ne_self _⟩ q
end OE

namespace OE
open PySem PySem.Spec L2
variable [TN]
section
variable {Γ : Gam} {X : Cx} {W : WX} {a b c tg : Expr} {ta tb tc : Ev → Wp D} {pos : Pos}
/-- a list, a tuple, a text -/
def iSeq (K : PySem.W.Frag) (tl : TE) : TI := fun σ H R => tl σ H fun x H1 => (∃ a xs, x = .ref a ∧ SqL K H1 a xs ∧ R (Itl K a) H1) ∨ (∃ a xs, x = .ref a ∧ SqT K H1 a xs ∧ R (Itt K a) H1) ∨ (∃ z, x = .str z ∧ R (Its z) H1)
theorem pi_seq {tl : TE} (hl : PE X a tl) : PI X tg a (iSeq X.K tl) := by
  refine ⟨fun pins s σ H R I h => thn (hl.run pins s σ H _ I h) fun v s1 hh => ?_⟩
  obtain ⟨x, H1, I1, r1, q1⟩ := hh
  have fresh : ∀ b ∈ [s1.heap.objs.size], FpOk X pins H1 b := fun b hb => by
    rw [List.mem_singleton.mp hb]
    exact I1.fpOk (Nat.le_refl _) (I1.hok.fresh (Nat.le_refl _))
  rcases q1 with ⟨p, xs, rfl, hq, q⟩ | ⟨p, xs, rfl, hq, q⟩ | ⟨z, rfl, q⟩
  · cases r1
    obtain ⟨its, rv, pl, hz⟩ := I1.list hq
    exact wpAny_pyIter_list pl.isList ⟨_, _, _, _, H1, rfl, I1.kept (t' := s1.toks) fun b o e => Heap.get?_push_of_some _ e, turn_list p _, ⟨_, Heap.get?_push_size _ rfl, rfl, rfl⟩, fresh, q⟩
  · cases r1
    obtain ⟨its, rv, pl, hz⟩ := I1.tuple hq
    exact wpAny_pyIter_tuple (show s1.heap.IsTuple p its.toArray from pl) ⟨_, _, _, _, H1, rfl, I1.kept (t' := s1.toks) fun b o e => Heap.get?_push_of_some _ e, turn_tuple p _, ⟨_, Heap.get?_push_size _ rfl, rfl, rfl⟩, fresh, q⟩
  · obtain ⟨t, rfl⟩ := r1
    cases ha : z.cps.all (· < 128)
    · exact wpAny_pyIter_wide ha ⟨_, _, _, _, H1, rfl, I1.kept (t' := s1.toks) fun b o e => Heap.get?_push_of_some _ e, turn_str _ z t "str_iterator" (.inr rfl), ⟨_, Heap.get?_push_size _ rfl, rfl, rfl⟩, fresh, q⟩
    · exact wpAny_pyIter_ascii ha ⟨_, _, _, _, H1, rfl, I1.kept (t' := s1.toks) fun b o e => Heap.get?_push_of_some _ e, turn_str _ z t "str_ascii_iterator" (.inl rfl), ⟨_, Heap.get?_push_size _ rfl, rfl, rfl⟩, fresh, q⟩
theorem walkD_list {K : PySem.W.Frag} {p : Addr} {xs : List V} {Hs : Hp} {ds : List D} (hq : SqL K Hs p xs) (g : DvAll K Hs xs ds) : WalkD K (Itl K p) Hs ds := by
  refine ⟨fun i n Hs1 H e s hi => ?_, fun n Hs1 H e s => ⟨xs, s.same.lst (e.lst hq), by rw [g.length]; exact Nat.le_refl _⟩, fun i n Hs1 H x H' e s hi y => ?_⟩
  · obtain ⟨v, h1, h2⟩ := g.get (List.getElem?_eq_getElem hi)
    exact ⟨xs, v, s.same.lst (e.lst hq), h1⟩
  · obtain ⟨e1, y⟩ := y
    subst e1
    have hx := y xs (s.same.lst (e.lst hq))
    obtain ⟨d, h1, h2⟩ := g.getV hx
    exact ⟨Hs1, d, h1, .refl _ _, s, h2.ext e⟩
theorem walkD_tup {K : PySem.W.Frag} {p : Addr} {xs : List V} {Hs : Hp} {ds : List D} (hq : SqT K Hs p xs) (g : DvAll K Hs xs ds) : WalkD K (Itt K p) Hs ds := by
  refine ⟨fun i n Hs1 H e s hi => ?_, fun n Hs1 H e s => ⟨xs, s.same.tup (e.tup hq), by rw [g.length]; exact Nat.le_refl _⟩, fun i n Hs1 H x H' e s hi y => ?_⟩
  · obtain ⟨v, h1, h2⟩ := g.get (List.getElem?_eq_getElem hi)
    exact ⟨xs, v, s.same.tup (e.tup hq), h1⟩
  · obtain ⟨e1, y⟩ := y
    subst e1
    have hx := y xs (s.same.tup (e.tup hq))
    obtain ⟨d, h1, h2⟩ := g.getV hx
    exact ⟨Hs1, d, h1, .refl _ _, s, h2.ext e⟩
theorem walkD_str {K : PySem.W.Frag} {z : Str} {Hs : Hp} : WalkD K (Its z) Hs (z.cps.toList.map fun c => D.str ⟨#[c]⟩) := by
  have hl : (z.cps.toList.map fun c => D.str ⟨#[c]⟩).length = z.cps.size := by rw [List.length_map, Array.length_toList]
  refine ⟨fun i n Hs1 H e s hi => ?_, fun n Hs1 H e s => ?_, fun i n Hs1 H x H' e s hi y => ?_⟩
  · rw [hl] at hi; exact hi
  · rw [hl]; exact Nat.le_refl _
  · obtain ⟨e1, c, hc, e2⟩ := y
    subst e1; subst e2
    refine ⟨Hs1, .str ⟨#[c]⟩, ?_, .refl _ _, s, .str _⟩
    rw [List.getElem?_map, Array.getElem?_toList, hc]
    rfl
/-- the items that are walked -/
def items : D → Wp (List D)
  | .lst l => Wp.ret l
  | .tup l => Wp.ret l
  | .scr l => Wp.ret (l.map D.int)
  | .str z => Wp.ret (z.cps.toList.map fun c => D.str ⟨#[c]⟩)
  | _ => Wp.stuck
def tseq (t : Ev → Wp D) : Ev → Wp (List D) := fun ρ => Wp.bind (t ρ) items
theorem di_seq (ha : DE Γ X W a ta) : DI Γ X W tg a (tseq ta) := by
  obtain ⟨ea, pa, fa⟩ := ha
  refine ⟨_, pi_seq pa, fun σ H Hs ρ n q x Q s r h k ke => fa σ H Hs ρ n _ x _ s r h (fun v H1 Hs1 d n1 g1 s1 hv h1 => ?_) ke⟩
  cases hv with
  | @lst p xs ds e1 g => exact .inl ⟨p, xs, rfl, SqL.of (s1.sub _ _ e1), k _ H1 Hs1 _ n1 g1 s1 (walkD_list (SqL.of e1) g) h1⟩
  | @scr p ns e1 => exact .inl ⟨p, _, rfl, s1.same.lst e1, k _ H1 Hs1 _ n1 g1 s1 (walkD_list e1 (DvAll.ints ns)) h1⟩
  | @tup p xs ds e1 g => exact .inr (.inl ⟨p, xs, rfl, s1.same.tup e1, k _ H1 Hs1 _ n1 g1 s1 (walkD_tup e1 g) h1⟩)
  | str z => exact .inr (.inr ⟨z, rfl, k _ H1 Hs1 _ n1 g1 s1 walkD_str h1⟩)
  | _ => exact (show False from h1).elim
/-- ranges -/
def rangeD (lo : Int) (n : Nat) : List D := (List.range n).map fun k => D.int (lo + (k : Nat))
theorem walkD_range {K : PySem.W.Frag} {lo : Int} {m : Nat} {Hs : Hp} : WalkD K (Itr lo m) Hs (rangeD lo m) := by
  have hl : (rangeD lo m).length = m := by unfold rangeD; rw [List.length_map, List.length_range]
  refine ⟨fun i n Hs1 H e s hi => ?_, fun n Hs1 H e s => ?_, fun i n Hs1 H x H' e s hi y => ?_⟩
  · show i < m
    rw [hl] at hi; exact hi
  · show m ≤ _
    rw [hl]; exact Nat.le_refl _
  · obtain ⟨e1, e2⟩ := y
    subst e1; subst e2
    rw [hl] at hi
    refine ⟨Hs1, .int (lo + i), ?_, .refl _ _, s, .int _⟩
    unfold rangeD
    rw [List.getElem?_map, List.getElem?_range hi]
    rfl
def fRange1 : List D → Wp (List D)
  | [.int j] => Wp.bind (Wp.ask (-(2 ^ 62) ≤ j ∧ j < 2 ^ 62)) fun _ => Wp.ret (rangeD 0 j.toNat)
  | _ => Wp.stuck
def fRange2 : List D → Wp (List D)
  | [.int i, .int j] => Wp.bind (Wp.ask (-(2 ^ 62) ≤ i ∧ i < 2 ^ 62 ∧ -(2 ^ 62) ≤ j ∧ j < 2 ^ 62)) fun _ => Wp.ret (rangeD i (j - i).toNat)
  | _ => Wp.stuck
def tits (f : List D → Wp (List D)) (t : Ev → Wp (List D)) : Ev → Wp (List D) := fun ρ => Wp.bind (t ρ) f
theorem di_range1 {p : Pos} {t : Ev → Wp (List D)} (hm : X.mg "range" = none) (ha : DA Γ X W [a] t) (hg : Gl X "range" := by rfl) (hs : starEach [a] X.env = [(false, eval a X.env)] := by rfl) : DI Γ X W tg (.Call (.Name "range" p) [a] [] pos) (tits fRange1 t) := by
  obtain ⟨ea, pa, fa⟩ := ha
  refine ⟨_, pi_range1 hg hm pa hs, fun σ H Hs ρ n q x Q s r h k ke => fa σ H Hs ρ n _ x _ s r h (fun vs H1 Hs1 ds n1 g1 s1 hv h1 => ?_) ke⟩
  rcases hv with _ | ⟨hv, _ | ⟨hw, _⟩⟩
  · exact (show False from h1).elim
  · cases hv with
    | int j => exact ⟨j, rfl, h1.1.1, h1.1.2, k _ H1 Hs1 _ n1 g1 s1 walkD_range h1.2⟩
    | _ => exact (show False from h1).elim
  · cases hv <;> exact (show False from h1).elim
theorem di_range2 {p : Pos} {t : Ev → Wp (List D)} (hm : X.mg "range" = none) (ha : DA Γ X W [a, b] t) (hg : Gl X "range" := by rfl) (hs : starEach [a, b] X.env = [(false, eval a X.env), (false, eval b X.env)] := by rfl) (hs2 : starEach [b] X.env = [(false, eval b X.env)] := by rfl) :
    DI Γ X W tg (.Call (.Name "range" p) [a, b] [] pos) (tits fRange2 t) := by
  obtain ⟨ea, pa, fa⟩ := ha
  refine ⟨_, pi_range2 hg hm pa hs hs2, fun σ H Hs ρ n q x Q s r h k ke => fa σ H Hs ρ n _ x _ s r h (fun vs H1 Hs1 ds n1 g1 s1 hv h1 => ?_) ke⟩
  rcases hv with _ | ⟨hv, _ | ⟨hw, _ | ⟨_, _⟩⟩⟩
  · exact (show False from h1).elim
  · cases hv <;> exact (show False from h1).elim
  · cases hv <;> cases hw <;> first | exact (show False from h1).elim | exact ⟨_, _, rfl, h1.1, k _ H1 Hs1 _ n1 g1 s1 walkD_range h1.2⟩
  · cases hv <;> cases hw <;> exact (show False from h1).elim
/-- enumerate -/
def enumD : Nat → List D → List D
  | _, [] => []
  | i, d :: ds => .tup [.int (i : Nat), d] :: enumD (i + 1) ds
theorem enumD_length : ∀ (ds : List D) (i : Nat), (enumD i ds).length = ds.length
  | [], _ => rfl
  | _ :: ds, i => congrArg (· + 1) (enumD_length ds (i + 1))
theorem enumD_get : ∀ (ds : List D) (i j : Nat) (d : D), ds[j]? = some d → (enumD i ds)[j]? = some (.tup [.int ((i + j : Nat) : Int), d])
  | [], _, _, _, h => by simp at h
  | x :: ds, i, 0, d, h => by
    simp at h; subst h
    rfl
  | x :: ds, i, j + 1, d, h => by
    show (enumD (i + 1) ds)[j]? = _
    rw [enumD_get ds (i + 1) j d (by simpa using h)]
    have : i + 1 + j = i + (j + 1) := by omega
    rw [this]
theorem walkD_enum {K : PySem.W.Frag} {p : Addr} {xs : List V} {Hs : Hp} {ds : List D} (hq : SqL K Hs p xs) (g : DvAll K Hs xs ds) : WalkD K (Ite K p) Hs (enumD 0 ds) := by
  refine ⟨fun i n Hs1 H e s hi => ?_, fun n Hs1 H e s => ⟨xs, s.same.lst (e.lst hq), by rw [enumD_length, g.length]; exact Nat.le_refl _⟩, fun i n Hs1 H x H' e s hi y => ?_⟩
  · rw [enumD_length] at hi
    obtain ⟨v, h1, h2⟩ := g.get (List.getElem?_eq_getElem hi)
    exact ⟨xs, v, s.same.lst (e.lst hq), h1⟩
  · obtain ⟨T, y, rfl, hT, rfl, hy⟩ := y
    obtain ⟨d, h1, h2⟩ := g.getV (hy xs (s.same.lst (e.lst hq)))
    obtain ⟨s2, g2, v2⟩ := new_tup (K := K) (ds := [.int (i : Nat), d]) s hT (.cons (.int _) (.cons (h2.ext e) .nil))
    exact ⟨_, _, by rw [enumD_get ds 0 i d h1, Nat.zero_add], g2, s2, v2⟩
theorem walkD_enumT {K : PySem.W.Frag} {p : Addr} {xs : List V} {Hs : Hp} {ds : List D} (hq : SqT K Hs p xs) (g : DvAll K Hs xs ds) : WalkD K (IteT K p) Hs (enumD 0 ds) := by
  refine ⟨fun i n Hs1 H e s hi => ?_, fun n Hs1 H e s => ⟨xs, s.same.tup (e.tup hq), by rw [enumD_length, g.length]⟩, fun i n Hs1 H x H' e s hi y => ?_⟩
  · rw [enumD_length] at hi
    obtain ⟨v, h1, h2⟩ := g.get (List.getElem?_eq_getElem hi)
    exact ⟨xs, v, s.same.tup (e.tup hq), h1⟩
  · obtain ⟨T, y, rfl, hT, rfl, hy⟩ := y
    obtain ⟨d, h1, h2⟩ := g.getV (hy xs (s.same.tup (e.tup hq)))
    obtain ⟨s2, g2, v2⟩ := new_tup (K := K) (ds := [.int (i : Nat), d]) s hT (.cons (.int _) (.cons (h2.ext e) .nil))
    exact ⟨_, _, by rw [enumD_get ds 0 i d h1, Nat.zero_add], g2, s2, v2⟩
def fEnum : List D → Wp (List D)
  | [.lst l] => Wp.ret (enumD 0 l)
  | [.tup l] => Wp.ret (enumD 0 l)
  | [.scr l] => Wp.ret (enumD 0 (l.map D.int))
  | _ => Wp.stuck
theorem di_enum {p tpos : Pos} {elts : List Expr} {kk : Nat} {t : Ev → Wp (List D)} (hm : X.mg "enumerate" = none) (ha : DA Γ X W [a] t) (hg : Gl X "enumerate" := by rfl) (hs : starEach [a] X.env = [(false, eval a X.env)] := by rfl) :
    DI Γ X W (.Tuple elts kk tpos) (.Call (.Name "enumerate" p) [a] [] pos) (tits fEnum t) := by
  obtain ⟨ea, pa, fa⟩ := ha
  refine ⟨_, pi_enumA hg hm pa hs, fun σ H Hs ρ n q x Q s r h k ke => fa σ H Hs ρ n _ x _ s r h (fun vs H1 Hs1 ds n1 g1 s1 hv h1 => ?_) ke⟩
  rcases hv with _ | ⟨hv, _ | ⟨hw, _⟩⟩
  · exact (show False from h1).elim
  · cases hv with
    | @lst p xs ds e1 g => exact ⟨p, xs, rfl, .inl ⟨SqL.of (s1.sub _ _ e1), k _ H1 Hs1 _ n1 g1 s1 (walkD_enum (SqL.of e1) g) h1⟩⟩
    | @scr p ns e1 => exact ⟨p, _, rfl, .inl ⟨s1.same.lst e1, k _ H1 Hs1 _ n1 g1 s1 (walkD_enum e1 (DvAll.ints ns)) h1⟩⟩
    | @tup p xs ds e1 g => exact ⟨p, xs, rfl, .inr ⟨s1.same.tup e1, k _ H1 Hs1 _ n1 g1 s1 (walkD_enumT e1 g) h1⟩⟩
    | _ => exact (show False from h1).elim
  · cases hv <;> exact (show False from h1).elim
/-- zip of two lists, of two tuples -/
def zipD : List D → List D → List D
  | d :: ds, e :: es => .tup [d, e] :: zipD ds es
  | _, _ => []
theorem zipD_length : ∀ (ds es : List D), (zipD ds es).length = min ds.length es.length
  | [], es => by simp [zipD]
  | _ :: _, [] => by simp [zipD]
  | _ :: ds, _ :: es => by
    show (zipD ds es).length + 1 = min (ds.length + 1) (es.length + 1)
    rw [zipD_length ds es]; omega
theorem zipD_get : ∀ (ds es : List D) (j : Nat) (d e : D), ds[j]? = some d → es[j]? = some e → (zipD ds es)[j]? = some (.tup [d, e])
  | [], _, _, _, _, h, _ => by simp at h
  | _ :: _, [], _, _, _, _, h => by simp at h
  | x :: ds, y :: es, 0, d, e, h, h' => by simp at h h'; subst h; subst h'; rfl
  | x :: ds, y :: es, j + 1, d, e, h, h' => zipD_get ds es j d e (by simpa using h) (by simpa using h')
theorem walkD_zip {K : PySem.W.Frag} {p p' : Addr} {xs ys : List V} {Hs : Hp} {ds es : List D} (hq : SqL K Hs p xs) (hq' : SqL K Hs p' ys) (g : DvAll K Hs xs ds) (g' : DvAll K Hs ys es) : WalkD K (Itz K p p') Hs (zipD ds es) := by
  refine ⟨fun i n Hs1 H e s hi => ?_, fun n Hs1 H e s => ⟨xs, ys, s.same.lst (e.lst hq), s.same.lst (e.lst hq'), by rw [zipD_length, g.length, g'.length]; omega⟩, fun i n Hs1 H x H' e s hi y => ?_⟩
  · rw [zipD_length] at hi
    obtain ⟨v, h1, h2⟩ := g.get (List.getElem?_eq_getElem (show i < ds.length by omega))
    obtain ⟨v', h1', h2'⟩ := g'.get (List.getElem?_eq_getElem (show i < es.length by omega))
    exact ⟨xs, ys, v, v', s.same.lst (e.lst hq), s.same.lst (e.lst hq'), h1, h1'⟩
  · obtain ⟨T, y, z, rfl, hT, rfl, hy, hz⟩ := y
    obtain ⟨d, h1, h2⟩ := g.getV (hy xs (s.same.lst (e.lst hq)))
    obtain ⟨d', h1', h2'⟩ := g'.getV (hz ys (s.same.lst (e.lst hq')))
    obtain ⟨s2, g2, v2⟩ := new_tup (K := K) (ds := [d, d']) s hT (.cons (h2.ext e) (.cons (h2'.ext e) .nil))
    exact ⟨_, _, zipD_get ds es i d d' h1 h1', g2, s2, v2⟩
theorem walkD_zipT {K : PySem.W.Frag} {p p' : Addr} {xs ys : List V} {Hs : Hp} {ds es : List D} (hq : SqT K Hs p xs) (hq' : SqT K Hs p' ys) (g : DvAll K Hs xs ds) (g' : DvAll K Hs ys es) : WalkD K (RZ.ItzT K p p') Hs (zipD ds es) := by
  refine ⟨fun i n Hs1 H e s hi => ?_, fun n Hs1 H e s => ⟨xs, ys, s.same.tup (e.tup hq), s.same.tup (e.tup hq'), by rw [zipD_length, g.length, g'.length]; omega⟩, fun i n Hs1 H x H' e s hi y => ?_⟩
  · rw [zipD_length] at hi
    obtain ⟨v, h1, h2⟩ := g.get (List.getElem?_eq_getElem (show i < ds.length by omega))
    obtain ⟨v', h1', h2'⟩ := g'.get (List.getElem?_eq_getElem (show i < es.length by omega))
    exact ⟨xs, ys, v, v', s.same.tup (e.tup hq), s.same.tup (e.tup hq'), h1, h1'⟩
  · obtain ⟨T, y, z, rfl, hT, rfl, hy, hz⟩ := y
    obtain ⟨d, h1, h2⟩ := g.getV (hy xs (s.same.tup (e.tup hq)))
    obtain ⟨d', h1', h2'⟩ := g'.getV (hz ys (s.same.tup (e.tup hq')))
    obtain ⟨s2, g2, v2⟩ := new_tup (K := K) (ds := [d, d']) s hT (.cons (h2.ext e) (.cons (h2'.ext e) .nil))
    exact ⟨_, _, zipD_get ds es i d d' h1 h1', g2, s2, v2⟩
def fZip : List D → Wp (List D)
  | [.lst l, .lst l'] => Wp.ret (zipD l l')
  | [.tup l, .tup l'] => Wp.ret (zipD l l')
  | _ => Wp.stuck
theorem di_zip {p tpos : Pos} {elts : List Expr} {kk : Nat} {t : Ev → Wp (List D)} (hm : X.mg "zip" = none) (ha : DA Γ X W [a, b] t) (hg : Gl X "zip" := by rfl) (hs : starEach [a, b] X.env = (false, eval a X.env) :: starEach [b] X.env := by rfl) (hpl : (backTo pos (starEach [b] X.env)).any (·.1) = false := by rfl) :
    DI Γ X W (.Tuple elts kk tpos) (.Call (.Name "zip" p) [a, b] [] pos) (tits fZip t) := by
  obtain ⟨ea, pa, fa⟩ := ha
  refine ⟨_, RZ.pi_zipA hg hm pa hs hpl, fun σ H Hs ρ n q x Q s r h k ke => fa σ H Hs ρ n _ x _ s r h (fun vs H1 Hs1 ds n1 g1 s1 hv h1 => ?_) ke⟩
  rcases hv with _ | ⟨hv, _ | ⟨hw, _ | ⟨_, _⟩⟩⟩
  · exact (show False from h1).elim
  · cases hv <;> exact (show False from h1).elim
  · cases hv with
    | @lst p xs ds e1 g =>
      cases hw with
      | @lst p' ys es e2 g' => exact ⟨p, p', xs, ys, rfl, .inl ⟨SqL.of (s1.sub _ _ e1), SqL.of (s1.sub _ _ e2), k _ H1 Hs1 _ n1 g1 s1 (walkD_zip (SqL.of e1) (SqL.of e2) g g') h1⟩⟩
      | _ => exact (show False from h1).elim
    | @tup p xs ds e1 g =>
      cases hw with
      | @tup p' ys es e2 g' => exact ⟨p, p', xs, ys, rfl, .inr ⟨s1.same.tup e1, s1.same.tup e2, k _ H1 Hs1 _ n1 g1 s1 (walkD_zipT e1 e2 g g') h1⟩⟩
      | _ => exact (show False from h1).elim
    | _ => exact (show False from h1).elim
  · cases hv <;> cases hw <;> exact (show False from h1).elim

/-! ### comprehensions -/
def teD (Γ : Gam) (K : PySem.W.Frag) (W : WX) (t : Ev → Wp D) : TE := fun σ H Q => ∃ (n : S) (Hs : Hp) (ρ : Ev) (q : D → S → Prop) (x : Exn → S → Prop), Sit K n Hs H ∧ R K ρ σ Hs ∧ t ρ n q x ∧ OkQ K Hs H q Q ∧ OkE K Γ Hs H x (fun c d h => W c d σ h)
def ttD (Γ : Gam) (K : PySem.W.Frag) (W : WX) (t : Ev → Wp Bool) : TT := fun σ H Q => ∃ (n : S) (Hs : Hp) (ρ : Ev) (q : Bool → S → Prop) (x : Exn → S → Prop), Sit K n Hs H ∧ R K ρ σ Hs ∧ t ρ n q x ∧ (∀ b H' Hs' n', Go Hs H Hs' H' → Sit K n' Hs' H' → q b n' → Q b H') ∧ OkE K Γ Hs H x (fun c d h => W c d σ h)
def tgD (K : PySem.W.Frag) (is : List Nat) (g : D → Ev → Wp Ev) : TG := fun v σ H Q => ∃ (n : S) (Hs : Hp) (ρ : Ev) (d : D) (q : Ev → S → Prop) (x : Exn → S → Prop), Sit K n Hs H ∧ R K ρ σ Hs ∧ Dv K Hs v d ∧ g d ρ n q x ∧ ∀ ρ' σ', R K ρ' σ' Hs → Sets is σ σ' → q ρ' n → Q σ' H
theorem DE.pe {t : Ev → Wp D} (h : DE Γ X W a t) : PE X a (teD Γ X.K W t) := by
  obtain ⟨te, p, f⟩ := h
  exact ⟨fun pins s σ H Q I ⟨n, Hs, ρ, q, x, h1, h2, h3, h4, h5⟩ => p.run pins s σ H Q I (f σ H Hs ρ n q x Q h1 h2 h3 h4 h5)⟩
theorem DT.pt {t : Ev → Wp Bool} (h : DT Γ X W a t) : PT X a (ttD Γ X.K W t) := by
  obtain ⟨te, p, f⟩ := h
  exact ⟨fun pins s σ H Q I ⟨n, Hs, ρ, q, x, h1, h2, h3, h4, h5⟩ => p.run pins s σ H Q I (f σ H Hs ρ n q x Q h1 h2 h3 h4 h5)⟩
theorem DG.pg {is : List Nat} {g : D → Ev → Wp Ev} (h : DG X tg is g) : PG X tg (tgD X.K is g) := by
  obtain ⟨te, p, f⟩ := h
  exact ⟨fun pins s σ H v u Q I rv ⟨n, Hs, ρ, d, q, x, h1, h2, h3, h4, h5⟩ => p.run pins s σ H v u Q I rv (f v d σ H Hs ρ n q x Q h1 h2 h3 h4 h5)⟩
/-- the tests of a clause -/
def DTs (Γ : Gam) (X : Cx) (W : WX) (ifs : List Expr) (t : Ev → Wp Bool) : Prop := PTs X ifs (ttD Γ X.K W t)
theorem dts_nil : DTs Γ X W [] (fun _ => Wp.ret true) := ⟨fun pins s σ H Q I ⟨n, Hs, ρ, q, x, h1, h2, h3, h4, h5⟩ => pts_nil.run pins s σ H Q I (h4 true H Hs n (.refl _ _) h1 h3)⟩
theorem dts_one {t : Ev → Wp Bool} (h : DT Γ X W a t) : DTs Γ X W [a] t := pts_one h.pt
abbrev W0 : WX := fun _ _ _ _ => False
def wipeE (ρ : Ev) : List Nat → Ev
  | [] => ρ
  | v :: vs => (wipeE ρ vs).set v none
theorem R.wipe {K : PySem.W.Frag} {ρ : Ev} {σ : St} {Hs : Hp} (r : R K ρ σ Hs) : ∀ vs : List Nat, R K (wipeE ρ vs) (L2.wipe σ vs) Hs
  | [] => r
  | v :: vs => (R.wipe r vs).unset v none
def lcW (g : D → Ev → Wp Ev) (tt : Ev → Wp Bool) (te : Ev → Wp D) (ρ : Ev) : List D → Wp (List D)
  | [] => Wp.ret []
  | d :: ds => Wp.bind (g d ρ) fun ρ1 => Wp.bind (tt ρ1) fun b => if b = true then Wp.bind (te ρ1) fun y => Wp.bind (lcW g tt te ρ ds) fun ys => Wp.ret (y :: ys) else lcW g tt te ρ ds
def tlc (ti : Ev → Wp (List D)) (g : D → Ev → Wp Ev) (tt : Ev → Wp Bool) (te : Ev → Wp D) (vs : List Nat) : Ev → Wp D := fun ρ => Wp.bind (ti ρ) fun ds => Wp.bind (Wp.ask (ds.length ≤ 1000000)) fun _ =>
  Wp.bind (Wp.calm (lcW g tt te (wipeE ρ vs) ds)) fun ys => Wp.ret (.lst ys)
theorem lc_read {Γ : Gam} {K : PySem.W.Frag} {is vs : List Nat} {g : D → Ev → Wp Ev} {tt : Ev → Wp Bool} {te : Ev → Wp D} (his : ∀ i ∈ is, i ∈ vs) {J : It} {H1 Hs1 : Hp} {ds : List D} {n1 : S} {σ : St} {ρ : Ev} {q : D → S → Prop} {Q : VK}
    (s1 : Sit K n1 Hs1 H1) (wd : WalkD K J Hs1 ds) (r : R K ρ σ Hs1) (hl : ds.length ≤ 1000000) (h : lcW g tt te (wipeE ρ vs) ds n1 (fun ys n => q (.lst ys) n) (fun _ _ => False)) (k : OkQ K Hs1 H1 q Q) (A : Addr) (hA : H1 A = none) :
    ∃ W : Nat → Nat → Hp → Prop, (∃ m, W 0 m (upd H1 A (.lst []))) ∧ ∀ i m H, W i m H → (J.stop i H ∧ Q (.ref A) H) ∨ (J.go i H ∧ ∃ Nx : Hp → Prop, (∀ H', Nx H' → ∃ m', m' < m ∧ W (i + 1) m' H') ∧
      ∀ x H', J.yld i H x H' → tgD K is g x (wipe σ vs) H' fun σ2 H2 => wipe σ2 vs = wipe σ vs ∧ ttD Γ K W0 tt σ2 H2 fun b H3 =>
        if b = true then teD Γ K W0 te σ2 H3 fun y H4 => ∃ acc, H4 A = some (.lst acc) ∧ acc.length < sizeLine ∧ Nx (upd H4 A (.lst (acc ++ [y]))) else Nx H3) := by
  have hAs := s1.free hA
  -- between the turns: the list so far is ours alone
  have inv : ∃ P : Nat → Hp → Prop, P = fun i H => ∃ (Hs : Hp) (n : S) (acc : List V) (ad : List D), i ≤ ds.length ∧ acc.length ≤ i ∧ Ext Hs1 Hs ∧ Sit K n Hs H ∧ (∀ a o, H1 a = some o → Hs1 a = none → H a = some o ∧ Hs a = none) ∧ H A = some (.lst acc) ∧ Hs A = none ∧ DvAll K Hs acc ad ∧
      lcW g tt te (wipeE ρ vs) (ds.drop i) n (fun ys n => q (.lst (ad ++ ys)) n) (fun _ _ => False) := ⟨_, rfl⟩
  obtain ⟨P, hP⟩ := inv
  have put : ∀ {H : Hp} {Hs : Hp} {n : S} {o : HO}, Sit K n Hs H → Hs A = none → Sit K n Hs (upd H A o) := fun {H Hs n o} s e => s.own fun b u z => upd_ne (ne_of_none z e)
  refine ⟨fun i m H => m = ds.length - i ∧ P i H, ⟨_, rfl, ?_⟩, ?_⟩
  · rw [hP]
    refine ⟨Hs1, n1, [], [], Nat.zero_le _, Nat.le_refl _, .refl _, put s1 hAs, fun a o e1 e2 => ⟨?_, e2⟩, upd_same, hAs, .nil, h⟩
    rw [upd_ne (ne_of_none e1 hA)]; exact e1
  · rintro i m H ⟨rfl, hPi⟩
    rw [hP] at hPi
    obtain ⟨Hs, n, acc, ad, hi, hal, he, s, own, hAl, hAn, g1, h⟩ := hPi
    by_cases hlt : i < ds.length
    · refine .inr ⟨wd.go i n Hs H he s hlt, P (i + 1), fun H' p => ⟨ds.length - (i + 1), by omega, rfl, p⟩, fun x H' hy => ?_⟩
      obtain ⟨Hs', d, hd, g2, s2, hv⟩ := wd.yld i n Hs H x H' he s hlt hy
      rw [drop_cons hd] at h
      obtain ⟨hAl2, hAn2⟩ := g2.own A _ hAl hAn
      refine ⟨n, Hs', wipeE ρ vs, d, _, _, s2, (r.ext (he.trans g2.ext)).wipe vs, hv, h, fun ρ3 σ3 r3 z3 h3 => ⟨?_, ?_⟩⟩
      · rw [z3 vs his]
        have : ∀ (τ : St) (us : List Nat), wipe (wipe τ us) us = wipe τ us := fun τ us => by
          have aux : ∀ (us' : List Nat), (∀ i ∈ us', i ∈ us) → wipe (wipe τ us') us = wipe τ us := by
            intro us'
            induction us' with
            | nil => intro _; rfl
            | cons u us'' ih =>
              intro hh
              show wipe ((wipe τ us'').set u none) us = _
              rw [wipe_set (hh u List.mem_cons_self)]
              exact ih fun i hi => hh i (List.mem_cons_of_mem _ hi)
          exact aux us fun _ z => z
        exact this σ vs
      · refine ⟨n, Hs', ρ3, _, _, s2, r3, h3, fun b H3 Hs3 n3 g3 s3 h4 => ?_, fun _ _ _ _ _ _ _ _ _ z => z⟩
        obtain ⟨hAl3, hAn3⟩ := g3.own A _ hAl2 hAn2
        have ownN : ∀ {H4 Hs4 : Hp}, Go Hs3 H3 Hs4 H4 → ∀ a o, H1 a = some o → Hs1 a = none → H4 a = some o ∧ Hs4 a = none := fun {H4 Hs4} g4 a o e1 e2 => by
          obtain ⟨f1, f2⟩ := own a o e1 e2
          exact (g2.trans (g3.trans g4)).own a o f1 f2
        cases b with
        | true =>
          rw [if_pos rfl]
          refine ⟨n3, Hs3, ρ3, _, _, s3, r3.ext g3.ext, h4, fun y H4 Hs4 e n4 g4 s4 hy4 h5 => ?_, fun _ _ _ _ _ _ _ _ _ z => z⟩
          obtain ⟨hAl4, hAn4⟩ := g4.own A _ hAl3 hAn3
          refine ⟨acc, hAl4, Nat.lt_of_le_of_lt (Nat.le_trans hal (Nat.le_of_lt (Nat.lt_of_lt_of_le hlt hl))) (by rw [sizeLine_eq]; decide), ?_⟩
          rw [hP]
          have E4 := g2.ext.trans (g3.ext.trans g4.ext)
          refine ⟨Hs4, n4, acc ++ [y], ad ++ [e], hlt, by rw [List.length_append]; exact Nat.succ_le_succ hal, he.trans E4, put s4 hAn4, fun a o e1 e2 => ?_, upd_same, hAn4, (g1.ext E4).append (.cons hy4 .nil), ?_⟩
          · obtain ⟨f1, f2⟩ := ownN g4 a o e1 e2
            rw [upd_ne (ne_of_none e1 hA)]; exact ⟨f1, f2⟩
          · have e5 : (fun (ys : List D) (n : S) => q (.lst (ad ++ [e] ++ ys)) n) = fun ys n => q (.lst (ad ++ e :: ys)) n := by funext ys n; rw [List.append_assoc]; rfl
            rw [e5]; exact h5
        | false =>
          rw [if_neg Bool.false_ne_true, hP]
          have E3 := g2.ext.trans g3.ext
          exact ⟨Hs3, n3, acc, ad, hlt, Nat.le_succ_of_le hal, he.trans E3, s3, ownN (.refl _ _), hAl3, hAn3, g1.ext E3, h4⟩
    · have e : i = ds.length := by omega
      subst e
      rw [List.drop_length] at h
      refine .inl ⟨wd.stop n Hs H he s, ?_⟩
      have hs : Ext Hs (upd Hs A (.lst acc)) := Ext.of_same fun b u z => by
        rw [upd_ne (ne_of_none z hAn)]; exact z
      have sA : Sit K n (upd Hs A (.lst acc)) H := by
        have z := (s.put (o := .lst acc) hAn rfl rfl).1
        rwa [upd_id hAl] at z
      refine k _ H (upd Hs A (.lst acc)) (.lst ad) n ⟨he.trans hs, fun a o e1 e2 => ?_⟩ sA (.lst upd_same (g1.ext hs)) ?_
      · obtain ⟨f1, f2⟩ := own a o e1 e2
        rw [upd_ne (ne_of_none e1 hA)]; exact ⟨f1, f2⟩
      · have h' : q (.lst (ad ++ [])) n := h
        rw [List.append_nil] at h'; exact h'
theorem d_lc {elt it : Expr} {ifs : List Expr} {scope : Scope} {own : List (Str × Nat)} {ti : Ev → Wp (List D)} {g : D → Ev → Wp Ev} {tt : Ev → Wp Bool} {te : Ev → Wp D} {is : List Nat} (hN : X.N.Nodup) (ok : BlkOk X.N X.env.scope scope own) (hi : DI Γ X W tg it ti)
    (hg : ∀ (s : Shared) (H : Hp) (C : Addr) (cl : List (Str × Addr)) (fp : List Addr), DG (X.blk s H scope (compEnvC scope cl C X.env) fp) tg is g)
    (ht : ∀ (s : Shared) (H : Hp) (C : Addr) (cl : List (Str × Addr)) (fp : List Addr), DTs Γ (X.blk s H scope (compEnvC scope cl C X.env) fp) W0 ifs tt)
    (he : ∀ (s : Shared) (H : Hp) (C : Addr) (cl : List (Str × Addr)) (fp : List Addr), DE Γ (X.blk s H scope (compEnvC scope cl C X.env) fp) W0 elt te)
    (his : ∀ i ∈ is, i ∈ own.map (·.2) := by decide) (hc : X.calm = true := by rfl) (hs : ∀ x, foldedSetIterable it X.env x = pure x := by intro _; rfl) :
    DE Γ X W (.ListComp elt [⟨tg, it, ifs, 0⟩] scope pos) (tlc ti g tt te (own.map (·.2))) := by
  obtain ⟨wi, pi, fi⟩ := hi
  refine ⟨_, pe_lc (g := tgD X.K is g) (tt := ttD Γ X.K W0 tt) (te := teD Γ X.K W0 te) hc hN pi ok (fun s H C cl fp => (hg s H C cl fp).pg) (fun s H C cl fp => ht s H C cl fp) (fun s H C cl fp => (he s H C cl fp).pe) hs, fun σ H Hs ρ n q x Q s r h k ke => fi σ H Hs ρ n _ x _ s r h (fun J H1 Hs1 ds n1 g1 s1 wd h1 => ?_) ke⟩
  intro A hA
  exact lc_read his s1 wd (r.ext g1.ext) h1.1 h1.2 (k.go g1) A hA
/-- y = [..] -/
theorem ds_setLc (i : Nat) {y : Str} {py spos : Pos} {elt it : Expr} {ifs : List Expr} {scope : Scope} {own : List (Str × Nat)} {ti : Ev → Wp (List D)} {g : D → Ev → Wp Ev} {tt : Ev → Wp Bool} {te : Ev → Wp D} {is : List Nat} (hN : X.N.Nodup) (ok : BlkOk X.N X.env.scope scope own) (hi : DI Γ X W tg it ti)
    (hg : ∀ (s : Shared) (H : Hp) (C : Addr) (cl : List (Str × Addr)) (fp : List Addr), DG (X.blk s H scope (compEnvC scope cl C X.env) fp) tg is g)
    (ht : ∀ (s : Shared) (H : Hp) (C : Addr) (cl : List (Str × Addr)) (fp : List Addr), DTs Γ (X.blk s H scope (compEnvC scope cl C X.env) fp) W0 ifs tt)
    (he : ∀ (s : Shared) (H : Hp) (C : Addr) (cl : List (Str × Addr)) (fp : List Addr), DE Γ (X.blk s H scope (compEnvC scope cl C X.env) fp) W0 elt te)
    (hsw : swapsWith (.ListComp elt [⟨tg, it, ifs, 0⟩] scope pos) (some (.Name y py)) spos.line X.env = pure true) (hy : X.N[i]? = some y := by rfl) (hyl : X.env.scope.names.lookup y = some .local := by rfl)
    (his : ∀ i ∈ is, i ∈ own.map (·.2) := by decide) (hc : X.calm = true := by rfl) (hs : ∀ x, foldedSetIterable it X.env x = pure x := by intro _; rfl) :
    DS Γ X W (.Assign [.Name y py] (.ListComp elt [⟨tg, it, ifs, 0⟩] scope pos) spos) (tset i (tlc ti g tt te (own.map (·.2)))) := by
  obtain ⟨wi, pi, fi⟩ := hi
  refine ⟨_, ps_setLc (g := tgD X.K is g) (tt := ttD Γ X.K W0 tt) (te := teD Γ X.K W0 te) hc hN hy hyl hsw pi ok (fun s H C cl fp => (hg s H C cl fp).pg) (fun s H C cl fp => ht s H C cl fp) (fun s H C cl fp => (he s H C cl fp).pe) hs, fun σ H Hs ρ n q x E s r h k ke => fi σ H Hs ρ n _ x _ s r h (fun J H1 Hs1 ds n1 g1 s1 wd h1 => ?_) (ke σ)⟩
  intro A hA
  exact lc_read (q := fun d n => q (.nx (ρ.set i (some d))) n) his s1 wd (r.ext g1.ext) h1.1 h1.2 (fun v H2 Hs2 d n2 g2 s2 hv h2 => k (.nx _) n2 H2 Hs2 (g1.trans g2) s2 h2 _ ((r.ext (g1.trans g2).ext).set i hv)) A hA
end
end OE

/-! ### a dict and a tuple compared -/
namespace PySem.ODif
open PySem PySem.Spec PySem.SeqAt
theorem tuple_eq_declines_dict (l b : Addr) (items : Array Value) (n : Nat) (dt : Data) (dd dd2 : Option Addr) (sl sl2 : Array (Option Value)) :
    Meets (Builtin.«tuple.__eq__» ⟨[.ref l, .ref b], []⟩) (fun _ R s => s.heap.get? l = some { cls := .type "tuple", dict := dd, data := .seq items n, slots := sl } ∧ s.heap.get? b = some { cls := .type "dict", dict := dd2, data := dt, slots := sl2 } ∧ R (.ok (.ret .notImplemented)) s) :=
  .of_wp fun prog w A R s h => by obtain ⟨hp, g, d, tk, os⟩ := s; obtain ⟨hl, hb, h⟩ := h; have f1 := F.sub_dict_tuple; wp_walk using wpAny_loadPart' hl, wpAny_loadPart' hb; exact ⟨_, rfl, h⟩
theorem tuple_ne_declines_dict (l b : Addr) (items : Array Value) (n : Nat) (dt : Data) (dd dd2 : Option Addr) (sl sl2 : Array (Option Value)) :
    Meets (Builtin.«tuple.__ne__» ⟨[.ref l, .ref b], []⟩) (fun _ R s => s.heap.get? l = some { cls := .type "tuple", dict := dd, data := .seq items n, slots := sl } ∧ s.heap.get? b = some { cls := .type "dict", dict := dd2, data := dt, slots := sl2 } ∧ R (.ok (.ret .notImplemented)) s) :=
  .of_wp fun prog w A R s h => by obtain ⟨hp, g, d, tk, os⟩ := s; obtain ⟨hl, hb, h⟩ := h; have f1 := F.sub_dict_tuple; wp_walk using wpAny_loadPart' hl, wpAny_loadPart' hb; exact ⟨_, rfl, h⟩
section
variable {prog : Program} {w : World} {A : Around} {s : Shared} {E Q : Value → Shared → Prop} {a b : Addr} {items : Array Value}
theorem dict_eq_tuple (hdt : s.TypeIs (.ref a) "dict") (hb : s.heap.IsTuple b items) (hu : A.units < cLine) (h : Q (.bool false) s) : wpAny (model prog w) A (richCompare .Eq (.ref a) (.ref b)) Q E s := by
  have hT : s.TypeIs (.ref b) "tuple" := by
    obtain ⟨o2, h1, h2, _⟩ := hb
    exact ⟨_, h1, h2⟩
  obtain ⟨⟨cls2, dd2, data2, sl2⟩, ho2, hc2, n2, hd2⟩ := id hb
  simp only at hc2 hd2
  subst hc2 hd2
  obtain ⟨o, ho, hc⟩ := id hdt
  obtain ⟨cls, dd, dt, sl⟩ := o
  simp only at hc
  subst hc
  have hne : a ≠ b := fun e => by
    subst e
    rw [ho] at ho2
    simp at ho2
  refine rc_eq_decline_or (k := false) hdt hT (by decide) F.sub_tuple_dict F.slot_dict_eq F.slot_tuple_eq_refl (fun Q' hq => ?_) (fun _ hq => call_meets F.slot_tuple_eq_refl hT F.entry_tuple_eq (F.args_tuple_eq_2 _ _) (tuple_eq_declines_dict b a items n2 dt dd2 dd sl2 sl) ⟨ho2, ho, hq⟩)
    (fun _ hq => wpAny_isSame_ref_other hne ho ho2 (by simp) hq) (.inr hu) h
  refine wpAny_call_entry PySem.F.slot_dict_eq hdt PySem.F.entry_dict_eq ?_ (PySem.F.args_dict_eq_2 _ _)
  show wpAny _ _ (Builtin.Dict.dictSlotArgs "__eq__" ⟨[.ref a, .ref b], []⟩ >>= _) _ _ s
  refine wpAny_bind ?_
  unfold Builtin.Dict.dictSlotArgs
  refine wpAny_bind (wpAny_notOrdered_dict hdt ?_)
  show wpAny _ _ (pure (Value.ref a, Value.ref b)) _ _ s
  refine wpAny_pure ?_
  refine wpAny_bind (wpAny_isInstance (T := "tuple") hT PySem.F.sub_tuple_dict ?_)
  simp only [Bool.not_false, if_true]
  refine wpAny_bind (wpAny_rule ?_)
  exact wpAny_pure ⟨_, rfl, hq⟩
theorem dict_ne_tuple (hdt : s.TypeIs (.ref a) "dict") (hb : s.heap.IsTuple b items) (hu : A.units < cLine) (h : Q (.bool true) s) : wpAny (model prog w) A (richCompare .NotEq (.ref a) (.ref b)) Q E s := by
  have hT : s.TypeIs (.ref b) "tuple" := by
    obtain ⟨o2, h1, h2, _⟩ := hb
    exact ⟨_, h1, h2⟩
  obtain ⟨⟨cls2, dd2, data2, sl2⟩, ho2, hc2, n2, hd2⟩ := id hb
  simp only at hc2 hd2
  subst hc2 hd2
  obtain ⟨o, ho, hc⟩ := id hdt
  obtain ⟨cls, dd, dt, sl⟩ := o
  simp only at hc
  subst hc
  have hne : a ≠ b := fun e => by
    subst e
    rw [ho] at ho2
    simp at ho2
  refine rc_ne_decline_or (k := false) hdt hT (by decide) F.sub_tuple_dict F.slot_dict_ne F.slot_tuple_ne_refl (fun Q' hq => ?_) (fun _ hq => call_meets F.slot_tuple_ne_refl hT F.entry_tuple_ne (F.args_tuple_ne_2 _ _) (tuple_ne_declines_dict b a items n2 dt dd2 dd sl2 sl) ⟨ho2, ho, hq⟩)
    (fun _ hq => wpAny_isSame_ref_other hne ho ho2 (by simp) hq) (.inr hu) h
  refine wpAny_call_entry PySem.F.slot_dict_ne hdt PySem.F.entry_dict_ne ?_ (PySem.F.args_dict_ne_2 _ _)
  show wpAny _ _ (Builtin.Dict.dictSlotArgs "__ne__" ⟨[.ref a, .ref b], []⟩ >>= _) _ _ s
  refine wpAny_bind ?_
  unfold Builtin.Dict.dictSlotArgs
  refine wpAny_bind (wpAny_notOrdered_dict hdt ?_)
  show wpAny _ _ (pure (Value.ref a, Value.ref b)) _ _ s
  refine wpAny_pure ?_
  refine wpAny_bind (wpAny_isInstance (T := "tuple") hT PySem.F.sub_tuple_dict ?_)
  simp only [Bool.not_false, if_true]
  refine wpAny_bind (wpAny_rule ?_)
  exact wpAny_pure ⟨_, rfl, hq⟩
end
end PySem.ODif
/-! ### data that stands in a heap, its dicts not the modules' -/
namespace PySem
namespace ORepr
mutual
inductive RS (h : Heap) : Value → PyData → Prop
  | none : RS h .none .none
  | bool (b : Bool) : RS h (.bool b) (.bool b)
  | int (i : Int) (t : Tok) : RS h (.int i t) (.int i)
  | str (x : Str) (t : Tok) : RS h (.str x t) (.str x)
  | list {a : Addr} {o : Obj} {vs : Array Value} {n : Nat} {xs : List PyData} (h1 : h.get? a = some o) (h2 : o.cls = .type "list") (h3 : o.data = .seq vs n) (h4 : RSAll h vs.toList xs) : RS h (.ref a) (.list xs)
  | tuple {a : Addr} {o : Obj} {vs : Array Value} {n : Nat} {xs : List PyData} (h1 : h.get? a = some o) (h2 : o.cls = .type "tuple") (h3 : o.data = .seq vs n) (h4 : RSAll h vs.toList xs) : RS h (.ref a) (.tuple xs)
  | dict {a : Addr} {o : Obj} {es : Array DictEntry} {n : Nat} {kvs : List (PyData × PyData)} (h1 : h.get? a = some o) (h2 : o.cls = .type "dict") (h3 : o.data = .dict es n) (hs : (a == sysModules) = false)
      (h4 : RSAll h (es.toList.map (·.key)) (kvs.map (·.1))) (h5 : RSAll h (es.toList.map (·.val)) (kvs.map (·.2))) : RS h (.ref a) (.dict kvs)
inductive RSAll (h : Heap) : List Value → List PyData → Prop
  | nil : RSAll h [] []
  | cons {v : Value} {vs : List Value} {d : PyData} {ds : List PyData} (r : RS h v d) (rs : RSAll h vs ds) : RSAll h (v :: vs) (d :: ds)
end
mutual
theorem RS.reads {h : Heap} : ∀ {v : Value} {d : PyData}, RS h v d → ∃ as, Reads h v d as
  | _, _, .none => ⟨_, .none⟩
  | _, _, .bool b => ⟨_, .bool b⟩
  | _, _, .int i t => ⟨_, .int i t⟩
  | _, _, .str x t => ⟨_, .str x t⟩
  | _, _, .list h1 h2 h3 h4 => let ⟨_, r⟩ := RSAll.reads h4; ⟨_, .list h1 h2 h3 r⟩
  | _, _, .tuple h1 h2 h3 h4 => let ⟨_, r⟩ := RSAll.reads h4; ⟨_, .tuple h1 h2 h3 r⟩
  | _, _, .dict h1 h2 h3 _ h4 h5 => let ⟨_, r⟩ := RSAll.reads h4; let ⟨_, r'⟩ := RSAll.reads h5; ⟨_, .dict h1 h2 h3 r r'⟩
theorem RSAll.reads {h : Heap} : ∀ {v : List Value} {d : List PyData}, RSAll h v d → ∃ as, ReadsAll h v d as
  | _, _, .nil => ⟨_, .nil⟩
  | _, _, .cons r rs => let ⟨_, a⟩ := RS.reads r; let ⟨_, b⟩ := RSAll.reads rs; ⟨_, .cons a b⟩
end
section
variable {prog : Program} {w : World} {h : Heap}
theorem nomem (d : Nat) : ReadAtMost h d [] := fun _ z => nomatch z
mutual
theorem RS.rk : ∀ {v : Value} {d : PyData}, RS h v d → d.showable = true → d.shown.length ≤ sizeLine → ∃ bs, ReadAtMost h d.depth bs ∧ ReprK prog w bs h d.depth v d.shown
  | _, _, .none, _, _ => ⟨[], nomem _, by rw [PyData.shown]; exact .of_is ReprIs.none _ _ _⟩
  | _, _, .bool b, _, _ => ⟨[], nomem _, by rw [PyData.shown]; exact .of_is (ReprIs.bool b) _ _ _⟩
  | _, _, .int i t, s, _ => ⟨[], nomem _, by rw [PyData.shown]; exact .of_is (ReprIs.int t (by simpa [PyData.showable] using s)) _ _ _⟩
  | _, _, .str x t, _, z => ⟨[], nomem _, by rw [PyData.shown] at z ⊢; exact .of_is (ReprIs.str x t z) _ _ _⟩
  | _, _, .list (a := a) (vs := vs) (xs := xs) h1 h2 h3 h4, s, z => by
    rw [PyData.shown] at z
    obtain ⟨bs, hb, hk⟩ := RSAll.rk h4 (by simpa [PyData.showable] using s) fun t ht => Nat.le_trans (listText_mem_le ht) z
    obtain ⟨as, r⟩ := RS.reads (RS.list h1 h2 h3 h4)
    have up : PyData.depthAll xs < (PyData.list xs).depth := by simp only [PyData.depth]; omega
    have ne : a ∉ bs := not_mem_of_deeper r up hb
    refine ⟨a :: bs, ReadAtMost.cons r (Nat.le_of_lt up) hb, ?_⟩
    simp only [PyData.depth, PyData.shown]
    obtain ⟨l⟩ := vs
    cases l with
    | nil =>
      cases (show RSAll h [] xs from h4)
      rw [PyData.shownAll, listText_nil]
      exact ReprK.listEmpty h1 h2 h3
    | cons x l => exact ReprK.list h1 h2 h3 ne (by simpa using hk.length_eq) fun i y e => hk.item i y (by simpa using e)
  | _, _, .tuple (a := a) (xs := xs) h1 h2 h3 h4, s, z => by
    rw [PyData.shown] at z
    obtain ⟨bs, hb, hk⟩ := RSAll.rk h4 (by simpa [PyData.showable] using s) fun t ht => Nat.le_trans (tupleText_mem_le ht) z
    obtain ⟨as, r⟩ := RS.reads (RS.tuple h1 h2 h3 h4)
    have up : PyData.depthAll xs < (PyData.tuple xs).depth := by simp only [PyData.depth]; omega
    refine ⟨a :: bs, ReadAtMost.cons r (Nat.le_of_lt up) hb, ?_⟩
    simp only [PyData.depth, PyData.shown]
    exact ReprK.tuple h1 h2 h3 (not_mem_of_deeper r up hb) hk
  | _, _, .dict (a := a) (es := es) (kvs := kvs) h1 h2 h3 hs h4 h5, s, z => by
    rw [PyData.shown] at z
    obtain ⟨z1, z2⟩ := PyData.showableKv_split kvs (by simpa [PyData.showable] using s)
    obtain ⟨b1, m1, k1⟩ := RSAll.rk h4 z1 fun t ht => let ⟨p, hp, hl⟩ := PyData.shownKv_key_le kvs t ht; Nat.le_trans hl (Nat.le_trans (dictText_mem_le hp) z)
    obtain ⟨b2, m2, k2⟩ := RSAll.rk h5 z2 fun t ht => let ⟨p, hp, hl⟩ := PyData.shownKv_val_le kvs t ht; Nat.le_trans hl (Nat.le_trans (dictText_mem_le hp) z)
    obtain ⟨as, r⟩ := RS.reads (RS.dict h1 h2 h3 hs h4 h5)
    have hb : ReadAtMost h (PyData.depthKv kvs) (b1 ++ b2) := (m1.mono (PyData.depthAll_keys_le kvs)).append (m2.mono (PyData.depthAll_vals_le kvs))
    have up : PyData.depthKv kvs < (PyData.dict kvs).depth := by simp only [PyData.depth]; omega
    refine ⟨a :: (b1 ++ b2), ReadAtMost.cons r (Nat.le_of_lt up) hb, ?_⟩
    simp only [PyData.depth, PyData.shown, PyData.shownKv_eq]
    exact ReprK.dict h1 h2 h3 hs (not_mem_of_deeper r up hb) (ReprEntriesK.of_two es.toList _ _ (k1.more_le (fun b q => List.mem_append_left _ q) (PyData.depthAll_keys_le kvs)) (k2.more_le (fun b q => List.mem_append_right _ q) (PyData.depthAll_vals_le kvs)))
theorem RSAll.rk : ∀ {vs : List Value} {ds : List PyData}, RSAll h vs ds → PyData.showableAll ds = true → (∀ t ∈ PyData.shownAll ds, t.length ≤ sizeLine) → ∃ bs, ReadAtMost h (PyData.depthAll ds) bs ∧ ReprAllK prog w bs h (PyData.depthAll ds) vs (PyData.shownAll ds)
  | _, _, .nil, _, _ => ⟨[], nomem _, by rw [PyData.shownAll]; exact .nil⟩
  | _, _, .cons (d := d) (ds := ds) r rs, s, z => by
    have s' : d.showable = true ∧ PyData.showableAll ds = true := by simpa [PyData.showableAll] using s
    simp only [PyData.shownAll] at z
    obtain ⟨b1, m1, k1⟩ := RS.rk r s'.1 (z _ List.mem_cons_self)
    obtain ⟨b2, m2, k2⟩ := RSAll.rk rs s'.2 fun t ht => z t (List.mem_cons_of_mem _ ht)
    simp only [PyData.depthAll, PyData.shownAll]
    refine ⟨b1 ++ b2, (m1.mono (Nat.le_max_left _ _)).append (m2.mono (Nat.le_max_right _ _)), ?_⟩
    exact .cons ((k1.more fun b q => List.mem_append_left _ q).level_le (Nat.le_max_left _ _)) (k2.more_le (fun b q => List.mem_append_right _ q) (Nat.le_max_right _ _))
end
variable {A : Around} {E : Value → Shared → Prop} {s : Shared} {Q : Value → Shared → Prop}
/-- repr(x) -/
theorem repr_of {v : Value} {d : PyData} (r : RS s.heap v d) (hs : d.showable = true) (hz : d.shown.length ≤ sizeLine) (hg : A.guards = some []) (hu : A.units + (d.depth + 1) < cLine) 
    (hQ : ∀ h' u tk, (∀ b o, s.heap.get? b = some o → h'.get? b = some o) → Q (.str d.shown u) { s with heap := h', toks := tk }) : wpAny (model prog w) A (call (.builtin "repr") [v]) Q E s := by
  have same : ∀ b o, s.heap.get? b = some o → s.heap.get? b = some o := fun _ _ e => e
  cases r with
  | none => exact PySem.P.repr_of_none (by rw [PyData.shown] at hQ; exact hQ _ _ _ same)
  | bool b => exact PySem.P.repr_of_bool (by rw [PyData.shown] at hQ; exact hQ _ _ _ same)
  | int i t => exact PySem.P.repr_of_int (by simpa [PyData.showable] using hs) (by rw [PyData.shown] at hQ; exact hQ _ _ _ same)
  | str x t => exact PySem.P.repr_of_str (by rw [PyData.shown] at hQ; exact hQ _ _ _ same) (by rw [PyData.shown] at hz; exact hz)
  | @list a o vs n xs h1 h2 h3 h4 =>
    simp only [PyData.shown] at hz hQ
    obtain ⟨as, rr⟩ := RS.reads (RS.list h1 h2 h3 h4)
    obtain ⟨bs, hb, hk⟩ := RSAll.rk (prog := prog) (w := w) h4 (by simpa [PyData.showable] using hs) fun t ht => Nat.le_trans (listText_mem_le ht) hz
    have up : PyData.depthAll xs < (PyData.list xs).depth := by simp only [PyData.depth]; omega
    simp only [PyData.depth] at hu
    refine call_repr_slot (by omega) ⟨o, h1, h2⟩ F.slot_list_repr.toG ?_
    obtain ⟨l⟩ := vs
    cases l with
    | nil =>
      cases (show RSAll s.heap [] xs from h4)
      simp only [PyData.shownAll, listText_nil] at hQ
      exact call_list_repr_empty ⟨o, h1, h2⟩ h1 h3 ⟨_, _, rfl, hQ _ _ _ same⟩
    | cons x l => exact call_list_reprK h1 h2 h3 (not_mem_of_deeper rr up hb) (by simpa using hk.length_eq) (fun i y e => hk.item i y (by simpa using e)) hg (fun b _ => Clear.nil b) (by show A.units + 1 + _ < _; omega) same (fun h' u tk q => ⟨_, _, rfl, hQ h' u tk q⟩) hz
  | @tuple a o vs n xs h1 h2 h3 h4 =>
    simp only [PyData.shown] at hz hQ
    obtain ⟨as, rr⟩ := RS.reads (RS.tuple h1 h2 h3 h4)
    obtain ⟨bs, hb, hk⟩ := RSAll.rk (prog := prog) (w := w) h4 (by simpa [PyData.showable] using hs) fun t ht => Nat.le_trans (tupleText_mem_le ht) hz
    have up : PyData.depthAll xs < (PyData.tuple xs).depth := by simp only [PyData.depth]; omega
    simp only [PyData.depth] at hu
    exact call_repr_slot (by omega) ⟨o, h1, h2⟩ F.slot_tuple_repr (call_tuple_reprK h1 h2 h3 (not_mem_of_deeper rr up hb) hk hg (fun b _ => Clear.nil b) (by show A.units + 1 + _ < _; omega) same (fun h' u tk q => ⟨_, _, rfl, hQ h' u tk q⟩) hz)
  | @dict a o es n kvs h1 h2 h3 hm h4 h5 =>
    simp only [PyData.shown] at hz
    obtain ⟨z1, z2⟩ := PyData.showableKv_split kvs (by simpa [PyData.showable] using hs)
    obtain ⟨b1, m1, k1⟩ := RSAll.rk (prog := prog) (w := w) h4 z1 fun t ht => let ⟨p, hp, hl⟩ := PyData.shownKv_key_le kvs t ht; Nat.le_trans hl (Nat.le_trans (dictText_mem_le hp) hz)
    obtain ⟨b2, m2, k2⟩ := RSAll.rk (prog := prog) (w := w) h5 z2 fun t ht => let ⟨p, hp, hl⟩ := PyData.shownKv_val_le kvs t ht; Nat.le_trans hl (Nat.le_trans (dictText_mem_le hp) hz)
    obtain ⟨as, rr⟩ := RS.reads (RS.dict h1 h2 h3 hm h4 h5)
    have hb : ReadAtMost s.heap (PyData.depthKv kvs) (b1 ++ b2) := (m1.mono (PyData.depthAll_keys_le kvs)).append (m2.mono (PyData.depthAll_vals_le kvs))
    have up : PyData.depthKv kvs < (PyData.dict kvs).depth := by simp only [PyData.depth]; omega
    simp only [PyData.depth] at hu
    simp only [PyData.shown, PyData.shownKv_eq] at hQ
    exact call_repr_slot (by omega) ⟨o, h1, h2⟩ F.slot_dict_repr (call_dict_reprK h1 h2 h3 hm (not_mem_of_deeper rr up hb) (ReprEntriesK.of_two es.toList _ _ (k1.more_le (fun b q => List.mem_append_left _ q) (PyData.depthAll_keys_le kvs)) (k2.more_le (fun b q => List.mem_append_right _ q) (PyData.depthAll_vals_le kvs)))
      hg (fun b _ => Clear.nil b) (by show A.units + 1 + _ < _; omega) same (fun h' u tk q => ⟨_, _, rfl, hQ h' u tk q⟩) (by rw [← PyData.shownKv_eq]; exact hz))
end
end ORepr
end PySem
namespace OE
open PySem PySem.Spec L2
variable [TN]
mutual
def D.py : D → PyData
  | .non => .none
  | .bl b => .bool b
  | .int i => .int i
  | .str x => .str x
  | .lst l => .list (D.pyAll l)
  | .scr l => .list (l.map PyData.int)
  | .tup l => .tuple (D.pyAll l)
  | .dic l => .dict (D.pyKv l)
  | .m => .none
  | .exn _ _ _ => .none
  | .clo _ _ => .none
  | .mref _ => .none
  | .obj _ _ => .none
def D.pyAll : List D → List PyData
  | [] => []
  | d :: ds => d.py :: D.pyAll ds
def D.pyKv : List (D × D) → List (PyData × PyData)
  | [] => []
  | (k, d) :: ds => (k.py, d.py) :: D.pyKv ds
end
def kPlain : D → Bool
  | .tup _ => false
  | _ => true
mutual
def D.plain : D → Bool
  | .m => false
  | .exn _ _ _ => false
  | .clo _ _ => false
  | .mref _ => false
  | .obj _ _ => false
  | .lst l => D.plainAll l
  | .tup l => D.plainAll l
  | .dic l => D.plainKv l
  | _ => true
def D.plainAll : List D → Bool
  | [] => true
  | d :: ds => d.plain && D.plainAll ds
def D.plainKv : List (D × D) → Bool
  | [] => true
  | (k, d) :: ds => kPlain k && (d.plain && D.plainKv ds)
end
section
variable {X : Cx} {pins : List (Addr × Obj)} {σ : St} {H Hs : Hp} {s : Shared}
theorem rs_ints {h : Heap} : ∀ {ns : List Int} {us : List Value}, Vals (ns.map V.int) us → ORepr.RSAll h us (ns.map PyData.int)
  | [], _, .nil => .nil
  | n :: ns, _, .cons r rr => by
    obtain ⟨t, rfl⟩ := r
    exact .cons (.int n t) (rs_ints rr)
theorem pairs_keys {P : Program} {w : World} : ∀ {es : List DictEntry} {kvs : List (Key × Value)}, Pairs (mixKind P w) es kvs → ∀ h : Heap, ORepr.RSAll h (es.map (·.key)) (kvs.map fun p => (kD p.1).py)
  | _, _, .nil, h => .nil
  | _, _, .cons k _ r, h => by
    rcases keyIs_shape k with ⟨i, t, e1, e2⟩ | ⟨x, t, e1, e2⟩
    · rw [List.map_cons, List.map_cons, e1, e2]
      exact .cons (by unfold kD; rw [D.py]; exact .int i t) (pairs_keys r h)
    · rw [List.map_cons, List.map_cons, e1, e2]
      exact .cons (by unfold kD; rw [D.py]; exact .str x t) (pairs_keys r h)
theorem pairs_vals {P : Program} {w : World} : ∀ {es : List DictEntry} {kvs : List (Key × Value)}, Pairs (mixKind P w) es kvs → es.map (·.val) = kvs.map (·.2)
  | _, _, .nil => rfl
  | _, _, .cons _ e r => by rw [List.map_cons, List.map_cons, e, pairs_vals r]
mutual
theorem Dv.rs (I : Inv X pins σ H s) (sub : SameK Hs H) : ∀ {d : D} {v : V} {u : Value}, Dv X.K Hs v d → RelV v u → d.plain = true → ORepr.RS s.heap u d.py
  | .non, _, _, .non, r, _ => by cases r; rw [D.py]; exact .none
  | .bl b, _, _, .bl _, r, _ => by cases r; rw [D.py]; exact .bool b
  | .int i, _, _, .int _, r, _ => by obtain ⟨t, rfl⟩ := r; rw [D.py]; exact .int i t
  | .str x, _, _, .str _, r, _ => by obtain ⟨t, rfl⟩ := r; rw [D.py]; exact .str x t
  | .lst l, _, _, .lst h g, r, p => by
    cases r
    obtain ⟨its, rv, ⟨o, n, ho, hc, _, hd⟩, _⟩ := I.list (SqL.of (sub _ _ h rfl))
    rw [D.py]
    exact .list ho hc hd (DvAll.rs I sub g rv (by simpa [D.plain] using p))
  | .scr l, _, _, .scr h, r, p => by
    cases r
    obtain ⟨its, rv, ⟨o, n, ho, hc, _, hd⟩, _⟩ := I.list ((SameK.ext sub).lst h)
    rw [D.py]
    exact .list ho hc hd (rs_ints rv)
  | .tup l, _, _, .tup h g, r, p => by
    cases r
    obtain ⟨its, rv, ⟨o, ho, hc, n, hd⟩, _⟩ := I.tuple ((SameK.ext sub).tup h)
    rw [D.py]
    exact .tuple ho hc hd (DvAll.rs I sub g rv (by simpa [D.plain] using p))
  | .dic l, _, _, .dic h z g, r, p => by
    cases r
    obtain ⟨_, hm, vs, rv, o, es, ep, ho, hx, hd, _, hp, _⟩ := I.hok _ _ (sub _ _ h rfl)
    rw [D.py]
    obtain ⟨k1, k2⟩ := DvKv.rs I sub g rv (by simpa [D.plain] using p)
    refine .dict ho hx.1 hd hm ?_ ?_
    · rw [← k1]; exact pairs_keys hp _
    · rw [pairs_vals hp]; exact k2
  | .dic l, _, _, .dit h g, r, p => by
    cases r
    cases g with
    | nil =>
      obtain ⟨_, hm, xs, rv, o, es, ep, ho, hx, hd, he, _⟩ := I.hok _ _ (sub _ _ h rfl)
      cases rv
      rw [D.py, D.pyKv]
      have he' : es.toList = [] := he
      refine .dict ho hx.1 hd hm ?_ ?_
      · rw [he']; exact .nil
      · rw [he']; exact .nil
    | cons h' g' => simp [D.plain, D.plainKv, kPlain] at p
  | .mref _, _, _, _, _, p => by simp [D.plain] at p
  | .obj _ _, _, _, _, _, p => by simp [D.plain] at p
  | .m, _, _, _, _, p => by simp [D.plain] at p
  | .exn _ _ _, _, _, _, _, p => by simp [D.plain] at p
  | .clo _ _, _, _, _, _, p => by simp [D.plain] at p
theorem DvAll.rs (I : Inv X pins σ H s) (sub : SameK Hs H) : ∀ {d : List D} {v : List V} {u : List Value}, DvAll X.K Hs v d → Vals v u → D.plainAll d = true → ORepr.RSAll s.heap u (D.pyAll d)
  | [], _, _, .nil, r, _ => by cases r; rw [D.pyAll]; exact .nil
  | d :: ds, _, _, .cons h g, r, p => by
    cases r with
    | cons r rr =>
      have p' : d.plain = true ∧ D.plainAll ds = true := by simpa [D.plainAll] using p
      rw [D.pyAll]
      exact .cons (Dv.rs I sub h r p'.1) (DvAll.rs I sub g rr p'.2)
theorem DvKv.rs (I : Inv X pins σ H s) (sub : SameK Hs H) : ∀ {d : List (D × D)} {v : List (Key × V)} {u : List (Key × Value)}, DvKv X.K Hs v d → KV v u → D.plainKv d = true → (u.map fun p => (kD p.1).py) = (D.pyKv d).map (·.1) ∧ ORepr.RSAll s.heap (u.map (·.2)) ((D.pyKv d).map (·.2))
  | [], _, _, .nil, r, _ => by
    cases r
    rw [D.pyKv]
    exact ⟨rfl, .nil⟩
  | _ :: ds, _, _, .cons h g, r, p => by
    cases r with
    | @cons a b _ _ r rr =>
      have p'' : _ ∧ _ := Bool.and_eq_true_iff.mp (by rw [D.plainKv] at p; exact p)
      have p' : _ ∧ _ := Bool.and_eq_true_iff.mp p''.2
      obtain ⟨k1, k2⟩ := DvKv.rs I sub g rr p'.2
      obtain ⟨e1, e2⟩ := r
      rw [D.pyKv]
      refine ⟨?_, ?_⟩
      · rw [List.map_cons, List.map_cons, k1, ← e1]
      · rw [List.map_cons, List.map_cons]
        exact .cons (Dv.rs I sub h e2 p'.1) k2
end
end
/-! ### repr -/
def D.rpr (d : D) : Str := d.py.shown
def reprOk (d : D) : Prop := d.plain = true ∧ d.py.showable = true ∧ d.py.shown.length ≤ sizeLine ∧ d.py.depth ≤ 60
def fRepr : List D → Wp D
  | [d] => Wp.bind (Wp.ask (reprOk d)) fun _ => Wp.ret (.str d.rpr)
  | _ => Wp.stuck
/-- what is compared at once -/
def quick : D → D → Option Bool
  | .str x, .str y => some (decide (x = y))
  | .int i, .int j => some (decide (i = j))
  | .tup l, .tup [] => some l.isEmpty
  | .lst l, .lst [] => some l.isEmpty
  | .dic _, .tup _ => some false
  | _, _ => none
def fCmp (neg : Bool) : D → D → Wp D := fun a b => match quick a b with
  | some r => Wp.ret (.bl (neg.xor r))
  | none => Wp.bind (Wp.ask (a.plain = true ∧ b.plain = true ∧ SeqAt.shaped a.py = true ∧ SeqAt.shaped b.py = true)) fun _ => Wp.ret (.bl (neg.xor (PyData.eqv a.py b.py)))
abbrev fEq := fCmp false
abbrev fNe := fCmp true
section
variable {Γ : Gam} {X : Cx} {W : WX} {a b c : Expr} {ta tb tc : Ev → Wp D} {pos : Pos}
/-- what the rules over data read, from the shared part -/
def rData (K : PySem.W.Frag) (f : D → Prop) (g : D → V) : List V → Hp → VK → Prop := fun xs H Q => ∃ (x : V) (d : D) (Hs : Hp) (n : S), xs = [x] ∧ Sit K n Hs H ∧ Dv K Hs x d ∧ f d ∧ Q (g d) H
theorem call_reprD (hg : X.A.guards = some []) (hu : X.A.units + 64 < cLine) : CallR X (.builtin "repr") (rData X.K reprOk fun d => .str d.rpr) := by
  intro pins s σ H xs us Q I r h
  obtain ⟨x, d, Hs, n, rfl, st, hv, hd, q⟩ := h
  rcases r with _ | ⟨r, rr⟩
  cases rr
  exact ORepr.repr_of (hv.rs I st.subK r hd.1) hd.2.1 hd.2.2.1 hg (by have := hd.2.2.2; omega) fun h' u tk k => ⟨.str d.rpr, H, I.kept k, ⟨u, rfl⟩, q⟩
theorem cd_repr {K : PySem.W.Frag} : CD K (rData K reprOk fun d => .str d.rpr) fRepr := by
  intro xs ds H Hs n q e Q s hx h k
  rcases hx with _ | ⟨hv, _ | ⟨hw, _⟩⟩
  · exact (show False from h).elim
  · exact ⟨_, _, Hs, n, rfl, s, hv, h.1, k _ H Hs _ n (.refl _ _) s (.str _) h.2⟩
  · exact (show False from h).elim
theorem d_repr {p : Pos} {t : Ev → Wp (List D)} (hgd : X.A.guards = some []) (hu : X.A.units + 64 < cLine) (hm : X.mg "repr" = none) (ha : DA Γ X W [a] t) (hg : Gl X "repr" := by rfl) (he : starEach [a] X.env = (false, eval a X.env) :: starEach [] X.env := by rfl) (hpl : (backTo pos (starEach [] X.env)).any (·.1) = false := by rfl) :
    DE Γ X W (.Call (.Name "repr" p) [a] [] pos) (tcall fRepr t) := d_callB (call_reprD hgd hu) cd_repr hg hm PyProof.Rows.boot_repr ha (by decide) (by decide) he hpl
/-! ### == and != -/
def rCmpD (K : PySem.W.Frag) (f : PyData → PyData → Bool) : R2 := fun x y H Q => ∃ (a b : D) (Hs : Hp) (n : S), Sit K n Hs H ∧ Dv K Hs x a ∧ Dv K Hs y b ∧ (a.plain = true ∧ b.plain = true ∧ SeqAt.shaped a.py = true ∧ SeqAt.shaped b.py = true) ∧ Q (.bl (f a.py b.py)) H
theorem op_eqA (hu : X.A.units + 64 < cLine) : OpR X (compareOp .Eq) (rCmpD X.K PyData.eqv) := by
  intro pins s σ H x y v u Q I rx ry h
  obtain ⟨a, b, Hs, n, st, h1, h2, ⟨p1, p2, s1, s2⟩, q⟩ := h
  obtain ⟨as, r1⟩ := (h1.rs I st.subK rx p1).reads
  obtain ⟨bs, r2⟩ := (h2.rs I st.subK ry p2).reads
  exact SeqAt.compareEq_shaped r1 r2 s1 s2 hu ⟨.bl _, H, I, rfl, q⟩
theorem op_neA (hu : X.A.units + 64 < cLine) : OpR X (compareOp .NotEq) (rCmpD X.K fun a b => !PyData.eqv a b) := by
  intro pins s σ H x y v u Q I rx ry h
  obtain ⟨a, b, Hs, n, st, h1, h2, ⟨p1, p2, s1, s2⟩, q⟩ := h
  obtain ⟨as, r1⟩ := (h1.rs I st.subK rx p1).reads
  obtain ⟨bs, r2⟩ := (h2.rs I st.subK ry p2).reads
  exact SeqAt.compareNe_shaped r1 r2 s1 s2 hu ⟨.bl _, H, I, rfl, q⟩
/-- a sequence and an empty one -/
def rEmp (K : PySem.W.Frag) (neg : Bool) : R2 := fun x y H Q => ∃ a b xs, x = .ref a ∧ y = .ref b ∧ ((SqT K H a xs ∧ SqT K H b []) ∨ (SqL K H a xs ∧ SqL K H b [])) ∧ Q (.bl (neg.xor xs.isEmpty)) H
theorem isE_len {α : Type} (l : List α) : l.isEmpty = (l.length == 0) := by cases l <;> rfl
theorem op_eqE (hu : X.A.units + 64 < cLine) : OpR X (compareOp .Eq) (rEmp X.K false) := by
  intro pins s σ H x y v u Q I rx ry h
  obtain ⟨a, b, xs, rfl, rfl, h, q⟩ := h
  obtain rfl : v = Value.ref a := rx
  obtain rfl : u = Value.ref b := ry
  have hu' : X.A.units < cLine := by omega
  rcases h with ⟨h1, h2⟩ | ⟨h1, h2⟩
  · obtain ⟨its, rv, ⟨o, ho, hc, n, hd⟩, _⟩ := I.tuple h1
    obtain ⟨its2, rv2, ⟨o2, ho2, hc2, n2, hd2⟩, _⟩ := I.tuple h2
    cases rv2
    refine SeqAt.RcAt.tuples (e := fun _ => true) ⟨o, ho, hc, n, hd⟩ ⟨o2, ho2, hc2, n2, hd2⟩ hu' (fun j _ j2 => absurd j2 (by simp)) _ _ _ _ (fin_bl I q ?_)
    rw [isE_len, rv.length]; simp
  · obtain ⟨its, rv, ⟨o, n, ho, hc, dd, hd⟩, _⟩ := I.list h1
    obtain ⟨its2, rv2, ⟨o2, n2, ho2, hc2, dd2, hd2⟩, _⟩ := I.list h2
    cases rv2
    by_cases hz : its.toArray.size = 0
    · refine SeqAt.RcAt.lists (e := fun _ => true) ⟨o, ho, hc, n, hd⟩ ⟨o2, ho2, hc2, n2, hd2⟩ (by rw [hz]; rfl) hu' (fun j _ j2 => absurd j2 (by simp)) _ _ _ _ (fin_bl I q ?_)
      rw [isE_len, rv.length]; simp at hz; simp [hz]
    · refine SeqAt.RcAt.lists_lengths ⟨o, ho, hc, n, hd⟩ ⟨o2, ho2, hc2, n2, hd2⟩ (by simpa using hz) hu' _ _ _ _ (fin_bl I q ?_)
      rw [isE_len, rv.length]; simp at hz; simp [hz]
theorem op_neE (hu : X.A.units + 64 < cLine) : OpR X (compareOp .NotEq) (rEmp X.K true) := by
  intro pins s σ H x y v u Q I rx ry h
  obtain ⟨a, b, xs, rfl, rfl, h, q⟩ := h
  obtain rfl : v = Value.ref a := rx
  obtain rfl : u = Value.ref b := ry
  have hu' : X.A.units < cLine := by omega
  rcases h with ⟨h1, h2⟩ | ⟨h1, h2⟩
  · obtain ⟨its, rv, ⟨o, ho, hc, n, hd⟩, _⟩ := I.tuple h1
    obtain ⟨its2, rv2, ⟨o2, ho2, hc2, n2, hd2⟩, _⟩ := I.tuple h2
    cases rv2
    refine SeqAt.RcNeAt.tuples (e := fun _ => true) ⟨o, ho, hc, n, hd⟩ ⟨o2, ho2, hc2, n2, hd2⟩ hu' (fun j _ j2 => absurd j2 (by simp)) _ _ _ _ (fin_bl I q ?_)
    rw [isE_len, rv.length]; simp
  · obtain ⟨its, rv, ⟨o, n, ho, hc, dd, hd⟩, _⟩ := I.list h1
    obtain ⟨its2, rv2, ⟨o2, n2, ho2, hc2, dd2, hd2⟩, _⟩ := I.list h2
    cases rv2
    by_cases hz : its.toArray.size = 0
    · refine SeqAt.RcNeAt.lists (e := fun _ => true) ⟨o, ho, hc, n, hd⟩ ⟨o2, ho2, hc2, n2, hd2⟩ (by rw [hz]; rfl) hu' (fun j _ j2 => absurd j2 (by simp)) _ _ _ _ (fin_bl I q ?_)
      rw [isE_len, rv.length]; simp at hz; simp [hz]
    · refine SeqAt.RcNeAt.lists_lengths ⟨o, ho, hc, n, hd⟩ ⟨o2, ho2, hc2, n2, hd2⟩ (by simpa using hz) hu' _ _ _ _ (fin_bl I q ?_)
      rw [isE_len, rv.length]; simp at hz; simp [hz]
/-- a dict and a tuple -/
def rDif (K : PySem.W.Frag) (neg : Bool) : R2 := fun x y H Q => ∃ a b xs, x = .ref a ∧ y = .ref b ∧ ((∃ kvs, H a = some (.dK kvs)) ∨ ∃ kvs, H a = some (.dT kvs)) ∧ SqT K H b xs ∧ Q (.bl neg) H
theorem op_eqF (hu : X.A.units + 64 < cLine) : OpR X (compareOp .Eq) (rDif X.K false) := by
  intro pins s σ H x y v u Q I rx ry h
  obtain ⟨a, b, xs, rfl, rfl, hd, h2, q⟩ := h
  obtain rfl : v = Value.ref a := rx
  obtain rfl : u = Value.ref b := ry
  obtain ⟨its2, rv2, ⟨o2, ho2, hc2, n2, hd2⟩, _⟩ := I.tuple h2
  rcases hd with ⟨kvs, hd⟩ | ⟨kvs, hd⟩
  · obtain ⟨_, _, vs, _, p⟩ := (show ObjOk X.prog X.w H s.heap a (.dK kvs) from I.hok a _ hd)
    exact ODif.dict_eq_tuple p.typeIs ⟨o2, ho2, hc2, n2, hd2⟩ (by omega) (fin_bl I q rfl)
  · obtain ⟨_, _, vs, _, o, es, ep, ho, hx, _⟩ := (show ObjOk X.prog X.w H s.heap a (.dT kvs) from I.hok a _ hd)
    exact ODif.dict_eq_tuple ⟨o, ho, hx.1⟩ ⟨o2, ho2, hc2, n2, hd2⟩ (by omega) (fin_bl I q rfl)
theorem op_neF (hu : X.A.units + 64 < cLine) : OpR X (compareOp .NotEq) (rDif X.K true) := by
  intro pins s σ H x y v u Q I rx ry h
  obtain ⟨a, b, xs, rfl, rfl, hd, h2, q⟩ := h
  obtain rfl : v = Value.ref a := rx
  obtain rfl : u = Value.ref b := ry
  obtain ⟨its2, rv2, ⟨o2, ho2, hc2, n2, hd2⟩, _⟩ := I.tuple h2
  rcases hd with ⟨kvs, hd⟩ | ⟨kvs, hd⟩
  · obtain ⟨_, _, vs, _, p⟩ := (show ObjOk X.prog X.w H s.heap a (.dK kvs) from I.hok a _ hd)
    exact ODif.dict_ne_tuple p.typeIs ⟨o2, ho2, hc2, n2, hd2⟩ (by omega) (fin_bl I q rfl)
  · obtain ⟨_, _, vs, _, o, es, ep, ho, hx, _⟩ := (show ObjOk X.prog X.w H s.heap a (.dT kvs) from I.hok a _ hd)
    exact ODif.dict_ne_tuple ⟨o, ho, hx.1⟩ ⟨o2, ho2, hc2, n2, hd2⟩ (by omega) (fin_bl I q rfl)
def rEqU (K : PySem.W.Frag) : R2 := fun x y H Q => rEq x y H Q ∨ (rEmp K false x y H Q ∨ rDif K false x y H Q) ∨ rCmpD K PyData.eqv x y H Q
def rNeU (K : PySem.W.Frag) : R2 := fun x y H Q => rNe x y H Q ∨ (rEmp K true x y H Q ∨ rDif K true x y H Q) ∨ rCmpD K (fun a b => !PyData.eqv a b) x y H Q
theorem op_eqU (hu : X.A.units + 64 < cLine) : OpR X (compareOp .Eq) (rEqU X.K) := opR_or op_eq (opR_or (opR_or (op_eqE hu) (op_eqF hu)) (op_eqA hu))
theorem op_neU (hu : X.A.units + 64 < cLine) : OpR X (compareOp .NotEq) (rNeU X.K) := opR_or op_ne (opR_or (opR_or (op_neE hu) (op_neF hu)) (op_neA hu))
theorem nil_len {K : PySem.W.Frag} {H : Hp} {xs : List V} (g : DvAll K H xs []) : xs = [] := by cases g; rfl
theorem isE_of {K : PySem.W.Frag} {H : Hp} {xs : List V} {ds : List D} (g : DvAll K H xs ds) : xs.isEmpty = ds.isEmpty := by rw [isE_len, isE_len, g.length]
theorem quick_of {K : PySem.W.Frag} {neg : Bool} {n : S} {Hs H : Hp} (s : Sit K n Hs H) {x y : V} {a b : D} (hx : Dv K Hs x a) (hy : Dv K Hs y b) {r : Bool} (hr : quick a b = some r) {Q : VK} (q : Q (.bl (neg.xor r)) H) :
    (scal x y = true ∧ Q (.bl (neg.xor (decide (x = y)))) H) ∨ (rEmp K neg x y H Q ∨ rDif K neg x y H Q) := by
  unfold quick at hr
  split at hr
  · rename_i i j
    cases hr; cases hx; cases hy
    refine .inl ⟨rfl, ?_⟩
    have e : decide (V.str i = V.str j) = decide (i = j) := by rw [Bool.eq_iff_iff]; simp
    rw [e]; exact q
  · rename_i i j
    cases hr; cases hx; cases hy
    refine .inl ⟨rfl, ?_⟩
    have e : decide (V.int i = V.int j) = decide (i = j) := by rw [Bool.eq_iff_iff]; simp
    rw [e]; exact q
  · cases hr
    cases hx with
    | @tup p xs ds h1 g1 =>
      cases hy with
      | @tup p2 ys es h2 g2 =>
        have e := nil_len g2
        subst e
        exact .inr (.inl ⟨p, p2, xs, rfl, rfl, .inl ⟨s.same.tup h1, s.same.tup h2⟩, by rw [isE_of g1]; exact q⟩)
  · cases hr
    cases hx with
    | @lst p xs ds h1 g1 =>
      cases hy with
      | @lst p2 ys es h2 g2 =>
        have e := nil_len g2
        subst e
        exact .inr (.inl ⟨p, p2, xs, rfl, rfl, .inr ⟨SqL.of (s.sub _ _ h1), SqL.of (s.sub _ _ h2)⟩, by rw [isE_of g1]; exact q⟩)
  · cases hr
    have q' : Q (.bl neg) H := by simpa using q
    cases hy with
    | @tup p2 ys es h2 g2 =>
      cases hx with
      | @dic p kvs ds h1 z g1 => exact .inr (.inr ⟨p, p2, ys, rfl, rfl, .inl ⟨kvs, s.sub _ _ h1⟩, s.same.tup h2, q'⟩)
      | @dit p kvs ds h1 g1 => exact .inr (.inr ⟨p, p2, ys, rfl, rfl, .inr ⟨kvs, s.sub _ _ h1⟩, s.same.tup h2, q'⟩)
  · cases hr
theorem r2_eq {K : PySem.W.Frag} : R2D K (rEqU K) fEq := fun x y a b H Hs n q e Q s hx hy h k => by
  unfold fEq fCmp at h
  cases hr : quick a b with
  | some r =>
    rw [hr] at h
    rcases quick_of (neg := false) (Q := Q) s hx hy hr (k _ H Hs _ n (.refl _ _) s (.bl _) h) with ⟨z1, z2⟩ | z
    · exact .inl ⟨z1, by simpa using z2⟩
    · exact .inr (.inl z)
  | none =>
    rw [hr] at h
    exact .inr (.inr ⟨a, b, Hs, n, s, hx, hy, h.1, by have z := k _ H Hs _ n (.refl _ _) s (.bl _) h.2; simpa using z⟩)
theorem r2_ne {K : PySem.W.Frag} : R2D K (rNeU K) fNe := fun x y a b H Hs n q e Q s hx hy h k => by
  unfold fNe fCmp at h
  cases hr : quick a b with
  | some r =>
    rw [hr] at h
    rcases quick_of (neg := true) (Q := Q) s hx hy hr (k _ H Hs _ n (.refl _ _) s (.bl _) h) with ⟨z1, z2⟩ | z
    · exact .inl ⟨z1, by simpa using z2⟩
    · exact .inr (.inl z)
  | none =>
    rw [hr] at h
    exact .inr (.inr ⟨a, b, Hs, n, s, hx, hy, h.1, by have z := k _ H Hs _ n (.refl _ _) s (.bl _) h.2; simpa using z⟩)
theorem d_eq (hu : X.A.units + 64 < cLine) (ha : DE Γ X W a ta) (hb : DE Γ X W b tb) : DE Γ X W (.Compare a [.Eq] [b] pos) (tbin fEq ta tb) := d_cmp (op_eqU hu) r2_eq ha hb (nomark _)
theorem d_ne (hu : X.A.units + 64 < cLine) (ha : DE Γ X W a ta) (hb : DE Γ X W b tb) : DE Γ X W (.Compare a [.NotEq] [b] pos) (tbin fNe ta tb) := d_cmp (op_neU hu) r2_ne ha hb (nomark _)
theorem dt_eq (hu : X.A.units + 64 < cLine) (ha : DE Γ X W a ta) (hb : DE Γ X W b tb) : DT Γ X W (.Compare a [.Eq] [b] pos) (ttest (tbin fEq ta tb)) := dt_cmp (op_eqU hu) r2_eq ha hb (nomark _)
theorem dt_ne (hu : X.A.units + 64 < cLine) (ha : DE Γ X W a ta) (hb : DE Γ X W b tb) : DT Γ X W (.Compare a [.NotEq] [b] pos) (ttest (tbin fNe ta tb)) := dt_cmp (op_neU hu) r2_ne ha hb (nomark _)
/-! ### all, any, sum over lists -/
def boolsOf : List D → Option (List Bool)
  | [] => some []
  | .bl b :: ds => (boolsOf ds).map (b :: ·)
  | _ => none
def intsOf : List D → Option (List Int)
  | [] => some []
  | .int b :: ds => (intsOf ds).map (b :: ·)
  | _ => none
theorem DvAll.bools {K : PySem.W.Frag} {H : Hp} : ∀ {vs : List V} {ds : List D} {bs : List Bool}, DvAll K H vs ds → boolsOf ds = some bs → vs = bs.map V.bl
  | _, _, _, .nil, h => by cases h; rfl
  | _, _, _, .cons (ds := ds) hv g, h => by
    cases hv with
    | bl b =>
      cases e : boolsOf ds with
      | none => simp [boolsOf, e] at h
      | some cs =>
        have h' := h
        simp only [boolsOf, e, Option.map_some, Option.some.injEq] at h'
        rw [← h', List.map_cons, DvAll.bools g e]
    | _ => cases h
theorem DvAll.intsV {K : PySem.W.Frag} {H : Hp} : ∀ {vs : List V} {ds : List D} {bs : List Int}, DvAll K H vs ds → intsOf ds = some bs → vs = bs.map V.int
  | _, _, _, .nil, h => by cases h; rfl
  | _, _, _, .cons (ds := ds) hv g, h => by
    cases hv with
    | int b =>
      cases e : intsOf ds with
      | none => simp [intsOf, e] at h
      | some cs =>
        have h' := h
        simp only [intsOf, e, Option.map_some, Option.some.injEq] at h'
        rw [← h', List.map_cons, DvAll.intsV g e]
    | _ => cases h
def fAll : List D → Wp D
  | [.lst l] => fun n q _ => ∃ bs, boolsOf l = some bs ∧ q (.bl (bs.all id)) n
  | _ => Wp.stuck
def fAny : List D → Wp D
  | [.lst l] => fun n q _ => ∃ bs, boolsOf l = some bs ∧ q (.bl (bs.any id)) n
  | _ => Wp.stuck
def fSum : List D → Wp D
  | [.lst l] => fun n q _ => ∃ bs, intsOf l = some bs ∧ q (.int bs.sum) n
  | _ => Wp.stuck
theorem cd_all {K : PySem.W.Frag} : CD K (rAll K) fAll := by
  intro xs ds H Hs n q e Q s hx h k
  rcases hx with _ | ⟨hv, _ | ⟨hw, _⟩⟩
  · exact (show False from h).elim
  · cases hv with
    | @lst p xs ds e1 g =>
      obtain ⟨bs, h1, h2⟩ := h
      exact ⟨p, bs, rfl, by rw [← g.bools h1]; exact SqL.of (s.sub _ _ e1), k _ H Hs _ n (.refl _ _) s (.bl _) h2⟩
    | _ => exact (show False from h).elim
  · cases hv <;> exact (show False from h).elim
theorem cd_any {K : PySem.W.Frag} : CD K (rAny K) fAny := by
  intro xs ds H Hs n q e Q s hx h k
  rcases hx with _ | ⟨hv, _ | ⟨hw, _⟩⟩
  · exact (show False from h).elim
  · cases hv with
    | @lst p xs ds e1 g =>
      obtain ⟨bs, h1, h2⟩ := h
      exact ⟨p, bs, rfl, by rw [← g.bools h1]; exact SqL.of (s.sub _ _ e1), k _ H Hs _ n (.refl _ _) s (.bl _) h2⟩
    | _ => exact (show False from h).elim
  · cases hv <;> exact (show False from h).elim
theorem cd_sum {K : PySem.W.Frag} : CD K (rSum K) fSum := by
  intro xs ds H Hs n q e Q s hx h k
  rcases hx with _ | ⟨hv, _ | ⟨hw, _⟩⟩
  · exact (show False from h).elim
  · cases hv with
    | @lst p xs ds e1 g =>
      obtain ⟨bs, h1, h2⟩ := h
      exact ⟨p, bs, rfl, by rw [← g.intsV h1]; exact SqL.of (s.sub _ _ e1), k _ H Hs _ n (.refl _ _) s (.int _) h2⟩
    | _ => exact (show False from h).elim
  · cases hv <;> exact (show False from h).elim
theorem d_all {p : Pos} {t : Ev → Wp (List D)} (hm : X.mg "all" = none) (ha : DA Γ X W [a] t) (hc : X.calm = true := by rfl) (hg : Gl X "all" := by rfl) (he : starEach [a] X.env = (false, eval a X.env) :: starEach [] X.env := by rfl) (hpl : (backTo pos (starEach [] X.env)).any (·.1) = false := by rfl) :
    DE Γ X W (.Call (.Name "all" p) [a] [] pos) (tcall fAll t) := d_callB (cr_all hc) cd_all hg hm (by decide +kernel) ha (by decide) (by decide) he hpl
theorem d_any {p : Pos} {t : Ev → Wp (List D)} (hm : X.mg "any" = none) (ha : DA Γ X W [a] t) (hc : X.calm = true := by rfl) (hg : Gl X "any" := by rfl) (he : starEach [a] X.env = (false, eval a X.env) :: starEach [] X.env := by rfl) (hpl : (backTo pos (starEach [] X.env)).any (·.1) = false := by rfl) :
    DE Γ X W (.Call (.Name "any" p) [a] [] pos) (tcall fAny t) := d_callB (cr_any hc) cd_any hg hm (by decide +kernel) ha (by decide) (by decide) he hpl
theorem d_sum {p : Pos} {t : Ev → Wp (List D)} (hm : X.mg "sum" = none) (ha : DA Γ X W [a] t) (hc : X.calm = true := by rfl) (hg : Gl X "sum" := by rfl) (he : starEach [a] X.env = (false, eval a X.env) :: starEach [] X.env := by rfl) (hpl : (backTo pos (starEach [] X.env)).any (·.1) = false := by rfl) :
    DE Γ X W (.Call (.Name "sum" p) [a] [] pos) (tcall fSum t) := d_callB (cr_sum hc) cd_sum hg hm (by decide +kernel) ha (by decide) (by decide) he hpl
end
end OE

namespace PySem
namespace OExc
open PySem.W PySem.Calls PyProof.Rows PySem.HandSPX Builtin Builtin.ObjectAttr
/-! ### an exception class of the package: super().__init__(text), then perhaps a field -/
def initArgs (ps : List (Str × Pos)) : Arguments := { posonlyargs := [], args := ps.map fun p => { arg := p.1, annotation := none, pos := p.2 }, vararg := none, kwonlyargs := [], kw_defaults := [], kwarg := none, defaults := [] }
def superSt (msg : Str) (a1 a2 a3 a4 a5 a6 : Pos) : Stmt := .Expr (.Call (.Attribute (.Call (.Name "super" a1) [] [] a2) "__init__" a3) [.Constant (.str msg) 0 a4] [] a5) a6
def fieldSt (f : Str) (b1 b2 b3 b4 : Pos) : Stmt := .Assign [.Attribute (.Name "self" b1) f b2] (.Name f b3) b4
def scopeF (f : Str) : Scope := { kind := .function, names := [("self", .local), (f, .local), ("__class__", .free), ("super", .globalImplicit)], isGenerator := false, isCoroutine := false, more := [] }
def scope0 : Scope := { kind := .function, names := [("self", .local), ("__class__", .free), ("super", .globalImplicit)], isGenerator := false, isCoroutine := false, more := [] }
/-- what the written part says of the class at C -/
structure ExCls (prog : Program) (K : Frag) (mg : Str → Option Value) (name : Str) (B newId initId : String) (bmB : List Value) (C fI cc : Addr) : Prop where
  gC : mg name = some (.ref C)
  FB : ExcBaseFacts B newId initId bmB
  SF : StoreFacts B bmB "object.__setattr__" "object"
  KF : KxsFacts B initId
  cls : excInitIn K C bmB newId = true
  over : excOver K C bmB = true
  sa : findIn K (.ref C) "__setattr__" = some (some (.builtin "object.__setattr__"))
  ga : findIn K (.ref C) "__getattribute__" = some (some (.builtin "BaseException.__getattribute__"))
  gg : findIn K (.ref C) "__getattr__" = some none
  iC : findIn K (.ref C) "__init__" = some (some (.ref fI))
  tC : typeIn K (.ref fI) = some (.type "function")
  kC : keepIn K (.ref C) = true
  exC : subIn K (.ref C) (.type "BaseException") = some true
  subB : subIn K (.ref C) (.type B) = some true
  tyC : typeIn K (.ref C) = some (.type "type")
  hdC : hasDictIn K C = true
  self : mroIn K C (.ref C) = some true
  sup : ks_superIn K C C "__init__" = some (some (.builtin initId))
  cell : ∃ cl cld csl, K.lookup cc = some ⟨cl, cld, .cell (some (.ref C)), csl⟩
  opq : nsIn K cStatics "thirdparty.any" = some none
  noS : mg "super" = none
  top : (prog.main.scope.names.lookup ("super" : Str)).isSome = false
/-- .. and of its __init__, with a field -/
structure ExFn (prog : Program) (K : Frag) (qual : Str) (msg : Str) (ps : List Str) (sc : Scope) (rest : List Stmt → Prop) (fI cc : Addr) : Prop where
  fn : ∃ (oc : Value) (od : Option Addr) (kV doc pm : Value) (an : Option Addr) (cda : Addr) (ct : Value) (osl : Array (Option Value)) (pp : List Pos) (a1 a2 a3 a4 a5 a6 : Pos) (more : List Stmt) (ccl : Value) (cdd : Option Addr) (vs : Array Value) (ccs : Array (Option Value)) (file : Str) (tf : Tok),
    pp.length = ps.length ∧ rest more ∧ K.lookup fI = some ⟨oc, od, .func (ksFn "__init__" qual (initArgs (ps.zip pp)) (superSt msg a1 a2 a3 a4 a5 a6 :: more) sc .none kV doc pm an (.ref cda) ct cc), osl⟩ ∧ codeIn K (.ref cda) qual = true ∧
    K.lookup cda = some ⟨ccl, cdd, .fields vs, ccs⟩ ∧ vs[2]? = some (.str file tf) ∧ ((prog.main.file : Str) == file) = true ∧ (a3.endLine == a5.line) = true

section
variable {prog : Program} {w : World} {A : Around} {E : Value → Shared → Prop} {h : Heap} {g : Array GenState} {d : Drawn} {t : Nat} {os : OsState} {R : Result → Shared → Prop}
variable {K : Frag} {mg : Str → Option Value} {name : Str} {B newId initId : String} {bmB : List Value} {C fI cc : Addr}
/-- the bound __init__ of the base, called -/
theorem call_mw (T : ExCls prog K mg name B newId initId bmB C fI cc) (X : K.In h) {u e t0 : Addr} {rest : List Value} {Q : Value → Shared → Prop} (he : h.get? e = some (excO C t0)) (hu : h.get? u = some (kxs_mw initId e)) (hrest : rest.length ≤ sizeLine)
    (hq : ∀ h' t1, (∀ b o, b ≠ e → h.get? b = some o → h'.get? b = some o) → h'.get? e = some (excO C t1) → Q .none ⟨h', g, d, t, os⟩) : wpAny (model prog w) A (call (.ref u) rest) Q E ⟨h, g, d, t, os⟩ := by
  obtain ⟨nm, N', qn, bs, bm, hdct, sn, sub, ab, col, dd, k0, k1, k2, k3, k5, hC, hT⟩ := excInit_of X T.cls
  refine wpAny_call (codeAny_of_tree ?_)
  show wpAny _ A.in1 (callAny (.ref u) ⟨rest, []⟩) _ _ _
  simp only [callAny]
  refine wpAny_bind (wpAny_load hu ?_)
  refine KFB.if_so (show (Value.type "method-wrapper" == Value.type "method" || Value.type "method-wrapper" == Value.type "builtin_function_or_method" || Value.type "method-wrapper" == Value.type "method-wrapper") = true by decide) ?_
  refine wpAny_bind (check_bound_init T.FB.toExcCallFacts hC he rfl ?_)
  refine wpAny_bind (wpAny_pure (wpAny_pure ⟨plainId_quiet T.FB.init.plain _, codeAny_builtin T.FB.initEntry ?_⟩))
  exact exc_init_tree (cls := .ref C) (t0 := t0) (dv := none) (c2 := .none) (c3 := .none) (b4 := .bool false) he hrest fun h' k e' _ => hq h' _ k e'
/-- self.f = v, the first field -/
theorem set_first (T : ExCls prog K mg name B newId initId bmB C fI cc) (X : K.In h) {x : Addr} {fv : Array Value} {f : Str} {tk : Tok} {v : Value} (hx : h.get? x = some { cls := .ref C, data := .fields fv }) (hf : findIn K (.ref C) f = some none)
    (hq : ∀ h' tk' dx, (∀ b o, b ≠ x → h.get? b = some o → h'.get? b = some o) → h.objs.size ≤ dx → dx ≠ x → h'.get? x = some { cls := .ref C, dict := some dx, data := .fields fv } → h'.Ns1 dx (fun y => if y = f then some v else none) → R (.ok (.ret .none)) ⟨h', g, d, tk', os⟩) :
    codeAny (model prog w) A (.call (.builtin "object.__setattr__") ⟨[.ref x, .str f tk, v], []⟩) R ⟨h, g, d, t, os⟩ := by
  have I : InstAt h x { cls := .ref C, data := .fields fv } C none := ⟨hx, rfl, rfl, trivial⟩
  have SO := F.store_object
  have ov := T.over
  unfold excOver at ov
  cases hcd : clsIn K C with
  | none => rw [hcd] at ov; cases ov
  | some cd =>
    rw [hcd] at ov
    have ov' : (match cd.mro with | .ref C' :: bm => C' == C && excTail bmB bm | _ => false) = true := ov
    have hpass : refuseLoop (.ref x) "__setattr__" cd.mro = pure () := by
      split at ov'
      · rename_i C' bm e
        rw [e, refuseLoop_ref]
        exact excTail_pass _ (T.SF.passes _) _ (Bool.and_eq_true_iff.mp ov').2
      · cases ov'
    have hob : cd.mro.contains (.type "object") = true := by
      split at ov'
      · rename_i C' bm e
        rw [e, List.contains_cons, excTail_contains "object" _ (Bool.and_eq_true_iff.mp ov').2, T.SF.hasOwner, Bool.or_true]
      · cases ov'
    have hne : cd.mro.isEmpty = false := by
      split at ov'
      · rename_i C' bm e; rw [e]; rfl
      · cases ov'
    have hd : cd.hasDict = true := by
      have z := T.hdC
      unfold hasDictIn at z
      rw [hcd] at z
      simpa using z
    have hxs : x ≠ h.objs.size := Nat.ne_of_lt (Heap.lt_size hx)
    have sub : Looks (model prog w) h (isInstance (.ref x) (.type "object")) true := I.type.andThen (looks_mroIn X (by unfold mroIn; rw [hcd, Option.bind_some, if_neg (by rw [hne]; decide), hob]))
    refine codeAny_call_builtin SO.slot.plain SO.entry (@check_slot (model prog w) _ _ ⟨h, g, d, t, os⟩ "object.__setattr__" "object" "__setattr__" (.ref x) [.str f tk, v] [] _ SO.kind SO.split sub (SO.args (.ref x) (.str f tk) v) ?_)
    have hmr : Looks (model prog w) h (mroOf (.ref C)) cd.mro := (looks_clsIn X hcd).andThen .now
    have L3 : Looks (model prog w) h (storeTaker? none) none := .now
    have hcls : Looks (model prog w) h (classData C) cd := looks_clsIn X hcd
    rw [osa_eq, refuse_eq]
    refine wpAny_bind (wpAny_bind (I.type.at (wpAny_bind (hmr.at ?_))))
    rw [hpass]
    refine wpAny_pure (wpAny_bind (I.type.at (wpAny_bind ((looks_findIn X hf).at (wpAny_bind (L3.at ?_))))))
    show wpAny _ _ (storeInOwnDict (.ref x) (.ref C) (.str f tk) f v false) _ _ _
    obtain ⟨nm, bs, mro, ns, qn, hd', sn, sb, ab, col, del⟩ := cd
    dsimp only at hd
    subst hd
    unfold storeInOwnDict ownDictForStores
    repeat (first | with_reducible refine store_in_new ?_ ?_ | with_reducible refine wpAny_loadPart_at hx ?_ | with_reducible refine hcls.at ?_ | wp_step)
    · exact ⟨_, #[], _, (Heap.get?_update_ne _ _ _ _ hxs.symm).trans (Heap.get?_push_at rfl rfl), rfl, fun e he => absurd he (by simp), fun _ => rfl⟩
    · intro h' tk' hn' hs
      have hx1 : (h.push { cls := .type "dict", data := .dict #[] }).get? x = some { cls := .ref C, data := .fields fv } := Heap.get?_push_of_some _ hx
      refine hq h' tk' h.objs.size (fun b o hb ho => ?_) (Nat.le_refl _) hxs.symm ?_ hn'
      · exact (hs.2 b (Nat.ne_of_lt (Heap.lt_size ho))).trans ((Heap.get?_update_ne _ _ _ _ hb).trans (Heap.get?_push_of_some _ ho))
      · exact (hs.2 x hxs).trans (Heap.get?_update_self _ hx1 rfl)
/-- the start of __init__: super().__init__(msg) has run -/
theorem super_run (T : ExCls prog K mg name B newId initId bmB C fI cc) {qual msg : Str} {ps : List Str} {sc : Scope} {rest : List Stmt → Prop} (Fd : ExFn prog K qual msg (("self" : Str) :: ps) sc rest fI cc) {x t0 : Addr} {vs : List Value} (X : K.In h) (hlim : h.NoLimit) (G : h.Ns mainGlobals mg)
    (Bn : ∃ mb, h.Ns builtinsNs mb ∧ ∀ x : Str, x ≠ "__name__" → mb x = bootBuiltins x) (hx : h.get? x = some (excO C t0)) (hroom : A.depth < recursionLimit)
    (hsc : sc.kind = .function ∧ sc.isCoroutine = false ∧ sc.isGenerator = false ∧ sc.names.lookup ("super" : Str) = some .globalImplicit ∧ sc.names.lookup ("__class__" : Str) = some .free ∧ sc.names.lookup ("self" : Str) = some .local ∧ (∀ z ∈ sc.names, z.2 ≠ .cell) ∧ ∀ y ∈ ps, sc.names.lookup y = some .local)
    (hev : ∀ (a1 a2 a3 a4 a5 : Pos) (env : Env), (a3.endLine == a5.line) = true → ∃ pl : Sem Bool, eval (.Call (.Attribute (.Call (.Name "super" a1) [] [] a2) "__init__" a3) [.Constant (.str msg) 0 a4] [] a5) env = (do
      let ov ← attributeBase (.Call (.Name "super" a1) [] [] a2) "__init__" env (eval (.Call (.Name "super" a1) [] [] a2) env)
      standAt a3.atName
      let (f, first) ← holding [ov] (getMethod ov "__init__" pl)
      callWith a5 f first (backTo a5 (starEach [.Constant (.str msg) 0 a4] env)) []))
    (hl : vs.length = ps.length) (hself : ("self" : Str) ∉ ps)
    (hbind : ∀ (pp : List Pos) (body : List Stmt) (kV doc pm : Value) (an : Option Addr) (cda : Addr) (ct : Value), pp.length = ps.length + 1 → bindArgs (ksFn "__init__" qual (initArgs ((("self" : Str) :: ps).zip pp)) body sc .none kV doc pm an (.ref cda) ct cc) ⟨.ref x :: vs, []⟩ = pure ((("self" : Str) :: ps).zip (.ref x :: vs)))
    (hq : ∀ more h' tk L t1 env m, rest more → h.objs.size ≤ L → env = ksEnv qual sc L fI env.code cc → h'.Ns L m → (m = fun y => ((("self" : Str) :: ps).zip (Value.ref x :: vs)).reverse.lookup y) → (∀ b o, b ≠ x → h.get? b = some o → h'.get? b = some o) → h'.get? x = some (excO C t1) → L ≠ x →
      wpAny (model prog w) (A.deeper env) (execs more env) (fun f s' => R (.ok (.ret (match f with | .ret v => v | _ => .none))) s') (fun e s' => wpAny (model prog w) (A.deeper env) (leaving env e) (fun _ s'' => R (.error e) s'') (fun e' s'' => R (.error e') s'') s') ⟨h', g, d, tk, os⟩) :
    codeAny (model prog w) A (.call (.ref fI) ⟨.ref x :: vs, []⟩) R ⟨h, g, d, t, os⟩ := by
  obtain ⟨oc, od, kV, doc, pm, an, cda, ct, osl, pp, a1, a2, a3, a4, a5, a6, more, ccl, cdd, fvs, ccs, file, tf, hpp, hmore, ho, hcd, hcode, hvs, hfile, hline⟩ := Fd.fn
  obtain ⟨cl, cld, csl, hcell⟩ := T.cell
  obtain ⟨mb, hb1, hb2⟩ := Bn
  obtain ⟨k1, k2, k3, k4, k5, k6, k7, k8⟩ := hsc
  obtain ⟨p0, pr, rfl⟩ : ∃ p0 pr, pp = p0 :: pr := by
    cases pp with
    | nil => simp at hpp
    | cons a b => exact ⟨a, b, rfl⟩
  have hxl : x < h.objs.size := Heap.lt_size hx
  refine ks_codeAny_call_defAt (fd := ksFn "__init__" qual (initArgs ((("self" : Str) :: ps).zip (p0 :: pr))) (superSt msg a1 a2 a3 a4 a5 a6 :: more) sc .none kV doc pm an (.ref cda) ct cc) (body := superSt msg a1 a2 a3 a4 a5 a6 :: more) (binds := (("self" : Str) :: ps).zip (.ref x :: vs))
    hroom (X _ _ ho) rfl hlim (codeRec_of X hcd) rfl (BindsTo.of_eq (hbind _ _ _ _ _ _ _ _ (by simpa using hpp))) k7 (fun y hy => ?_) (fun h1 hns hk => ?_) k2 k3 k1
  · obtain ⟨n, v⟩ := y
    rcases List.mem_cons.mp (List.of_mem_zip hy).1 with z | z
    · rw [z]; exact k6
    · exact k8 n z
  · have X1 : K.In h1 := X.keeps hk
    have hx1 := hk _ _ hx
    have hself : (fun y => ((("self" : Str) :: ps).zip (Value.ref x :: vs)).reverse.lookup y) ("self" : Str) = some (.ref x) := by
      show ((("self" : Str) :: ps).zip (Value.ref x :: vs)).reverse.lookup ("self" : Str) = _
      rw [List.zip_cons_cons, List.reverse_cons]
      have no : ∀ (l : List (Str × Value)), (∀ p ∈ l, p.1 ≠ "self") → List.lookup ("self" : Str) (l ++ [(("self" : Str), Value.ref x)]) = some (.ref x) := by
        intro l
        induction l with
        | nil => intro _; simp [List.lookup]
        | cons p l ih =>
          intro hp
          have ne : (("self" : Str) == p.1) = false := beq_eq_false_iff_ne.mpr fun z => hp p List.mem_cons_self z.symm
          obtain ⟨a, b⟩ := p
          show List.lookup ("self" : Str) ((a, b) :: (l ++ [(("self" : Str), Value.ref x)])) = _
          rw [List.lookup_cons, ne]
          exact ih fun q hq => hp q (List.mem_cons_of_mem _ hq)
      refine no _ fun p hp z => hself ?_
      obtain ⟨a, b⟩ := p
      have := (List.of_mem_zip (List.mem_reverse.mp hp)).1
      rw [← z]; exact this
    obtain ⟨nm, N', qn, bs, bm, hdct, sn, sub, ab, col, dd, q0, q1, q2, q3, q5, hC, hT⟩ := excInit_of X1 T.cls
    have I : InstAt h1 x (excO C t0) C none := ⟨hx1, rfl, rfl, trivial⟩
    cases hcd0 : clsIn K C with
    | none =>
      have z := T.sup
      unfold ks_superIn at z
      rw [hcd0] at z; cases z
    | some cd =>
      obtain ⟨oD, hD1, hD2⟩ : ∃ oD, h1.get? C = some oD ∧ oD.data = .cls cd := by
        have z := hcd0
        unfold clsIn at z
        split at z
        · rename_i c d' cd' sl ho'
          cases z
          exact ⟨_, X1 _ _ ho', rfl⟩
        · cases z
      have sup := T.sup
      unfold ks_superIn at sup
      rw [hcd0] at sup
      have quiet : ∀ (e : Env), e.scope.kind = .function → interactive e = false := fun e he => by simp [interactive, he]
      obtain ⟨pl, hpl⟩ := hev a1 a2 a3 a4 a5 (callEnv (ksFn "__init__" qual (initArgs ((("self" : Str) :: ps).zip (p0 :: pr))) (superSt msg a1 a2 a3 a4 a5 a6 :: more) sc .none kV doc pm an (.ref cda) ct cc) h.objs.size fI) hline
      refine ks_wpAt_execs_cons (ks_wpAt_Expr_any (ks_wpAt_MethodCall (pl := pl) ?_ hpl) (quiet _ k1))
      refine ks_wpAt_super_base (env := callEnv (ksFn "__init__" qual (initArgs ((("self" : Str) :: ps).zip (p0 :: pr))) (superSt msg a1 a2 a3 a4 a5 a6 :: more) sc .none kV doc pm an (.ref cda) ct cc) h.objs.size fI) k4 k5 (by decide) rfl (X1 _ _ ho) rfl (ar := { arg := "self", annotation := none, pos := p0 }) rfl rfl (X1 _ _ hcode) rfl hvs hfile T.top ?_
      refine ks_loadName_global k1 k4 (loadGlobal_builtin (G.keeps hk) T.noS (hb1.keeps hk) ((hb2 _ (by decide +kernel)).trans (show bootBuiltins "super" = some (.type "super") by decide +kernel)) ⟨rfl, ?_⟩)
      refine wpAny_loadName_free k1 k5 rfl ⟨_, X1 _ _ hcell, rfl⟩ ?_
      refine wpAny_loadName_local k1 k6 hns hself ?_
      refine ks_wpAny_isType_cls hD1 hD2 ⟨rfl, ?_⟩
      refine ks_wpAny_call_super hD1 hD2 hx1 rfl (fun c e => nomatch e) (looks_mroIn X1 T.self) (fun h2 e2 kp2 => ?_)
      have X2 : K.In h2 := X1.keeps kp2
      have I2 : InstAt h2 x (excO C t0) C none := ⟨kp2 _ _ hx1, rfl, rfl, trivial⟩
      have hI : Looks (model prog w) h2 (isInstance (.ref x) (.type B)) true := I2.type.andThen (looks_subIn X2 T.subB)
      refine kxs_getMethod T.KF e2 (looks_opaque X2 T.opq) (l₀ := cd.mro) ((looks_clsIn X2 hcd0).andThen .now) rfl X2 sup hI (ks_ne X2 I2 hcd0) (by decide) ?_
      have hu : (h2.push (kxs_mw initId x)).get? h2.objs.size = some (kxs_mw initId x) := Heap.get?_push_size _ rfl
      have hx3 : (h2.push (kxs_mw initId x)).get? x = some (excO C t0) := Heap.get?_push_of_some _ (kp2 _ _ hx1)
      refine kxs_callWith (i := initId) (x := x) rfl (evalArgs_plain (spliced_cons (Constant_str (k := 0) (pos := a4) (spliced_nil ⟨hu, ?_⟩))))
      refine call_mw (h := h2.push (kxs_mw initId x)) T (X2.keeps fun b o e => Heap.get?_push_of_some _ e) hx3 hu (by show 1 ≤ sizeLine; rw [sizeLine_eq]; decide) fun h4 t1 kp4 hx4 => ?_
      refine wpAt_of_wpAny ?_
      have nL : h.objs.size ≠ x := Nat.ne_of_gt hxl
      refine hq more h4 _ h.objs.size t1 _ _ hmore (Nat.le_refl _) rfl ?_ rfl (fun b o hb e => kp4 b o hb (Heap.get?_push_of_some _ (kp2 _ _ (hk _ _ e)))) hx4 nL
      obtain ⟨oL, es, ep, hL, r⟩ := hns
      exact ⟨oL, es, ep, kp4 _ _ nL (Heap.get?_push_of_some _ (kp2 _ _ hL)), r⟩
theorem ev_super {msg : Str} (a1 a2 a3 a4 a5 : Pos) (env : Env) (he : (a3.endLine == a5.line) = true) : ∃ pl : Sem Bool, eval (.Call (.Attribute (.Call (.Name "super" a1) [] [] a2) "__init__" a3) [.Constant (.str msg) 0 a4] [] a5) env = (do
      let ov ← attributeBase (.Call (.Name "super" a1) [] [] a2) "__init__" env (eval (.Call (.Name "super" a1) [] [] a2) env)
      standAt a3.atName
      let (f, first) ← holding [ov] (getMethod ov "__init__" pl)
      callWith a5 f first (backTo a5 (starEach [.Constant (.str msg) 0 a4] env)) []) := by
  refine ⟨do return (← importBound (.Call (.Name "super" a1) [] [] a2) env).getD true, ?_⟩
  rw [arm_eval_Call]
  have one : ∀ ov, methodCall (.Call (.Name "super" a1) [] [] a2) "__init__" a3 a5 env ov 1 (backTo a5 (starEach [.Constant (.str msg) 0 a4] env)) [] = (do
      let (f, first) ← holding [ov] (getMethod ov "__init__" (do return (← importBound (.Call (.Name "super" a1) [] [] a2) env).getD true))
      callWith a5 f first (backTo a5 (starEach [.Constant (.str msg) 0 a4] env)) []) := fun ov => by
    unfold methodCall methodCallPos
    rw [if_pos (show (!methodCallForm 1 (backTo a5 (starEach [.Constant (.str msg) 0 a4] env)) [] || a3.endLine == a5.line) = true by rw [he, Bool.or_true])]
    rfl
  refine congrArg _ (funext fun ov => congrArg _ (funext fun _ => ?_))
  exact one ov
end
end OExc
end PySem

namespace PySem
namespace OExc
open PySem.W PySem.Calls PyProof.Rows PySem.HandSPX Builtin Builtin.ObjectAttr
section
variable {prog : Program} {w : World} {A : Around} {E : Value → Shared → Prop} {h : Heap} {g : Array GenState} {d : Drawn} {t : Nat} {os : OsState} {R : Result → Shared → Prop}
variable {K : Frag} {mg : Str → Option Value} {name : Str} {B newId initId : String} {bmB : List Value} {C fI cc : Addr}
/-- a made exception with a field -/
structure MadeF (h h' : Heap) (e C dx : Addr) (f : Str) (v : Value) : Prop where
  keep : ∀ b o, h.get? b = some o → h'.get? b = some o
  new : h.objs.size ≤ e
  obj : ∃ t1, h'.get? e = some { cls := .ref C, dict := some dx, data := .fields #[.ref t1, .none, .none, .none, .bool false, .none] }
  dbig : h.objs.size ≤ dx
  dne : dx ≠ e
  ns : h'.Ns1 dx (fun y => if y = f then some v else none)
def fieldOk (f : Str) : Prop := f = "place" ∨ f = "value" ∨ f = "word" ∨ f = "most"
theorem scopeF_ok {f : Str} (hf : fieldOk f) : (scopeF f).kind = .function ∧ (scopeF f).isCoroutine = false ∧ (scopeF f).isGenerator = false ∧ (scopeF f).names.lookup ("super" : Str) = some .globalImplicit ∧ (scopeF f).names.lookup ("__class__" : Str) = some .free ∧ (scopeF f).names.lookup ("self" : Str) = some .local ∧
    (∀ z ∈ (scopeF f).names, z.2 ≠ .cell) ∧ ∀ y ∈ [f], (scopeF f).names.lookup y = some .local := by
  rcases hf with rfl | rfl | rfl | rfl <;> exact ⟨rfl, rfl, rfl, by decide +kernel, by decide +kernel, by decide +kernel, by decide +kernel, by decide +kernel⟩
theorem made_f (T : ExCls prog K mg name B newId initId bmB C fI cc) {qual msg f : Str} (hf : fieldOk f) (Fd : ExFn prog K qual msg ["self", f] (scopeF f) (fun more => ∃ b1 b2 b3 b4, more = [fieldSt f b1 b2 b3 b4]) fI cc) (hfn : findIn K (.ref C) f = some none) {v : Value}
    (X : K.In h) (hlim : h.NoLimit) (G : h.Ns mainGlobals mg) (Bn : ∃ mb, h.Ns builtinsNs mb ∧ ∀ x : Str, x ≠ "__name__" → mb x = bootBuiltins x) (hroom : A.depth + 1 < recursionLimit)
    (hq : ∀ h' tk e dx, MadeF h h' e C dx f v → R (.ok (.ret (.ref e))) ⟨h', g, d, tk, os⟩) : codeAny (model prog w) A (.call (.ref C) ⟨[v], []⟩) R ⟨h, g, d, t, os⟩ := by
  obtain ⟨nm, N', qn, bs, bm, hdct, sn, sub, ab, col, dd, q0, q1, q2, q3, q5, hC, hT⟩ := excInit_of X T.cls
  have kp : ∀ b o, h.get? b = some o → ((h.push (kdv_tup [v])).push (excO C h.objs.size)).get? b = some o := fun b o e => Heap.get?_push_of_some _ (Heap.get?_push_of_some _ e)
  have hget : ((h.push (kdv_tup [v])).push (excO C h.objs.size)).get? (h.objs.size + 1) = some (excO C h.objs.size) := by heap_get
  have size2 : ((h.push (kdv_tup [v])).push (excO C h.objs.size)).objs.size = h.objs.size + 2 := by rw [Heap.size_push, Heap.size_push]
  refine call_own T.FB hT hC (looks_findIn X T.iC) (fun self => bind_fn X self T.tC) (show 1 ≤ sizeLine by rw [sizeLine_eq]; decide) ?_
  obtain ⟨mb, hb1, hb2⟩ := Bn
  refine super_run (h := (h.push (kdv_tup [v])).push (excO C h.objs.size)) (ps := [f]) (vs := [v]) T Fd (X.keeps kp) (hlim.keeps kp) (G.keeps kp) ⟨mb, hb1.keeps kp, hb2⟩ hget (by show A.depth + 1 < recursionLimit; exact hroom) (scopeF_ok hf) (fun a1 a2 a3 a4 a5 env => ev_super a1 a2 a3 a4 a5 env) rfl
    (by rcases hf with rfl | rfl | rfl | rfl <;> decide +kernel) (fun pp body kV doc pm an cda ct hl => ?_) (fun more h2 tk L t1 env m hm hL henv hns hmm kp2 hx2 hLx => ?_)
  · obtain ⟨p0, p1, rfl⟩ : ∃ p0 p1, pp = [p0, p1] := by
      match pp, hl with
      | [a, b], _ => exact ⟨a, b, rfl⟩
    rcases hf with rfl | rfl | rfl | rfl <;> rfl
  · obtain ⟨b1, b2, b3, b4, rfl⟩ := hm
    have X2 : K.In h2 := X.keeps fun b o e => kp2 b o (fun z => by rw [z] at e; exact absurd (Heap.lt_size e) (Nat.not_lt_of_le (Nat.le_succ _))) (kp b o e)
    have old : ∀ b o, h.get? b = some o → h2.get? b = some o := fun b o e => kp2 b o (fun z => by rw [z] at e; exact absurd (Heap.lt_size e) (Nat.not_lt_of_le (Nat.le_succ _))) (kp b o e)
    have mf : m f = some v := by
      rw [hmm]
      rcases hf with rfl | rfl | rfl | rfl <;> rfl
    have ms : m ("self" : Str) = some (.ref (h.objs.size + 1)) := by
      rw [hmm]
      rcases hf with rfl | rfl | rfl | rfl <;> rfl
    obtain ⟨ksc1, ksc2, ksc3, ksc4, ksc5, ksc6, ksc7, ksc8⟩ := scopeF_ok hf
    have hloc : env.locals = L := by rw [henv]
    have hkind : env.scope.kind = .function := by rw [henv]; rfl
    have hks : env.kindOf ("self" : Str) = some .local := by rw [henv]; exact ksc6
    have hkf : env.kindOf f = some .local := by rw [henv]; exact ksc8 f List.mem_cons_self
    have hns' : h2.Ns env.locals m := by rw [hloc]; exact hns
    have hsz2 : h.objs.size ≤ h2.objs.size := Nat.le_of_lt (Nat.lt_of_le_of_lt (Nat.le_succ _) (Heap.lt_size hx2))
    refine wpAny_execs_cons (plainObj_wpAny_Assign_Attribute ?_)
    refine wpAny_Name (wpAny_loadName_local hkind hkf hns' mf ?_) (by rcases hf with rfl | rfl | rfl | rfl <;> decide)
    refine wpAny_Name (wpAny_loadName_local hkind hks hns' ms ?_) (by decide)
    refine set_plain X2 (ox := excO C t1) (od := none) ⟨hx2, rfl, rfl, trivial⟩ T.sa ?_
    refine set_first (h := h2) T X2 hx2 hfn (fun h3 tk3 dx kp3 hdx hdne hx3 hn3 => ?_)
    refine wpAny_execs_nil ⟨rfl, hq h3 tk3 (h.objs.size + 1) dx ⟨fun b o e => kp3 b o (fun z => by rw [z] at e; exact absurd (Heap.lt_size e) (Nat.not_lt_of_le (Nat.le_succ _))) (old b o e), Nat.le_succ _, ⟨t1, hx3⟩, Nat.le_trans hsz2 hdx, hdne, hn3⟩⟩
/-- a made exception without a field -/
structure Made0 (h h' : Heap) (e C : Addr) : Prop where
  keep : ∀ b o, h.get? b = some o → h'.get? b = some o
  new : h.objs.size ≤ e
  obj : ∃ t1, h'.get? e = some (excO C t1)
theorem made_0 (T : ExCls prog K mg name B newId initId bmB C fI cc) {qual msg : Str} (Fd : ExFn prog K qual msg ["self"] scope0 (fun more => more = []) fI cc)
    (X : K.In h) (hlim : h.NoLimit) (G : h.Ns mainGlobals mg) (Bn : ∃ mb, h.Ns builtinsNs mb ∧ ∀ x : Str, x ≠ "__name__" → mb x = bootBuiltins x) (hroom : A.depth + 1 < recursionLimit)
    (hq : ∀ h' tk e, Made0 h h' e C → R (.ok (.ret (.ref e))) ⟨h', g, d, tk, os⟩) : codeAny (model prog w) A (.call (.ref C) ⟨[], []⟩) R ⟨h, g, d, t, os⟩ := by
  obtain ⟨nm, N', qn, bs, bm, hdct, sn, sub, ab, col, dd, q0, q1, q2, q3, q5, hC, hT⟩ := excInit_of X T.cls
  have kp : ∀ b o, h.get? b = some o → ((h.push (kdv_tup [])).push (excO C h.objs.size)).get? b = some o := fun b o e => Heap.get?_push_of_some _ (Heap.get?_push_of_some _ e)
  have hget : ((h.push (kdv_tup [])).push (excO C h.objs.size)).get? (h.objs.size + 1) = some (excO C h.objs.size) := by heap_get
  refine call_own T.FB hT hC (looks_findIn X T.iC) (fun self => bind_fn X self T.tC) (show [].length ≤ sizeLine from Nat.zero_le _) ?_
  obtain ⟨mb, hb1, hb2⟩ := Bn
  refine super_run (h := (h.push (kdv_tup [])).push (excO C h.objs.size)) (ps := []) (vs := []) T Fd (X.keeps kp) (hlim.keeps kp) (G.keeps kp) ⟨mb, hb1.keeps kp, hb2⟩ hget (by show A.depth + 1 < recursionLimit; exact hroom) ⟨rfl, rfl, rfl, by decide +kernel, by decide +kernel, by decide +kernel, by decide +kernel, by decide +kernel⟩ (fun a1 a2 a3 a4 a5 env => ev_super a1 a2 a3 a4 a5 env) rfl
    (by decide) (fun pp body kV doc pm an cda ct hl => ?_) (fun more h2 tk L t1 env m hm hL henv hns hmm kp2 hx2 hLx => ?_)
  · obtain ⟨p0, rfl⟩ : ∃ p0, pp = [p0] := by
      match pp, hl with
      | [a], _ => exact ⟨a, rfl⟩
    rfl
  · subst hm
    refine wpAny_execs_nil ⟨rfl, hq h2 tk (h.objs.size + 1) ⟨fun b o e => kp2 b o (fun z => by rw [z] at e; exact absurd (Heap.lt_size e) (Nat.not_lt_of_le (Nat.le_succ _))) (kp b o e), Nat.le_succ _, ⟨t1, hx2⟩⟩⟩
end
end OExc
end PySem

namespace OE
open PySem PySem.Spec L2
variable [TN]
theorem fld_ok (c : Str) : PySem.OExc.fieldOk (fldOf c) := by
  unfold fldOf PySem.OExc.fieldOk
  split
  · exact .inl rfl
  split
  · exact .inl rfl
  split
  · exact .inr (.inr (.inl rfl))
  split
  · exact .inr (.inr (.inl rfl))
  split
  · exact .inr (.inr (.inr rfl))
  · exact .inr (.inl rfl)
/-- a class of the package with a field -/
def Ex1 (P : Program) (K : PySem.W.Frag) (mg : Str → Option Value) (name : Str) (C : Addr) : Prop := ∃ (B newId initId : String) (bmB : List Value) (fI cc : Addr) (qual msg : Str), PySem.OExc.ExCls P K mg name B newId initId bmB C fI cc ∧
  PySem.OExc.ExFn P K qual msg ["self", fldOf name] (PySem.OExc.scopeF (fldOf name)) (fun more => ∃ b1 b2 b3 b4, more = [PySem.OExc.fieldSt (fldOf name) b1 b2 b3 b4]) fI cc ∧ PySem.W.findIn K (.ref C) (fldOf name) = some none
/-- .. without -/
def Ex0 (P : Program) (K : PySem.W.Frag) (mg : Str → Option Value) (name : Str) (C : Addr) : Prop := ∃ (B newId initId : String) (bmB : List Value) (fI cc : Addr) (qual msg : Str), PySem.OExc.ExCls P K mg name B newId initId bmB C fI cc ∧
  PySem.OExc.ExFn P K qual msg ["self"] PySem.OExc.scope0 (fun more => more = []) fI cc
theorem relO_f {v : V} {v' : Value} (r : RelV v v') (g f : Str) : RelO (List.lookup f [(g, v)]) (if f = g then some v' else none) := by
  by_cases hw : f = g
  · subst hw
    rw [if_pos rfl]
    have q : List.lookup f [(f, v)] = some v := by simp [List.lookup]
    rw [q]
    exact r
  · rw [if_neg hw]
    have qw : (f == g) = false := by simpa using hw
    have q2 : List.lookup f [(g, v)] = none := by simp [List.lookup, qw]
    rw [q2]
    trivial
section
variable {X : Cx} {C : Addr} {name : Str}
def tMkF (C : Addr) (f : Str) (ta : TA) : St → Hp → XK → Prop := fun σ H Q => ta σ H fun vs H1 => ∃ v, vs = [v] ∧ ∀ d, H1 d = none → Q (.ref C) (some d) (upd H1 d (.xd [(f, v)]))
theorem pmk_f {a : Expr} {ta : TA} {p pos : Pos} {k : Nat} (T : Ex1 X.prog X.K X.mg name C) (hr : Room k X.A) (ha : PA X [a] ta) (hg : Gl X name := by rfl) (hdb : (name == ("__debug__" : Str)) = false := by decide)
    (he : starEach (a :: []) X.env = (false, eval a X.env) :: starEach [] X.env := by rfl) (hpl : (backTo pos (starEach [] X.env)).any (·.1) = false := by rfl) :
    PMk X (.Call (.Name name p) [a] [] pos) (tMkF C (fldOf name) ta) := by
  intro pins s σ H Q I h
  obtain ⟨B, newId, initId, bmB, fI, cc, qual, msg, T, Fd, hfn⟩ := T
  refine wpAny_Call_Name_kw (ld_glob I hg T.gC ?_ hdb)
  refine PySem.W.callWith_K (h₀ := X.base) I.ok.mod.kin T.kC (thn (ha.run pos pins s σ H _ I h) fun us s1 hh => ?_) he hpl
  obtain ⟨vs, H1, I1, r1, v, ev, q1⟩ := hh
  subst ev
  refine ⟨I1.kIn, ?_⟩
  cases r1 with
  | cons rv rn =>
    rename_i v' us'
    cases rn
    show wpAny _ _ (call (.ref C) [v']) _ _ _
    have hlim := I1.nolimit
    have hgl := I1.mod.glob.keeps I1.bk
    have hbl : ∃ mb, s1.heap.Ns builtinsNs mb ∧ ∀ x : Str, x ≠ "__name__" → mb x = bootBuiltins x := by
      obtain ⟨mb, h1, h2⟩ := I1.mod.blt
      exact ⟨mb, h1.keeps I1.bk, h2⟩
    obtain ⟨hp, g, dr, tk, os⟩ := s1
    refine wpAny_call (PySem.OExc.made_f T (fld_ok name) Fd hfn I1.kIn hlim hgl hbl (by have := hr.dp; omega) fun h' tk' e d M => ?_)
    show MkP X pins σ Q (.ref e) ⟨h', g, dr, tk', os⟩
    obtain ⟨t1, hoe⟩ := M.obj
    have hns := M.ns
    obtain ⟨G', g1, g2⟩ := restrict h' fun b => decide (b ≠ e)
    have gk : ∀ b, b ≠ e → G'.get? b = h'.get? b := fun b hb => g1 b (decide_eq_true hb)
    have ge : G'.get? e = none := g2 e (by simp)
    have old : ∀ b o, hp.get? b = some o → G'.get? b = some o := fun b o q => (gk b (Nat.ne_of_lt (Nat.lt_of_lt_of_le (Heap.lt_size q) M.new))).trans (M.keep b o q)
    have ob : ObjOk X.prog X.w (upd H1 d (.xd [(fldOf name, v)])) G' d (.xd [(fldOf name, v)]) :=
      ⟨_, hns.at (fun o q => (gk d M.dne).trans q), fun f => relO_f rv _ f⟩
    have J : Inv X pins σ (upd H1 d (.xd [(fldOf name, v)])) ⟨G', g, dr, tk', os⟩ := I1.laid (t' := tk') old M.dbig ob
    refine ⟨e, _, _, ⟨G', g, dr, tk', os⟩, _, .ref C, some d, rfl, J, fun b o q => ?_, ge, hoe, ⟨rfl, rfl⟩, rfl, rfl, ?_, rfl, I1.bare, raises_own T.exC T.tyC, q1 d (I1.hok.fresh M.dbig)⟩
    · by_cases hb : b = e
      · have q' : G'.get? b = some o := q
        rw [hb, ge] at q'; cases q'
      · exact (gk b hb).symm.trans q
    · rw [upd_ne (Ne.symm M.dne)]
      exact I1.hok.fresh M.new
theorem pmk_0 {p pos : Pos} {k : Nat} (T : Ex0 X.prog X.K X.mg name C) (hr : Room k X.A) (hg : Gl X name := by rfl) (hdb : (name == ("__debug__" : Str)) = false := by decide) :
    PMk X (.Call (.Name name p) [] [] pos) (fun _ H Q => Q (.ref C) none H) := by
  intro pins s σ H Q I h
  obtain ⟨B, newId, initId, bmB, fI, cc, qual, msg, T, Fd⟩ := T
  refine wpAny_Call_Name_kw (ld_glob I hg T.gC ?_ hdb)
  refine PySem.W.callWith_K0 I.kIn T.kC ?_
  have hlim := I.nolimit
  have hgl := I.mod.glob.keeps I.bk
  have hbl : ∃ mb, s.heap.Ns builtinsNs mb ∧ ∀ x : Str, x ≠ "__name__" → mb x = bootBuiltins x := by
    obtain ⟨mb, h1, h2⟩ := I.mod.blt
    exact ⟨mb, h1.keeps I.bk, h2⟩
  obtain ⟨hp, g, dr, tk, os⟩ := s
  refine wpAny_call (PySem.OExc.made_0 T Fd I.kIn hlim hgl hbl (by have := hr.dp; omega) fun h' tk' e M => ?_)
  show MkP X pins σ Q (.ref e) ⟨h', g, dr, tk', os⟩
  obtain ⟨t1, hoe⟩ := M.obj
  obtain ⟨G', g1, g2⟩ := restrict h' fun b => decide (b ≠ e)
  have gk : ∀ b, b ≠ e → G'.get? b = h'.get? b := fun b hb => g1 b (decide_eq_true hb)
  have ge : G'.get? e = none := g2 e (by simp)
  have old : ∀ b o, hp.get? b = some o → G'.get? b = some o := fun b o q => (gk b (Nat.ne_of_lt (Nat.lt_of_lt_of_le (Heap.lt_size q) M.new))).trans (M.keep b o q)
  have J : Inv X pins σ H ⟨G', g, dr, tk', os⟩ := I.kept (t' := tk') old
  refine ⟨e, _, _, ⟨G', g, dr, tk', os⟩, _, .ref C, none, rfl, J, fun b o q => ?_, ge, hoe, ⟨rfl, rfl⟩, rfl, rfl, I.hok.fresh M.new, rfl, I.bare, raises_own T.exC T.tyC, h⟩
  by_cases hb : b = e
  · have q' : G'.get? b = some o := q
    rw [hb, ge] at q'; cases q'
  · exact (gk b hb).symm.trans q
end

section
variable {Γ : Gam} {X : Cx} {W : WX} {a b c : Expr} {ta tb tc : Ev → Wp D} {pos : Pos} {name : Str} {C : Addr}
/-- raise C(e) -/
def tfail1 (name : Str) (t : Ev → Wp (List D)) : Ev → Wp Out := fun ρ => Wp.bind (t ρ) fun ds => match ds with
  | [d] => Wp.fail ⟨name, some d⟩
  | _ => Wp.stuck
theorem ds_raise {t : Ev → Wp (List D)} {p pos2 : Pos} {k : Nat} (T : Ex1 X.prog X.K X.mg name C) (hΓ : Γ name = some C) (hr : Room k X.A) (tk : Takes X W) (ha : DA Γ X W [a] t) (hc : X.calm = true := by rfl) (hg : Gl X name := by rfl) (hdb : (name == ("__debug__" : Str)) = false := by decide)
    (he : starEach (a :: []) X.env = (false, eval a X.env) :: starEach [] X.env := by rfl) (hpl : (backTo pos (starEach [] X.env)).any (·.1) = false := by rfl) :
    DS Γ X W (.Raise (some (.Call (.Name name p) [a] [] pos)) none pos2) (tfail1 name t) := by
  obtain ⟨ea, pa, fa⟩ := ha
  refine ⟨_, ps_raise hc tk (pmk_f T hr pa hg hdb he hpl), fun σ H Hs ρ n q x E s r h k ke => fa σ H Hs ρ n _ x _ s r h (fun vs H1 Hs1 ds n1 g1 s1 hv h1 => ?_) (ke σ)⟩
  cases hv with
  | nil => exact (show False from h1).elim
  | cons hv hr =>
    cases hr with
    | cons _ _ => exact (show False from h1).elim
    | nil =>
      refine ⟨_, rfl, fun d hd => ?_⟩
      obtain ⟨s2, g2⟩ := s1.new hd (o := .xd [(fldOf name, _)]) rfl
      exact ke σ ⟨name, some _⟩ _ _ _ _ n1 (g1.trans g2) s2 ⟨C, hΓ, rfl, d, _, rfl, upd_same, hv.ext g2.ext⟩ h1
def tfail0 (name : Str) : Ev → Wp Out := fun _ => Wp.fail ⟨name, none⟩
theorem ds_raise0 {p pos2 : Pos} {k : Nat} (T : Ex0 X.prog X.K X.mg name C) (hΓ : Γ name = some C) (hr : Room k X.A) (tk : Takes X W) (hc : X.calm = true := by rfl) (hg : Gl X name := by rfl) (hdb : (name == ("__debug__" : Str)) = false := by decide) :
    DS Γ X W (.Raise (some (.Call (.Name name p) [] [] pos)) none pos2) (tfail0 name) :=
  ⟨_, ps_raise hc tk (pmk_0 T hr hg hdb), fun σ H Hs ρ n q x E s r h k ke => ke σ ⟨name, none⟩ _ _ _ _ n (.refl _ _) s ⟨C, hΓ, rfl, rfl⟩ h⟩
end
end OE

namespace OE
open PySem PySem.Spec PyProof.Rows L2
variable [TN]
abbrev Slots := L2.St
section
variable {X : Cx} {pins : List (Addr × Obj)} {σ : Slots} {H : Hp} {s sI : Shared}
/-- a caught exception, tracked from here on -/
theorem inv_caught (J : Inv X pins σ H s) (JI : Inv X pins σ H sI) {a C : Addr} {d : Option Addr} {oe : Obj} {vs : Array Value} (hex : X.ex = []) (nI : sI.heap.get? a = none) (ha : s.heap.get? a = some oe) (hz : Zc (.ref C) d oe) (hd : oe.data = .fields vs) (na : H a = none) (nL : a ≠ X.env.locals) :
    Inv (X.suite a (X.pn ++ pins)) [] σ (upd H a (ExF C d a)) s := by
  have n0 : X.s_0.heap.get? a = none := by
    cases e : X.s_0.heap.get? a with
    | none => rfl
    | some o =>
      obtain ⟨o', q⟩ := JI.base.there a o e (by rw [hex]; exact fun z => nomatch z)
      rw [nI] at q; cases q
  refine ⟨J.ok.suite _ _, J.os, J.bare, ⟨J.base.keep, J.base.slot, fun b o e n hx => ?_, J.base.there, fun b xs e => ?_, fun b o u e => ?_, fun b ps e => ?_⟩, J.loc, J.cell, ?_, fun x c e => ?_, fun p hp => ?_, J.hok.laidN (fun _ _ e => e) na (exF_ok ha hz hd), J.len⟩
  · rw [upd_ne (fun z => by rw [z, n0] at e; cases e)]
    exact J.base.free b o e n hx
  · have q := J.base.tups b xs e
    rw [upd_ne (ne_of_none q na)]
    exact q
  · have q := J.base.frzs b o u e
    rw [upd_ne (ne_of_none q na)]
    exact q
  · obtain ⟨m, q⟩ := J.base.tbls b ps e
    exact ⟨m, by rw [upd_ne (ne_of_none q na)]; exact q⟩
  · show upd H a _ X.env.locals = none
    rw [upd_ne (Ne.symm nL)]
    exact J.free
  · obtain ⟨v, o, ho, hdd⟩ := J.cell x c e
    rw [upd_ne (fun z => by rw [z, ha] at ho; cases ho; rw [hd] at hdd; cases hdd)]
    exact J.freeC x c e
  · have hp' : p ∈ X.pn ++ pins := by rw [List.append_nil] at hp; exact hp
    obtain ⟨e, n, ne, nf, dd⟩ := J.pin p hp'
    obtain ⟨eI, _⟩ := JI.pin p hp'
    have hpa : p.1 ≠ a := fun z => by rw [z, nI] at eI; cases eI
    exact ⟨e, by rw [upd_ne hpa]; exact n, ne, nf, dd⟩
theorem inv_unsuite {a : Addr} {pn' : List (Addr × Obj)} (I : Inv (X.suite a (X.pn ++ pins)) pn' σ H s) (ok : X.Ok) : Inv X pins σ H s :=
  ⟨ok, I.os, I.bare, I.base, I.loc, I.cell, I.free, I.freeC, fun p hp => I.pin p (List.mem_append_left _ hp), I.hok, I.len⟩
end
/-- what the clause wishes of an exception of the body: slot i is the name's -/
def wX (K : PySem.W.Frag) (c : Value) (i : Nat) (ts : TS) (Wout : WX) (D : Ends) : WX := fun cls d σ H =>
  ∃ b, PySem.W.exmOne K cls c = some b ∧ (b = true → ∃ C, cls = .ref C ∧ ∀ a, H a = none → ts { nx := fun σ' H' => D.nx (σ'.set i none) H', rt := D.rt, bk := fun σ' H' => D.bk (σ'.set i none) H', ct := fun σ' H' => D.ct (σ'.set i none) H' } (σ.set i (some (.ref a))) (upd H a (ExF C d a))) ∧
    (b = false → Wout cls d σ H)
section
variable {X : Cx} {x n : Str} {c : Value} {i : Nat} {body suite : List Stmt} {b₀ : Stmt} {np pos pos' : Pos} {tb : WX → TS} {ts : TS} {Wout : WX}
theorem ps_try_x (hex : X.ex = []) (hs : X.stack = X.env :: X.outer) (hf : X.env.frame = some X.env.locals) (hN : X.N.Nodup) (hi : X.N[i]? = some n) (hln : X.env.kindOf n = some .local) (hc : Names X x c) (tk : Takes X Wout)
    (hb : ∀ (W : WX) (pn : List (Addr × Obj)) (xe : Value → Shared → Prop), Takes (X.tr pn xe) W → PassesOwn (model X.prog X.w) X.A X.env xe → PSs (X.tr pn xe) body (tb W))
    (hsu : ∀ (a : Addr) (pn : List (Addr × Obj)), PSs (X.suite a pn) (b₀ :: suite) ts) :
    PS X (.Try body [.ExceptHandler (some (.Name x np)) (some n) (b₀ :: suite) pos'] [] [] pos) (fun D σ H => tb (wX X.K c i ts Wout D) D σ H) := by
  refine ⟨fun pins s σ H D I h => ?_⟩
  have ok := I.ok
  have hfr : X.A.frames = some (X.env :: X.outer) := by rw [ok.frames, hs]
  have hloc : Loc X.env.scope n := .inl hln
  refine wpAny_Try_except ?_
  refine wpAny_mono ((hb (wX X.K c i ts Wout D) (X.pn ++ pins) (fun e s₁ => wpAny (model X.prog X.w) X.A (noteFrame e X.env) (fun _ s₂ => wpAny (model X.prog X.w) X.A (setFlight e none) (fun _ s₃ =>
    wpAny (model X.prog X.w) X.A (handleBy e X.env [.ExceptHandler (some (.Name x np)) (some n) (b₀ :: suite) pos']) (SP X pins D) X.xe s₃) X.xe s₂) X.xe s₁) (fun u s' xx => ?_) PassesOwn.looking).run [] s σ H D (I.toTry _) h) (fun f s1 hsp => ?_) (fun e s1 he => he)
  · obtain ⟨a, B, sI, pins', σ', H', cls, d, rfl, J', nb, up, sky, na, os, ag, b, hb1, hyes, hno⟩ := xx
    have J : Inv X pins σ' H' sI := J'.ofTry ok
    have sky' : Sky B (X.env :: X.outer) a (Zc cls d) X.env.locals s'.heap := by rw [← hs]; exact sky
    show wpAny (model X.prog X.w) X.A (noteFrame (.ref a) X.env) _ _ _
    refine Sky.land Zc.steady hfr hf sky' fun h3 fl3 up3 => ?_
    have J3 : Inv X pins σ' H' { s' with heap := h3 } := J.landed nb fl3.1 (up.trans up3) os ag
    obtain ⟨oe3, vs3, he3, hz3, hd3⟩ := fl3.there
    have notFr : ∀ {h : Heap} {o : Obj} {vs : Array Value}, h.FunFrames B (X.env :: X.outer) → h.get? a = some o → o.data = .fields vs → a ∉ frs (X.env :: X.outer) := fun {h o vs} ff e dd hm => by
      obtain ⟨_, o', e', hnf⟩ := ff.mem hm
      rw [e] at e'; cases e'
      exact hnf _ dd
    have nfr := notFr fl3.2.2.1 he3 hd3
    have nL : a ≠ X.env.locals := fun z => nfr (List.mem_filterMap.mpr ⟨X.env, List.mem_cons_self, by rw [hf, z]⟩)
    have nF : a ∉ X.fs := fun hm => by
      obtain ⟨e, he, q⟩ := List.mem_filterMap.mp hm
      exact nfr (List.mem_filterMap.mpr ⟨e, List.mem_cons_of_mem _ he, q⟩)
    have nI : sI.heap.get? a = none := by
      cases e : sI.heap.get? a with
      | none => rfl
      | some o =>
        have z := nb a o e (by rw [hs]; exact nfr)
        have k2 := fl3.2.1
        rw [k2] at z; cases z
    have S3 := J3.suite he3 hd3 na nL nF
    refine wpAny_handleBy_cons (codeAny_handlers_test ?_) (by intro q; cases q)
    have LT : PySem.W.Looks (model X.prog X.w) h3 (typeOf (.ref a)) cls := fun A Q E s k q => wpAny_typeOf_ref (k _ _ he3) (by rw [hz3.1]; exact q)
    have LM := PySem.W.exm_one (M := model X.prog X.w) (J3.kIn) LT hb1
    have test : ∀ {Q : Value → Shared → Prop} {E : Value → Shared → Prop}, Q c { s' with heap := h3 } → wpAny (model X.prog X.w) (X.A.mark (some (.ref a))) (eval (.Name x np) X.env) Q E { s' with heap := h3 } := fun {Q E} q => by
      obtain ⟨hg, hdbg, hm | ⟨hm, hv, hnn⟩⟩ := hc
      · exact ld_glob (X := X.suite a ((a, oe3) :: (X.pn ++ pins))) S3 hg hm q hdbg
      · exact ld_blt (X := X.suite a ((a, oe3) :: (X.pn ++ pins))) S3 hg hm hv q hnn hdbg
    refine test (LM.here ?_)
    cases b with
    | true =>
      obtain ⟨C, rfl, hy2⟩ := hyes rfl
      refine codeAny_handlers_suite_as ?_
      refine HandSPX.lands_againZ fl3 fun h4 fl4 up4 => ?_
      have J4 : Inv X pins σ' H' { s' with heap := h4 } := J.landed nb fl4.1 ((up.trans up3).trans up4) os ag
      obtain ⟨oe4, vs4, he4, hz4, hd4⟩ := fl4.there
      have S4 := inv_caught J4 J hex nI he4 hz4 hd4 na nL
      refine store_ok (X := X.suite a (X.pn ++ pins)) (v := .ref a) S4 hN hi hloc rfl (fun s5 S5 => ?_) (.inr hln)
      refine wpAny_mono ((hsu a (X.pn ++ pins)).run [] s5 _ _ _ S5 (hy2 a na)) (fun f s6 hsp => ?_) (fun _ _ z => False.elim z)
      have end_ : ∀ {σ6 : Slots} {H6 : Hp} {Q : Shared → Prop}, Inv (X.suite a (X.pn ++ pins)) [] σ6 H6 s6 → (∀ s7, Inv X pins (σ6.set i none) H6 s7 → Q s7) →
          wpAny (model X.prog X.w) X.A (do bindName X.env n .none; unbindBehindTheSuite X.env n pos') (fun _ s7 => Q s7) X.xe s6 := fun {σ6 H6 Q} S6 hq => gone_ok (inv_unsuite S6 ok) hN hi hln hq
      cases f with
      | next =>
        obtain ⟨σ6, H6, S6, q6⟩ := hsp
        exact end_ S6 fun s7 J7 => ⟨_, _, J7, q6⟩
      | brk =>
        obtain ⟨σ6, H6, S6, q6⟩ := hsp
        exact end_ S6 fun s7 J7 => ⟨_, _, J7, q6⟩
      | cont =>
        obtain ⟨σ6, H6, S6, q6⟩ := hsp
        exact end_ S6 fun s7 J7 => ⟨_, _, J7, q6⟩
      | ret u =>
        obtain ⟨v6, σ6, H6, S6, r6, q6⟩ := hsp
        exact end_ S6 fun s7 J7 => ⟨_, _, _, J7, r6, q6⟩
    | false =>
      show wpAny _ X.A (handleBy (.ref a) X.env []) _ _ _
      refine wpAny_handleBy_nil ?_
      obtain ⟨k1, k2, k3, oe, vs, T, oT, ts', he, hz, hd, h1, hr⟩ := id fl3
      unfold PySem.passOn
      refine wpAny_bind (wpAny_field he hd h1 ?_)
      rw [if_neg (show ¬ ((Value.ref T == Value.none) = true) from by simp)]
      have fin : wpAny (model X.prog X.w) X.A (setFlight (.ref a) X.env.frame) (fun _ s4 => wpAny (model X.prog X.w) X.A (throw (.ref a) : Sem Flow) (SP X pins D) X.xe s4) X.xe { s' with heap := h3 } := by
        rw [hf]
        refine HandSPX.setFlight_upZ fl3 fun h4 hh4 up4 => wpAny_throw (tk _ _ ?_)
        exact ⟨a, B, sI, pins, σ', H', cls, d, rfl, J, nb, (up.trans up3).trans up4, .inr (.inr (by rw [hs]; exact hh4)), na, os, ag, hno rfl⟩
      first
        | exact wpAny_bind (wpAny_pure (wpAny_bind fin))
        | exact wpAny_bind fin
  · cases f with
    | next =>
      obtain ⟨σ', H', J', q⟩ := hsp
      exact wpAny_execs_nil ⟨σ', H', J'.ofTry ok, q⟩
    | brk =>
      obtain ⟨σ', H', J', q⟩ := hsp
      exact ⟨σ', H', J'.ofTry ok, q⟩
    | cont =>
      obtain ⟨σ', H', J', q⟩ := hsp
      exact ⟨σ', H', J'.ofTry ok, q⟩
    | ret u =>
      obtain ⟨v, σ', H', J', r, q⟩ := hsp
      exact ⟨v, σ', H', J'.ofTry ok, r, q⟩
end
/-! ### at the data's level -/
def tsD (Γ : Gam) (K : PySem.W.Frag) (W : WX) (t : Ev → Wp Out) : TS := fun E σ H => ∃ (n : S) (Hs : Hp) (ρ : Ev) (q : Out → S → Prop) (x : Exn → S → Prop), Sit K n Hs H ∧ R K ρ σ Hs ∧ t ρ n q x ∧ OkO K Hs H q E ∧ OkX K Γ Hs H x W
theorem DB.ps {Γ : Gam} {X : Cx} {W : WX} {st : List Stmt} {t : Ev → Wp Out} (h : DB Γ X W st t) : PSs X st (tsD Γ X.K W t) := by
  obtain ⟨ts, p, f⟩ := h
  exact ⟨fun pins s σ H E I ⟨n, Hs, ρ, q, x, h1, h2, h3, h4, h5⟩ => p.run pins s σ H E I (f σ H Hs ρ n q x E h1 h2 h3 h4 h5)⟩
def Out.unset (i : Nat) : Out → Out
  | .nx ρ => .nx (ρ.set i none)
  | .rt d => .rt d
  | .bk ρ => .bk (ρ.set i none)
  | .ct ρ => .ct (ρ.set i none)
/-- try: .. except c as n: .. -/
def ttry (Γ : Gam) (mt : Str → Bool) (i : Nat) (tb su : Ev → Wp Out) : Ev → Wp Out := fun ρ n q x =>
  tb ρ n q fun e n' => if mt e.cls = true then ∀ C, Γ e.cls = some C → su (ρ.set i (some (.exn e.cls C e.arg.toList))) n' (fun o n2 => q (o.unset i) n2) (fun _ _ => False) else x e n'
section
variable {Γ : Gam} {X : Cx} {W : WX} {a b c : Expr} {ta tc : Ev → Wp D} {pos pos' np : Pos} {x n : Str} {cv : Value} {i : Nat} {suite : List Stmt} {b₀ : Stmt} {su : Ev → Wp Out} {mt : Str → Bool}
/-- the wish of the clause, from the data's -/
theorem wX_of {K : PySem.W.Frag} {ρ : Ev} {σ : Slots} {H Hs : Hp} {q : Out → S → Prop} {ex : Exn → S → Prop} {E : Ends} (hm : ∀ nm C, Γ nm = some C → PySem.W.exmOne K (.ref C) cv = some (mt nm)) (r : R K ρ σ Hs) (k : OkO K Hs H q E) (ke : OkX K Γ Hs H ex W) :
    OkE K Γ Hs H (fun e n' => if mt e.cls = true then ∀ C, Γ e.cls = some C → su (ρ.set i (some (.exn e.cls C e.arg.toList))) n' (fun o n2 => q (o.unset i) n2) (fun _ _ => False) else ex e n') (fun cl d h => wX K cv i (tsD Γ K W0 su) W E cl d σ h) := by
  intro e cls dd H' Hs' n' g s rep h
  obtain ⟨C, hC, rfl, ha⟩ := rep
  refine ⟨mt e.cls, hm _ _ hC, fun hb => ⟨C, rfl, fun a0 h0 => ?_⟩, fun hb => ?_⟩
  · rw [if_pos hb] at h
    obtain ⟨s2, g2⟩ := s.new h0 (o := ExF C dd a0) rfl
    have G := g.trans g2
    have hv : Dv K (upd Hs' a0 (ExF C dd a0)) (.ref a0) (.exn e.cls C e.arg.toList) := by
      cases he : e.arg with
      | none =>
        rw [he] at ha
        have ha' : dd = none := ha
        subst ha'
        exact .exn0 upd_same
      | some d0 =>
        rw [he] at ha
        obtain ⟨a1, v1, rfl, h1, h2⟩ := ha
        exact .exn1 upd_same ((g2.ext _ _ h1).1 rfl) (h2.ext g2.ext)
    refine ⟨n', _, _, _, _, s2, (r.ext G.ext).set i hv, h C hC, fun o n3 H3 Hs3 g3 s3 h3 => ?_, fun σ' _ _ _ _ _ _ _ _ _ z => z.elim⟩
    have kk := k (o.unset i) n3 H3 Hs3 (G.trans g3) s3 h3
    cases o with
    | nx ρ' => exact fun σ1 r1 => kk _ (r1.unset i none)
    | rt d => exact kk
    | bk ρ' => exact fun σ1 r1 => kk _ (r1.unset i none)
    | ct ρ' => exact fun σ1 r1 => kk _ (r1.unset i none)
  · rw [if_neg (by rw [hb]; decide)] at h
    exact ke σ e _ _ _ _ n' g s ⟨C, hC, rfl, ha⟩ h
theorem ds_trySet (i j : Nat) {y : Str} {py p1 : Pos} (hN : X.N.Nodup) (hc : Names X x cv) (hm : ∀ nm C, Γ nm = some C → PySem.W.exmOne X.K (.ref C) cv = some (mt nm)) (tk : Takes X W)
    (ha : ∀ (W : WX) (pn : List (Addr × Obj)) (xe : Value → Shared → Prop), Takes (X.tr pn xe) W → PassesOwn (model X.prog X.w) X.A X.env xe → DE Γ (X.tr pn xe) W a ta)
    (hsu : ∀ (a : Addr) (pn : List (Addr × Obj)), DB Γ (X.suite a pn) W0 (b₀ :: suite) su)
    (hex : X.ex = [] := by rfl) (hs : X.stack = X.env :: X.outer := by rfl) (hf : X.env.frame = some X.env.locals := by rfl) (hi : X.N[i]? = some n := by rfl) (hln : X.env.kindOf n = some .local := by rfl)
    (hj : X.N[j]? = some y := by rfl) (hx : Loc X.env.scope y := by first | exact Or.inl rfl | exact Or.inr rfl) (hsw : swapsWith a (some (.Name y py)) p1.line X.env = pure false := by rfl)
    (hfy : X.fn y = true ∨ X.env.scope.names.lookup y = some .local := by first | exact .inl rfl | exact .inr rfl) :
    DS Γ X W (.Try [.Assign [.Name y py] a p1] [.ExceptHandler (some (.Name x np)) (some n) (b₀ :: suite) pos'] [] [] pos) (ttry Γ mt i (tset j ta) su) := by
  refine ⟨_, ps_try_x (i := i) (tb := fun W => tAsg (teD Γ X.K W ta) (gName j)) (ts := tsD Γ X.K W0 su) (Wout := W) hex hs hf hN hi hln hc tk (fun W pn xe tk' hp => pss_one (ps_set (X := X.tr pn xe) (i := j) hN hj hx (ha W pn xe tk' hp).pe hsw hfy)) (fun a0 pn => (hsu a0 pn).ps), fun σ H Hs ρ n q ex E s r h k ke => ?_⟩
  exact ⟨n, Hs, ρ, _, _, s, r, h, fun v H1 Hs1 d n1 g1 s1 hv h1 => k (.nx (ρ.set j (some d))) n1 H1 Hs1 g1 s1 h1 _ ((r.ext g1.ext).set j hv), wX_of hm r k ke⟩
theorem ds_tryRet (i : Nat) {p1 : Pos} (hN : X.N.Nodup) (hc : Names X x cv) (hm : ∀ nm C, Γ nm = some C → PySem.W.exmOne X.K (.ref C) cv = some (mt nm)) (tk : Takes X W)
    (ha : ∀ (W : WX) (pn : List (Addr × Obj)) (xe : Value → Shared → Prop), Takes (X.tr pn xe) W → PassesOwn (model X.prog X.w) X.A X.env xe → DE Γ (X.tr pn xe) W a ta)
    (hsu : ∀ (a : Addr) (pn : List (Addr × Obj)), DB Γ (X.suite a pn) W0 (b₀ :: suite) su)
    (hex : X.ex = [] := by rfl) (hs : X.stack = X.env :: X.outer := by rfl) (hf : X.env.frame = some X.env.locals := by rfl) (hi : X.N[i]? = some n := by rfl) (hln : X.env.kindOf n = some .local := by rfl) :
    DS Γ X W (.Try [.Return (some a) p1] [.ExceptHandler (some (.Name x np)) (some n) (b₀ :: suite) pos'] [] [] pos) (ttry Γ mt i (tret ta) su) := by
  refine ⟨_, ps_try_x (i := i) (tb := fun W => tRet (teD Γ X.K W ta)) (ts := tsD Γ X.K W0 su) (Wout := W) hex hs hf hN hi hln hc tk (fun W pn xe tk' hp => pss_one (ps_ret (X := X.tr pn xe) (ha W pn xe tk' hp).pe)) (fun a0 pn => (hsu a0 pn).ps), fun σ H Hs ρ n q ex E s r h k ke => ?_⟩
  exact ⟨n, Hs, ρ, _, _, s, r, h, fun v H1 Hs1 d n1 g1 s1 hv h1 => k (.rt d) n1 H1 Hs1 g1 s1 h1 v hv, wX_of hm r k ke⟩
end
/-! ### the field of a caught exception -/
/-- what the written part says of the classes -/
structure XF (K : PySem.W.Frag) (C : Addr) (f : Str) : Prop where
  ga : PySem.W.findIn K (.ref C) "__getattribute__" = some (some (.builtin "BaseException.__getattribute__"))
  gg : PySem.W.findIn K (.ref C) "__getattr__" = some none
  exC : PySem.W.subIn K (.ref C) (.type "BaseException") = some true
  hdC : PySem.W.hasDictIn K C = true
  noN : PySem.W.findIn K (.ref C) f = some none
def XFs (K : PySem.W.Frag) (Γ : Gam) : Prop := ∀ nm C, Γ nm = some C → XF K C (fldOf nm)
section
variable {Γ : Gam} {X : Cx} {W : WX} {a : Expr} {ta : Ev → Wp D} {pos : Pos}
def tfld (Γ : Gam) (f : Str) (t : Ev → Wp D) : Ev → Wp D := fun ρ => Wp.bind (t ρ) fun d => match d with
  | .exn x C [v] => Wp.bind (Wp.ask (Γ x = some C ∧ fldOf x = f)) fun _ => Wp.ret v
  | _ => Wp.stuck
theorem d_fld {f : Str} (T : XFs X.K Γ) (ha : DE Γ X W a ta) (hb : attributeBase a f X.env (eval a X.env) = eval a X.env := by rfl) : DE Γ X W (.Attribute a f pos) (tfld Γ f ta) := by
  obtain ⟨te, p, g⟩ := ha
  refine ⟨fun σ H Q => te σ H fun y H1 => ∃ (a0 C dd : Addr) (v : V), y = .ref a0 ∧ H1 a0 = some (ExF C (some dd) a0) ∧ XF X.K C f ∧ H1 dd = some (.xd [(f, v)]) ∧ Q v H1, ⟨fun pins s σ H Q I h => ?_⟩, fun σ H Hs ρ n q x Q s r h k ke => g σ H Hs ρ n _ x _ s r h (fun v H1 Hs1 d n1 g1 s1 hv h1 => ?_) ke⟩
  · refine attr_of hb (thn (p.run pins s σ H _ I h) fun u s1 hh => ?_)
    obtain ⟨y, H1, I1, ry, a0, C, dd, v, rfl, hE, T1, hd, q⟩ := hh
    obtain rfl : u = Value.ref a0 := ry
    obtain ⟨⟨oe, vs, ha, hz, hdat⟩, _, _⟩ := I1.hok a0 _ hE
    have hx : ObjOk X.prog X.w H1 s1.heap dd (.xd [(f, v)]) := I1.hok dd _ hd
    obtain ⟨mA, hns, hr⟩ := hx
    obtain ⟨od, ho, hl⟩ := lookIn_ns hns
    have l : List.lookup f [(f, v)] = some v := by simp [List.lookup]
    obtain ⟨u, hu, ru⟩ := RelO.some_of (v := v) (o := mA f) (by rw [← l]; exact hr f)
    have J : PySem.W.InstAt s1.heap a0 oe C (some od) := ⟨ha, hz.1, by unfold PySem.W.notCls; rw [hdat] <;> rfl, by rw [hz.2]; exact ho⟩
    exact HandSPX.exc_get I1.kIn J T1.ga T1.gg T1.exC (PySem.W.findObj_own T1.hdC T1.noN rfl (by rw [hl, hu])) (handed_of ru) ⟨v, H1, I1.tok _, ru, q⟩
  · cases hv with
    | @exn1 a0 dd C nm v0 d0 hE hd hg =>
      obtain ⟨⟨hC, rfl⟩, h1⟩ := h1
      exact ⟨a0, C, dd, v0, rfl, s1.sub _ _ hE, T _ _ hC, s1.sub _ _ hd, k _ H1 Hs1 _ n1 g1 s1 hg h1⟩
    | _ => exact (show False from h1).elim
end
end OE

namespace OE
open PySem PySem.Spec L2
variable [TN]
/-! ### dicts: displays -/
/-- an object of our own is shared from here on -/
theorem Sit.share {K : PySem.W.Frag} {n : S} {Hs H : Hp} (s : Sit K n Hs H) {p : Addr} {o : HO} (hs : Hs p = none) (z : isM o = false) (zk : isK o = false := by rfl) : Sit K n (upd Hs p o) (upd H p o) ∧ Ext Hs (upd Hs p o) := s.put hs z zk
/-- .. a draws' state -/
theorem Sit.shareM {K : PySem.W.Frag} {n : S} {Hs H : Hp} (s : Sit K n Hs H) {p : Addr} {kvs : List (Key × V)} (hs : Hs p = none) (gm : GoodM n.n Hs kvs) : Sit K n (upd Hs p (.dK kvs)) (upd H p (.dK kvs)) ∧ Ext Hs (upd Hs p (.dK kvs)) :=
  s.putG hs (fun kvs' e _ => by cases e; exact gm) rfl
/-- a draws' state turns -/
theorem Sit.turnM {K : PySem.W.Frag} {n n' : S} {Hs H : Hp} (s : Sit K n Hs H) {a : Addr} {kvs kvs' : List (Key × V)} (ha : Hs a = some (.dK kvs)) (z : isM (.dK kvs) = true) (z' : isM (.dK kvs') = true) (hn : n.n ≤ n'.n) (hmu : n'.mu = n.mu) (gm : GoodM n'.n Hs kvs') :
    Sit K n' (upd Hs a (.dK kvs')) (upd H a (.dK kvs')) ∧ Go Hs H (upd Hs a (.dK kvs')) (upd H a (.dK kvs')) := by
  have e : Ext Hs (upd Hs a (.dK kvs')) := fun b u q => by
    by_cases hb : b = a
    · subst hb
      rw [ha] at q
      cases q
      rw [upd_same]
      exact ⟨fun y => (by have y' : isM (.dK kvs) = false := y; rw [z] at y'; cases y'), fun _ => ⟨_, rfl, z'⟩⟩
    · rw [upd_ne hb]
      exact ⟨fun _ => q, fun y => ⟨u, q, y⟩⟩
  refine ⟨⟨fun b u q y => ?_, fun b q => ?_, fun b u q y => ?_, fun b kv q y => ?_, fun P q t => ?_, fun b u q => ?_⟩, ⟨e, fun b u q y => ?_⟩⟩
  · by_cases hb : b = a
    · subst hb; rw [upd_same] at q ⊢; exact q
    · rw [upd_ne hb] at q ⊢; exact s.subK b u q y
  · by_cases hb : b = a
    · subst hb; exact ⟨_, upd_same⟩
    · rw [upd_ne hb] at q ⊢; exact s.mkd b q
  · by_cases hb : b = a
    · subst hb; rw [upd_same] at q; cases q; cases y
    · rw [upd_ne hb] at q; exact s.mks b u q y
  · by_cases hb : b = a
    · subst hb
      rw [upd_same] at q
      cases q
      exact gm.mono (Nat.le_refl _) e
    · rw [upd_ne hb] at q
      exact (s.good b kv q y).mono hn e
  · obtain ⟨ps, t1, t2, t3⟩ := s.tabs P q t
    refine ⟨ps, ?_, t2, fun pos cv hc => ?_⟩
    · rw [upd_ne (fun w => by rw [w, ha] at t1; cases t1)]; exact t1
    · obtain ⟨c, c1, c2⟩ := t3 pos cv hc
      refine ⟨c, c1, ?_⟩
      rw [upd_ne (fun w => by rw [w, ha] at c2; unfold LamX.CodeO at c2; cases c2)]; exact c2
  · rw [hmu] at q
    obtain ⟨h1, h2⟩ := s.muts b u q
    have hb : b ≠ a := fun w => by rw [w, ha] at h1; cases h1
    exact ⟨by rw [upd_ne hb]; exact h1, h2.ext e (upd_ne hb)⟩
  · have hb : b ≠ a := fun q => by rw [q, ha] at y; cases y
    rw [upd_ne hb, upd_ne hb]
    exact ⟨q, y⟩
theorem merge_nodup : ∀ (more acc : List (Key × V)), ((acc ++ more).map Prod.fst).Nodup → mergeK acc more = acc ++ more
  | [], acc, _ => by rw [List.append_nil]; rfl
  | p :: r, acc, h => by
    have hp : putK acc p.1 p.2 = acc ++ [p] := by
      unfold putK
      rw [if_neg]
      intro z
      obtain ⟨kv, h1, h2⟩ := List.any_eq_true.mp z
      have e : kv.1 = p.1 := of_decide_eq_true h2
      rw [List.map_append, List.nodup_append] at h
      exact h.2.2 kv.1 (List.mem_map_of_mem h1) p.1 (by simp) e
    show mergeK (putK acc p.1 p.2) r = _
    rw [hp, merge_nodup r (acc ++ [p]) (by simpa using h), List.append_assoc]
    rfl
def strKs (ks : List Str) : List (Option Expr) → Prop
  | [] => ks = []
  | _ => True
section
variable (Γ : Gam) (X : Cx) (W : WX)
/-- the pairs of a display, its keys texts -/
def DP (pos : Pos) (keys : List (Option Expr)) (values : List Expr) (ks : List Str) (t : Ev → Wp (List D)) : Prop := ∃ trs : List (TE × TE), PPs X pos keys values trs ∧ keys.all (·.isSome) = true ∧ keys.length = values.length ∧ ks.length = keys.length ∧
  ∀ (σ : St) (H Hs : Hp) (ρ : Ev) (n : S) (q : List D → S → Prop) (x : Exn → S → Prop) (Q : List (V × V) → Hp → Prop),
  Sit X.K n Hs H → R X.K ρ σ Hs → t ρ n q x → (∀ vs H' Hs' ds n', Go Hs H Hs' H' → Sit X.K n' Hs' H' → DvAll X.K Hs' vs ds → vs.length = ks.length → q ds n' → Q (((ks.map Sum.inr).zip vs).map fun kv : Key × V => (kV kv.1, kv.2)) H') → OkE X.K Γ Hs H x (fun c d h => W c d σ h) → tPairs trs σ H Q
end
section
variable {Γ : Gam} {X : Cx} {W : WX} {a b c : Expr} {ta tb tc : Ev → Wp D} {pos : Pos}
theorem dp_nil : DP Γ X W pos [] [] [] tnil := ⟨[], pps_nil, rfl, rfl, rfl, fun σ H Hs ρ n q x Q s r h k _ => k [] H Hs [] n (.refl _ _) s .nil rfl h⟩
theorem dp_cons {key : Str} {j : Nat} {kp : Pos} {ks : List (Option Expr)} {vs : List Expr} {names : List Str} {t : Ev → Wp (List D)} (ha : DE Γ X W a ta) (hr : DP Γ X W pos ks vs names t) :
    DP Γ X W pos (some (.Constant (.str key) j kp) :: ks) (a :: vs) (key :: names) (tcons ta t) := by
  obtain ⟨ea, pa, fa⟩ := ha
  obtain ⟨trs, pp, h1, h2, h3, fr⟩ := hr
  refine ⟨(tC (.str key), ea) :: trs, pps_cons pe_str pa pp, by simpa using h1, by simp [h2], by simp [h3], fun σ H Hs ρ n q x Q s r h k ke => ?_⟩
  refine fa σ H Hs ρ n _ x _ s r h (fun v H1 Hs1 d n1 g1 s1 hv h1 => ?_) ke
  refine fr σ H1 Hs1 ρ n1 _ x _ s1 (r.ext g1.ext) h1 (fun ws H2 Hs2 ds n2 g2 s2 hvs hl h2 => ?_) (ke.go g1)
  exact k (v :: ws) H2 Hs2 _ n2 (g1.trans g2) s2 (.cons (hv.ext g2.ext) hvs) (by simp [hl]) h2
def kvD (ks : List Str) (ds : List D) : List (D × D) := (ks.zip ds).map fun p => (.str p.1, p.2)
theorem kv_of {K : PySem.W.Frag} {H : Hp} : ∀ {ks : List Str} {vs : List V} {ds : List D}, DvAll K H vs ds → DvKv K H ((ks.map Sum.inr).zip vs) (kvD ks ds)
  | [], _, _, _ => .nil
  | _ :: _, _, _, .nil => .nil
  | k :: ks, _, _, .cons h g => .cons (k := .inr k) h (kv_of g)
theorem zip_fst {α β : Type} : ∀ {l : List α} {m : List β}, m.length = l.length → (l.zip m).map Prod.fst = l
  | [], _, _ => rfl
  | a :: l, [], h => by cases h
  | a :: l, b :: m, h => by rw [List.zip_cons_cons, List.map_cons, zip_fst (by simpa using h)]
def mNames : List Str := ["left", "seed", "cells", "spot"]
def isMk (ks : List Str) : Bool := decide (ks = mNames)
theorem inr_inj : ∀ {l m : List Str}, l.map (Sum.inr (α := Int)) = m.map Sum.inr → l = m
  | [], [], _ => rfl
  | [], _ :: _, h => by cases h
  | _ :: _, [], h => by cases h
  | a :: l, b :: m, h => by
    rw [List.map_cons, List.map_cons] at h
    injection h with h1 h2
    rw [Sum.inr.inj h1, inr_inj h2]
theorem isM_ks {ks : List Str} {vs : List V} (hl : vs.length = ks.length) (h : isMk ks = false) : isM (.dK ((ks.map Sum.inr).zip vs)) = false := by
  show decide (((ks.map Sum.inr).zip vs).map Prod.fst = mKeys) = false
  rw [zip_fst (by simpa using hl)]
  refine decide_eq_false fun z => ?_
  have e : ks = mNames := by
    have z' : ks.map (Sum.inr (α := Int)) = mNames.map Sum.inr := z
    exact inr_inj z'
  rw [e] at h
  simp [isMk] at h
def tdict (ks : List Str) (t : Ev → Wp (List D)) : Ev → Wp D := fun ρ => Wp.bind (t ρ) fun ds => Wp.ret (.dic (kvD ks ds))
theorem inr_nodup : ∀ {ks : List Str}, ks.Nodup → (ks.map (Sum.inr : Str → Key)).Nodup
  | [], _ => List.nodup_nil
  | k :: ks, h => by
    obtain ⟨h1, h2⟩ := List.nodup_cons.mp h
    refine List.nodup_cons.mpr ⟨fun z => ?_, inr_nodup h2⟩
    obtain ⟨y, hy, e⟩ := List.mem_map.mp z
    rw [Sum.inr.inj e] at hy
    exact h1 hy
theorem d_dict {keys : List (Option Expr)} {values : List Expr} {ks : List Str} {t : Ev → Wp (List D)} (h : DP Γ X W pos keys values ks t) (hnd : ks.Nodup := by decide) (hm : isMk ks = false := by decide) (h0 : keys ≠ [] := by simp) (h15 : keys.length ≤ 15 := by decide) :
    DE Γ X W (.Dict keys values pos) (tdict ks t) := by
  obtain ⟨trs, pp, h1, h2, h3, fr⟩ := h
  refine ⟨_, pe_disp pp h1 h2 h0 h15, fun σ H Hs ρ n q x Q s r h k ke p hp => ?_⟩
  have hs := s.free hp
  have s0 : Sit X.K n Hs (upd H p (.dK [])) := s.own fun b u e => upd_ne (ne_of_none e hs)
  have g0 : Go Hs H Hs (upd H p (.dK [])) := ⟨.refl _, fun b u e y => ⟨by rw [upd_ne (ne_of_none e hp)]; exact e, y⟩⟩
  refine fr σ (upd H p (.dK [])) Hs ρ n _ x _ s0 r h (fun vs H2 Hs2 ds n2 g2 s2 hvs hl h2 => ?_) (ke.go g0)
  obtain ⟨o1, o2⟩ := g2.own p _ upd_same hs
  refine ⟨o1, (ks.map Sum.inr).zip vs, rfl, ?_, ?_⟩
  · rw [List.length_zip, List.length_map, hl, Nat.min_self, h3]; exact h15
  · have e : mergeK [] ((ks.map Sum.inr).zip vs) = (ks.map Sum.inr).zip vs := merge_nodup _ [] (by
      rw [List.nil_append, zip_fst (by simpa using hl)]
      exact inr_nodup hnd)
    rw [e]
    have z := isM_ks hl hm
    obtain ⟨s3, e3⟩ := s2.share o2 z
    refine k _ _ _ _ n2 ⟨(g0.trans g2).ext.trans e3, fun b u q y => ?_⟩ s3 (.dic upd_same z ((kv_of hvs).ext e3)) h2
    have hb : b ≠ p := ne_of_none q hp
    obtain ⟨p1, p2⟩ := (g0.trans g2).own b u q y
    rw [upd_ne hb, upd_ne hb]
    exact ⟨p1, p2⟩
theorem d_dict0 : DE Γ X W (.Dict [] [] pos) (tconst (.dic [])) := by
  refine ⟨_, pe_dnewK, fun σ H Hs ρ n q x Q s r h k ke p hp => ?_⟩
  obtain ⟨s1, g1⟩ := s.new hp (o := .dK []) rfl
  exact k _ _ _ _ n g1 s1 (.dic upd_same rfl .nil) h
/-- the draws' state, made -/
def tdictM (t : Ev → Wp (List D)) : Ev → Wp D := fun ρ => Wp.bind (t ρ) fun ds => fun n q _ => ∃ (l s : Int) (cs : List Int), ds = [.int l, .int s, .lst (cs.map D.int), .int 0] ∧ 0 ≤ l ∧ 0 ≤ s ∧ s < 2147483647 ∧ 0 < cs.length ∧ q .m n
theorem ints_of {K : PySem.W.Frag} {H : Hp} : ∀ {cs : List Int} {vs : List V}, DvAll K H vs (cs.map D.int) → vs = cs.map V.int
  | [], _, .nil => rfl
  | _ :: _, _, .cons (.int _) g => by rw [ints_of g]; rfl
theorem d_dictM {keys : List (Option Expr)} {values : List Expr} {t : Ev → Wp (List D)} (h : DP Γ X W pos keys values ["left", "seed", "cells", "spot"] t) : DE Γ X W (.Dict keys values pos) (tdictM t) := by
  obtain ⟨trs, pp, h1, h2, h3, fr⟩ := h
  have h15 : keys.length ≤ 15 := by rw [← h3]; decide
  have h0 : keys ≠ [] := fun z => by rw [z] at h3; cases h3
  refine ⟨_, pe_disp pp h1 h2 h0 h15, fun σ H Hs ρ n q x Q s r h k ke p hp => ?_⟩
  have hs := s.free hp
  have s0 : Sit X.K n Hs (upd H p (.dK [])) := s.own fun b u e => upd_ne (ne_of_none e hs)
  have g0 : Go Hs H Hs (upd H p (.dK [])) := ⟨.refl _, fun b u e y => ⟨by rw [upd_ne (ne_of_none e hp)]; exact e, y⟩⟩
  refine fr σ (upd H p (.dK [])) Hs ρ n _ x _ s0 r h (fun vs H2 Hs2 ds n2 g2 s2 hvs hl h2 => ?_) (ke.go g0)
  obtain ⟨o1, o2⟩ := g2.own p _ upd_same hs
  obtain ⟨l, sd, cs, rfl, k1, k2, k3, k4, h2⟩ := h2
  cases hvs with
  | cons v1 hvs => cases v1; cases hvs with
    | cons v2 hvs => cases v2; cases hvs with
      | cons v3 hvs => cases v3 with
        | @lst c xs _ hc gc => cases hvs with
          | cons v4 hvs => cases v4; cases hvs with
            | nil =>
              have ex := ints_of gc
              subst ex
              refine ⟨o1, ((["left", "seed", "cells", "spot"] : List Str).map Sum.inr).zip [.int l, .int sd, .ref c, .int 0], rfl, (by show 4 ≤ 15; decide), ?_⟩
              rw [merge_nodup _ [] (by rw [List.nil_append, zip_fst (by rfl)]; exact inr_nodup (by decide))]
              have gm : GoodM n2.n Hs2 [(.inr "left", .int l), (.inr "seed", .int sd), (.inr "cells", .ref c), (.inr "spot", .int 0)] := ⟨l, sd, 0, c, cs, rfl, k1, k2, k3, by omega, by omega, hc, k4⟩
              obtain ⟨s3, e3⟩ := s2.shareM o2 gm
              refine k _ _ _ _ n2 ⟨(g0.trans g2).ext.trans e3, fun b u q y => ?_⟩ s3 (.m upd_same (show decide (mKeys = mKeys) = true from decide_eq_true rfl)) h2
              have hb : b ≠ p := ne_of_none q hp
              obtain ⟨p1, p2⟩ := (g0.trans g2).own b u q y
              show upd H2 p _ b = _ ∧ upd Hs2 p _ b = _
              rw [upd_ne hb, upd_ne hb]
              exact ⟨p1, p2⟩
end
end OE

namespace OE
open PySem PySem.Spec L2
variable [TN]
/-! ### the draws' state: read, written -/
/-- m[key] -/
def mGet (key : Str) : Wp D := fun n q _ =>
  if key = "left" then ∀ l : Int, 0 ≤ l → q (.int l) n
  else if key = "seed" then ∀ s : Int, 0 ≤ s → s < 2147483647 → q (.int s) n
  else if key = "cells" then ∀ cs : List Int, 0 < cs.length → q (.lst (cs.map D.int)) n
  else if key = "spot" then ∀ p : Int, 0 ≤ p → p ≤ n.n → q (.int p) n
  else False
/-- a dict's value, by a text -/
def dGet (key : Str) : List (D × D) → Option D
  | [] => none
  | (.str k, d) :: r => if k = key then some d else dGet key r
  | _ :: r => dGet key r
def fGetS (key : Str) : D → Wp D
  | .m => mGet key
  | .dic l => fun n q _ => ∃ d, dGet key l = some d ∧ q d n
  | _ => Wp.stuck
theorem dGet_of {K : PySem.W.Frag} {H : Hp} {key : Str} : ∀ {kvs : List (Key × V)} {l : List (D × D)} {d : D}, DvKv K H kvs l → dGet key l = some d → ∃ v, valV kvs (.inr key) = some v ∧ Dv K H v d
  | _, _, _, .nil, h => by cases h
  | _, _, d, .cons (k := k) hv g, h => by
    cases k with
    | inl i =>
      obtain ⟨v, h1, h2⟩ := dGet_of g h
      exact ⟨v, by rw [valV_neg (by intro z; cases z)]; exact h1, h2⟩
    | inr x =>
      by_cases e : x = key
      · have h' : (if x = key then some _ else dGet key _) = some d := h
        rw [if_pos e] at h'
        cases h'
        exact ⟨_, valV_pos (by rw [e]), hv⟩
      · have h' : (if x = key then some _ else dGet key _) = some d := h
        rw [if_neg e] at h'
        obtain ⟨v, h1, h2⟩ := dGet_of g h'
        exact ⟨v, by rw [valV_neg (fun z => e (Sum.inr.inj z))]; exact h1, h2⟩
theorem dGet_kt {K : PySem.W.Frag} {H : Hp} {key : Str} : ∀ {kvs : List (List Key × V)} {l : List (D × D)}, DvKt K H kvs l → dGet key l = none
  | _, _, .nil => rfl
  | _, _, .cons (ds := r) hv g => by
    have e := dGet_kt (key := key) g
    show dGet key r = none
    exact e
theorem ne_k {x y : Str} {v : V} (h : x ≠ y) : ¬ ((Sum.inr x : Key), v).fst = Sum.inr y := fun z => h (Sum.inr.inj z)
abbrev mKv (l sd : Int) (c : Addr) (sp : Int) : List (Key × V) := [(Sum.inr "left", V.int l), (Sum.inr "seed", V.int sd), (Sum.inr "cells", V.ref c), (Sum.inr "spot", V.int sp)]
section
variable {Γ : Gam} {X : Cx} {W : WX} {a b c : Expr} {ta tb tc : Ev → Wp D} {pos : Pos}
theorem mGet_of {K : PySem.W.Frag} {n : S} {Hs H : Hp} (s : Sit K n Hs H) {p : Addr} {o : HO} (h : Hs p = some o) (z : isM o = true) {key : Str} {q : D → S → Prop} {x : Exn → S → Prop} (hq : mGet key n q x) : ∃ kvs v d, o = .dK kvs ∧ valV kvs (.inr key) = some v ∧ Dv K Hs v d ∧ q d n := by
  cases o with
  | dK kvs =>
    obtain ⟨l, sd, p, c, cs, rfl, k1, k2, k3, k4, k5, k6, k7⟩ := s.good _ _ h z
    unfold mGet at hq
    split at hq
    · rename_i e; subst e; exact ⟨_, _, _, rfl, valV_pos rfl, .int l, hq l k1⟩
    split at hq
    · rename_i e; subst e; exact ⟨_, _, _, rfl, (valV_neg (ne_k (by decide))).trans (valV_pos rfl), .int sd, hq sd k2 k3⟩
    split at hq
    · rename_i e; subst e; exact ⟨_, _, _, rfl, (valV_neg (ne_k (by decide))).trans ((valV_neg (ne_k (by decide))).trans (valV_pos rfl)), .lst k6 (DvAll.ints cs), hq cs k7⟩
    split at hq
    · rename_i e; subst e; exact ⟨_, _, _, rfl, (valV_neg (ne_k (by decide))).trans ((valV_neg (ne_k (by decide))).trans ((valV_neg (ne_k (by decide))).trans (valV_pos rfl))), .int p, hq p k4 k5⟩
    · exact hq.elim
  | _ => cases z
theorem d_getS {key : Str} {j : Nat} {kp : Pos} (hu : X.A.units + 1 < cLine) (ha : DE Γ X W a ta) (hs : NoSl (.Constant (.str key) j kp) := by exact fun _ _ => rfl) : DE Γ X W (.Subscript a (.Constant (.str key) j kp) pos) (tbind (fGetS key) ta) := by
  obtain ⟨ea, pa, fa⟩ := ha
  refine ⟨_, pe_dget hu pa pe_str hs, fun σ H Hs ρ n q x Q s r h k ke => fa σ H Hs ρ n _ x _ s r h (fun v H1 Hs1 d n1 g1 s1 hv h1 => ?_) ke⟩
  cases hv with
  | @dic p kvs l h2 z g =>
    obtain ⟨d, e, hq⟩ := h1
    obtain ⟨v, e1, e2⟩ := dGet_of g e
    exact ⟨p, v, rfl, .inl ⟨kvs, .inr key, .inl (s1.sub _ _ h2), rfl, e1.symm⟩, k _ H1 Hs1 _ n1 g1 s1 e2 hq⟩
  | dit h2 g =>
    obtain ⟨d, e, hq⟩ := h1
    rw [dGet_kt g] at e
    cases e
  | @m p o h2 z =>
    obtain ⟨kvs, v, d, rfl, e1, e2, hq⟩ := mGet_of (K := X.K) (x := x) s1 h2 z h1
    exact ⟨p, v, rfl, .inl ⟨kvs, .inr key, .inl (s1.sub _ _ h2), rfl, e1.symm⟩, k _ H1 Hs1 _ n1 g1 s1 e2 hq⟩
  | _ => exact (show False from h1).elim
/-- m[key] = d -/
def mPut (key : Str) (d : D) : Wp Unit := fun n q _ =>
  if key = "left" then ∃ l : Int, d = .int l ∧ 0 ≤ l ∧ q () n
  else if key = "spot" then ∃ p : Int, d = .int p ∧ 0 ≤ p ∧ p ≤ n.n + 1 ∧ q () ⟨n.n + 1, n.mu⟩
  else False
def tputM (key : Str) (ta tv : Ev → Wp D) : Ev → Wp Out := fun ρ => Wp.bind (tv ρ) fun d => Wp.bind (ta ρ) fun x => match x with
  | .m => Wp.bind (mPut key d) fun _ => Wp.ret (.nx ρ)
  | _ => Wp.stuck
theorem ds_putM {key : Str} {j : Nat} {kp pos' : Pos} (hu : X.A.units + 1 < cLine) (ha : DE Γ X W a ta) (hv : DE Γ X W b tb) (hs : swapsWith b (some (.Subscript a (.Constant (.str key) j kp) pos')) pos.line X.env = pure false := by rfl) :
    DS Γ X W (.Assign [.Subscript a (.Constant (.str key) j kp) pos'] b pos) (tputM key ta tb) := by
  obtain ⟨ea, pa, fa⟩ := ha
  obtain ⟨eb, pb, fb⟩ := hv
  refine ⟨_, ps_dput hu pa pe_str pb hs, fun σ H Hs ρ n q x E s r h k ke => fb σ H Hs ρ n _ x _ s r h (fun v H1 Hs1 d n1 g1 s1 hv h1 => fa σ H1 Hs1 ρ n1 _ x _ s1 (r.ext g1.ext) h1 (fun y H2 Hs2 dm n2 g2 s2 hm h2 => ?_) ((ke σ).go g1)) (ke σ)⟩
  cases hm with
  | @m p o h3 z =>
    cases o with
    | dK kvs =>
      obtain ⟨l, sd, sp, c, cs, rfl, k1, k2, k3, k4, k5, k6, k7⟩ := s2.good _ _ h3 z
      have hv2 := hv.ext g2.ext
      have h2' : mPut key d n2 (fun _ n' => q (.nx ρ) n') x := h2
      have line : 4 < sizeLine := by rw [sizeLine_eq]; decide
      unfold mPut at h2'
      split at h2'
      · rename_i e
        subst e
        obtain ⟨l', rfl, p1, hq⟩ := h2'
        cases hv2
        refine ⟨p, _, rfl, DPut.k (k := .inr "left") (s2.sub _ _ h3) line, ?_⟩
        have e : putK (mKv l sd c sp) (.inr "left") (.int l') = mKv l' sd c sp := by rfl
        rw [e]
        obtain ⟨s3, g3⟩ := s2.turnM (n' := n2) h3 z (kvs' := mKv l' sd c sp) (show decide (mKeys = mKeys) = true from decide_eq_true rfl) (Nat.le_refl _) rfl ⟨l', sd, sp, c, cs, rfl, p1, k2, k3, k4, k5, k6, k7⟩
        exact k (.nx ρ) n2 _ _ ((g1.trans g2).trans g3) s3 hq σ (r.ext ((g1.trans g2).trans g3).ext)
      split at h2'
      · rename_i e
        subst e
        obtain ⟨l', rfl, p1, p2, hq⟩ := h2'
        cases hv2
        refine ⟨p, _, rfl, DPut.k (k := .inr "spot") (s2.sub _ _ h3) line, ?_⟩
        have e : putK (mKv l sd c sp) (.inr "spot") (.int l') = mKv l sd c l' := by rfl
        rw [e]
        obtain ⟨s3, g3⟩ := s2.turnM (n' := ⟨n2.n + 1, n2.mu⟩) h3 z (kvs' := mKv l sd c l') (show decide (mKeys = mKeys) = true from decide_eq_true rfl) (Nat.le_succ _) rfl ⟨l, sd, l', c, cs, rfl, k1, k2, k3, p1, p2, k6, k7⟩
        exact k (.nx ρ) ⟨n2.n + 1, n2.mu⟩ _ _ ((g1.trans g2).trans g3) s3 hq σ (r.ext ((g1.trans g2).trans g3).ext)
      · exact h2'.elim
    | _ => cases z
  | _ => exact (show False from h2).elim
end
end OE

namespace OE
open PySem PySem.Spec L2
variable [TN]
/-! ### a def from its body -/
def startE (N : Nat) (ds : List D) : Ev := ds.map some ++ List.replicate (N - ds.length) none
def outQ (q : D → S → Prop) : Out → S → Prop
  | .rt d, n => q d n
  | .nx _, n => q .non n
  | _, _ => False
def runDef (N : Nat) (t : Ev → Wp Out) (ds : List D) : Wp D := fun n q x => t (startE N ds) n (outQ q) x
abbrev wOf (E : XK) : WX := fun cls d _ H => E cls d H
theorem r_start {K : PySem.W.Frag} {Hs : Hp} {N : List Str} {vs : List V} {ds : List D} (g : DvAll K Hs vs ds) : R K (startE N.length ds) (start N vs) Hs := by
  have hl := g.length
  refine ⟨by unfold startE L2.start; simp [hl], fun i d e => ?_⟩
  unfold startE at e
  by_cases hi : i < ds.length
  · rw [List.getElem?_append_left (by simpa using hi), List.getElem?_map] at e
    cases e1 : ds[i]? with
    | none => rw [e1] at e; cases e
    | some d' =>
      rw [e1] at e
      have e2 : d' = d := by simpa using e
      subst e2
      obtain ⟨v, h1, h2⟩ := g.get e1
      refine ⟨v, ?_, h2⟩
      unfold L2.start
      rw [List.getElem?_append_left (by rw [List.length_map, hl]; exact hi), List.getElem?_map, h1]
      rfl
  · rw [List.getElem?_append_right (by simpa using hi)] at e
    rw [List.getElem?_replicate] at e
    split at e <;> cases e
section
variable {Γ : Gam} {P : Program} {w : World} {K : PySem.W.Frag} {mg : Str → Option Value} {base : Heap}
theorem fn_of {k m : Nat} {f : Addr} {x : Str} {st : Stmt} {fd : FuncData} {N ps : List Str} {t : Ev → Wp Out} (F : Fun K x x st f fd) (hm : mg x = some (.ref f)) (hb : Binds K fd ps []) (S : FnScope N ps (defScope st)) (hps : ps.length = m)
    (h : ∀ (cdv : Value), fd.code = cdv → ∀ (A : Around) (outer : List Env) (s : Shared) (H : Hp) (E : XK), Room k (cxOf (L2.CX P w) P w K mg base N x (defScope st) f cdv A outer s H E).A → (cxOf (L2.CX P w) P w K mg base N x (defScope st) f cdv A outer s H E).A.guards = some [] →
      Takes (cxOf (L2.CX P w) P w K mg base N x (defScope st) f cdv A outer s H E) (wOf E) → PassesOwn (model P w) (cxOf (L2.CX P w) P w K mg base N x (defScope st) f cdv A outer s H E).A (cxOf (L2.CX P w) P w K mg base N x (defScope st) f cdv A outer s H E).env (cxOf (L2.CX P w) P w K mg base N x (defScope st) f cdv A outer s H E).xe →
      DB Γ (cxOf (L2.CX P w) P w K mg base N x (defScope st) f cdv A outer s H E) (wOf E) (defBody st) t) : Fn Γ P w K mg base x (k + 1) m (runDef N.length t) := by
  refine ⟨f, fd, ps, hps, fnG_of F S (fun vs H Q E ⟨n, Hs, ds, q, x, h1, _, h3, _⟩ => by rw [h3.length, h1, hps]) (fun cdv hcd A outer s H vs Q E hr hg ⟨n, Hs, ds, q, x, h1, h2, h3, h4, h5, h6⟩ => ?_), hm, F.kp, hb⟩
  obtain ⟨ts, p, g⟩ := h cdv hcd A outer s H E hr hg (takes_of rfl rfl rfl rfl) (passes_of rfl)
  refine ⟨ts, p, g (start N vs) H Hs (startE N.length ds) n _ x _ h2 (r_start h3) h4 (fun o n' H' Hs' g' s' hq => ?_) (fun σ => h6)⟩
  cases o with
  | nx ρ => exact fun σ _ => h5 .non H' Hs' .non n' g' s' .non hq
  | rt d => exact fun v hv => h5 v H' Hs' d n' g' s' hv hq
  | bk ρ => exact (show False from hq).elim
  | ct ρ => exact (show False from hq).elim
theorem Fn.imp {x : Str} {k m : Nat} {F G : List D → Wp D} (h : Fn Γ P w K mg base x k m F) (hi : ∀ ds n q e, G ds n q e → F ds n q e) : Fn Γ P w K mg base x k m G := by
  obtain ⟨f, fd, ps, h1, h2, h3⟩ := h
  refine ⟨f, fd, ps, h1, ⟨fun vs H Q E ⟨n, Hs, ds, q, x, z1, _, z3, _⟩ => by rw [z3.length, z1, h1], fun A outer s H args us vs Q E hr hg e0 hb r ⟨n, Hs, ds, q, x, z1, z2, z3, z4, z5⟩ => ?_⟩, h3⟩
  exact h2.run A outer s H args us vs Q E hr hg e0 hb r ⟨n, Hs, ds, q, x, z1, z2, z3, hi _ _ _ _ z4, z5⟩
end
/-! ### the end -/
/-- the tables of the defs that make lambdas: code object, table, the def's name -/
abbrev Tabls := List (Addr × Addr × Str)
def tnOf (cs : Tabls) : TN := ⟨fun P => (cs.find? fun p => decide (p.2.1 = P)).map fun p => p.2.2⟩
theorem tn_mem {cs : Tabls} {P : Addr} {q : Str} (h : (tnOf cs).nm P = some q) : ∃ p ∈ cs, p.2.1 = P ∧ p.2.2 = q := by
  have h' : ((cs.find? fun p => decide (p.2.1 = P)).map fun p => p.2.2) = some q := h
  cases e : cs.find? fun p => decide (p.2.1 = P) with
  | none => rw [e] at h'; cases h'
  | some p =>
    rw [e] at h'
    have z := List.find?_some e
    exact ⟨p, List.mem_of_find?_eq_some e, by simpa using z, by simpa using h'⟩
/-- what a def that makes lambdas wants of the module -/
def TabsB (base : Heap) (mg : Str → Option Value) (cs : Tabls) : Prop := ∀ p ∈ cs, LamX.TabB base mg p.1 p.2.1
theorem law_g {P : Program} {w : World} {K : PySem.W.Frag} {mg mb : Str → Option Value} {k : Nat} {fa a : Addr} {x : Str} {Γ : Gam} {G : List D → Wp D} {s1 : Shared} {vs : List Value} {ns : List Int} {cs : Tabls}
    (KX : K.In s1.heap) (hns : s1.heap.Ns mainGlobals mg) (hb : s1.heap.Ns builtinsNs mb) (hbb : ∀ x : Str, x ≠ "__name__" → mb x = bootBuiltins x) (hlim : s1.heap.NoLimit) (hg : s1.gens = #[])
    (hbm : ∃ (bm : Addr) (ob : Obj), mg "__builtins__" = some (.ref bm) ∧ bm ≠ builtinsNs ∧ s1.heap.get? bm = some ob ∧ ob.cls = .type "module" ∧ ob.dict = some builtinsNs ∧ ob.data = .plain)
    (hT : ∀ p ∈ cs, s1.heap.get? p.2.1 = some { cls := .none, data := .fields #[] }) (nT : ∀ p ∈ cs, K.lookup p.2.1 = none) (hC : ∀ p ∈ cs, PySem.W.CodeHd s1.heap p.1 p.2.1)
    (ha : s1.heap.get? a = some { cls := .type "list", data := .seq vs.toArray }) (hi : PyProof.Rows.IntsAre vs ns) (hl : ns.length ≤ sizeLine) (hr : Room k callerA)
    (hmg : mg x = some (.ref fa)) (F : ∀ base : Heap, K.In base → base.Ns mainGlobals mg → TabsB base mg cs → @Fn (tnOf cs) Γ P w K mg base x k 1 G)
    (hG : G [.scr ns] ⟨0, fun _ => none⟩ (fun d _ => d = .bl true) fun _ _ => False) :
    codeAny (model P w) callerA (.call (.ref fa) ⟨[.ref a], []⟩) (fun r s' => r = .ok (.ret (.bool true)) ∧ OldK s1.heap s'.heap ∧ s'.os = s1.os ∧ PyProof.Rows.AllBare s'.gens) s1 := by
  -- tracked: the tables; the script, unless it is one of the module's own objects
  obtain ⟨ob, hob⟩ : ∃ ob : Obj, ob = { cls := .type "list", data := .seq vs.toArray } := ⟨_, rfl⟩
  rw [← hob] at ha
  obtain ⟨H, hH⟩ : ∃ H : Hp, H = fun b => if b ∈ cs.map (fun p => p.2.1) then some (.tbl #[]) else if b = a ∧ K.lookup a = none then some (.frz ob (.lst (ns.map V.int))) else none := ⟨_, rfl⟩
  have tabAt : ∀ b, b ∈ cs.map (fun p => p.2.1) → s1.heap.get? b = some { cls := .none, data := .fields #[] } ∧ K.lookup b = none := fun b hb => by
    obtain ⟨p, hp, e⟩ := List.mem_map.mp hb
    rw [← e]
    exact ⟨hT p hp, nT p hp⟩
  have kinds : ∀ b u, H b = some u → (b ∈ cs.map (fun p => p.2.1) ∧ u = .tbl #[]) ∨ (b = a ∧ K.lookup a = none ∧ u = .frz ob (.lst (ns.map V.int))) := fun b u e => by
    rw [hH] at e
    dsimp only at e
    by_cases c : b ∈ cs.map (fun p => p.2.1)
    · rw [if_pos c] at e
      cases e
      exact .inl ⟨c, rfl⟩
    · rw [if_neg c] at e
      by_cases c2 : b = a ∧ K.lookup a = none
      · rw [if_pos c2] at e
        cases e
        exact .inr ⟨c2.1, c2.2, rfl⟩
      · rw [if_neg c2] at e
        cases e
  have aT : a ∉ cs.map (fun p => p.2.1) := fun z => by
    have q := (tabAt a z).1
    rw [ha, hob] at q
    cases q
  have free : ∀ b, (∀ u, H b = some u → False) → H b = none := fun b h => by
    cases e : H b with
    | none => rfl
    | some u => exact (h u e).elim
  have hok : HOk P w H s1.heap := fun b u e => by
    rcases kinds b u e with ⟨z1, z2⟩ | ⟨z1, _, z3⟩
    · subst z2
      exact (tabAt b z1).1
    · subst z1 z3
      exact ⟨ha, by rw [List.length_map]; exact hl, vs, _, vals_ints hi, by rw [ha, hob]⟩
  have seq : SqL K H a (ns.map V.int) := by
    cases hk : K.lookup a with
    | none => exact .inl (.inr ⟨ob, by rw [hH]; dsimp only; rw [if_neg aT]; exact if_pos ⟨rfl, hk⟩⟩)
    | some o =>
      have e := KX a o hk
      rw [ha, hob] at e
      cases e
      exact .inr ⟨_, vs.toArray, _, hk, rfl, rfl, rfl, by rw [List.size_toArray, hi.length]; exact hl, by simpa using vals_ints hi⟩
  have clear : ∀ {b : Addr} {o : Obj}, s1.heap.get? b = some o → (∀ us n, o.data ≠ .seq us n) → o.data ≠ .fields #[] → (hidT s1.heap H).get? b = some o := fun {b o} e h1 h2 =>
    hidT_get e (free b fun u q => by
      rcases kinds b u q with ⟨z1, _⟩ | ⟨z1, _, _⟩
      · rw [(tabAt b z1).1] at e
        cases e
        exact h2 rfl
      · rw [z1, ha, hob] at e
        cases e
        exact h1 _ _ rfl)
  have noD : ∀ {b : Addr} {m : Str → Option Value}, s1.heap.Ns b m → (hidT s1.heap H).Ns b m := fun {b m} ⟨o, es, ep, e, d, r⟩ =>
    ⟨o, es, ep, clear e (fun us n z => by rw [d] at z; cases z) (fun z => by rw [d] at z; cases z), d, r⟩
  have inK : K.In (hidT s1.heap H) := fun b o e => hidT_get (KX b o e) (free b fun u q => by
    rcases kinds b u q with ⟨z1, _⟩ | ⟨z1, z2, _⟩
    · rw [(tabAt b z1).2] at e
      cases e
    · rw [z1, z2] at e
      cases e)
  have md : Mod K mg (hidT s1.heap H) := ⟨inK, noD hns, ⟨mb, noD hb, hbb⟩, let ⟨mc, h1, h2⟩ := hlim; ⟨mc, noD h1, h2⟩⟩
  have tb : TabsB (hidT s1.heap H) mg cs := fun p hp => by
    have hTp := hT p hp
    refine ⟨?_, ?_, fun z => ?_⟩
    · obtain ⟨o, us, file, tf, flags, tg, inF, text, tt, e1, r1, r2, r3, r4⟩ := hC p hp
      exact ⟨o, us, file, tf, flags, tg, inF, text, tt, clear e1 (fun _ _ z => by rw [r2] at z; cases z) (fun z => by rw [r2] at z; cases z; simp at r3), r1, r2, r3, r4⟩
    · obtain ⟨bm, ob', b1, b2, b3, b4, b5, b6⟩ := hbm
      refine ⟨bm, ob', b1, b2, fun q => ?_, fun q => ?_, clear b3 (fun _ _ z => by rw [b6] at z; cases z) (fun z => by rw [b6] at z; cases z), b4, b5, b6⟩
      · obtain ⟨o, es, ep, e, hd, _⟩ := hns
        rw [q, e] at b3
        cases b3
        rw [hd] at b6
        cases b6
      · rw [q, hTp] at b3
        cases b3
        cases b6
    · obtain ⟨o, es, ep, e, hd, _⟩ := hns
      rw [z, hTp] at e
      cases e
      cases hd
  have none_in : ∀ {b : Addr}, b ∈ ([] : List Addr) → False := fun z => nomatch z
  obtain ⟨f, fd, ps, hps, FG, hm, _, hbind⟩ := F _ inK (noD hns) tb
  have ef : f = fa := by rw [hmg] at hm; cases hm; rfl
  subst ef
  have hsp : @spW (tnOf cs) K Γ 1 G [.ref a] H (fun v _ => v = .bl true) fun _ _ _ => False := by
    refine ⟨⟨0, fun _ => none⟩, H, [.scr ns], _, _, rfl, ?_, .cons (.scr seq) .nil, hG, fun v H' Hs' d n' _ _ hv hq => ?_, fun _ _ _ _ _ _ _ _ _ z => z.elim⟩
    · refine @Sit.mk (tnOf cs) _ _ _ _ (fun _ _ e _ => e) (fun b e => ⟨_, e⟩) (fun b u e y => ?_) (fun b kvs e _ => ?_) (fun P' q' t => ?_) (fun _ _ e => nomatch e)
      · rcases kinds b _ e with ⟨_, z⟩ | ⟨_, _, z⟩ <;> (subst z; cases y)
      · rcases kinds b _ e with ⟨_, z⟩ | ⟨_, _, z⟩ <;> cases z
      · obtain ⟨p, hp, e1, _⟩ := tn_mem t
        refine LamX.TabS.nil ?_
        rw [hH]
        dsimp only
        exact if_pos (List.mem_map.mpr ⟨p, hp, e1⟩)
    · subst hq
      cases hv
      rfl
  refine codeAny_mono (FG.run callerA [] s1 H ⟨[.ref a], []⟩ [.ref a] [.ref a] _ _ hr rfl ⟨rfl, md, fun b o e => of_hidT e, Nat.le_of_eq (hidT_size _ _), trivial, fun b hb => (none_in hb).elim, hok, .of_eq hg⟩ (hbind s1 [.ref a] KX (by rw [hps]; rfl)) (.cons rfl .nil) hsp) fun r s' h => ?_
  rcases r with e | (_ | _ | _ | u)
  · exact (let ⟨_, _, _, _, _, _, _, _, _, _, _, _, z⟩ := h; (show False from z).elim)
  · exact False.elim h
  · exact False.elim h
  · exact False.elim h
  · obtain ⟨v, H', os, bare, un, hok', r', q⟩ := h
    have q' : v = .bl true := q
    subst q'
    obtain rfl : u = Value.bool true := r'
    -- each object of the head: kept, or a table that has grown
    have each : ∀ b o, s1.heap.get? b = some o → s'.heap.get? b = some o ∨ (b ∈ cs.map (fun p => p.2.1) ∧ ∃ more : Array Value, s'.heap.get? b = some { cls := .none, data := .fields more }) := fun b o e => by
      cases q : H b with
      | none => exact .inl (un.keep b o e q (fun z => none_in z) (fun z => none_in z))
      | some u =>
        rcases kinds b u q with ⟨z1, z2⟩ | ⟨z1, _, z3⟩
        · subst z2
          obtain ⟨more, z⟩ := un.tbls b #[] q
          exact .inr ⟨z1, _, hok' b _ z⟩
        · subst z1 z3
          have z := un.frzs b _ _ q
          obtain ⟨e2, _⟩ := hok' b _ z
          rw [ha] at e
          cases e
          exact .inl e2
    refine ⟨rfl, ⟨fun b o e => ?_, fun b o e => ?_⟩, os, bare⟩
    · rcases each b o e with z | ⟨z, more, hm⟩
      · exact .inl z
      · obtain ⟨p, hp, rfl⟩ := List.mem_map.mp z
        rw [hT p hp] at e
        cases e
        exact .inr (.inl ⟨((hC p hp).tab (hT p hp)).isCodeTable, rfl, #[], more, rfl, by rw [Array.empty_append]; exact hm⟩)
    · rcases each b o e with z | ⟨_, more, hm⟩
      · exact ⟨o, z⟩
      · exact ⟨_, hm⟩
/-- the goal that k_head leaves, from the law's promise over data -/
theorem walk_g {l : PySem.W.OpenLaw} {n k : Nat} {q : Program} {loose : List Str} {XP : (Str → Option Value) → Heap → Prop} {YP : World → Heap → Prop} {d : DefRec} {K : Params → PySem.W.Frag} {G : Gam → List D → Wp D}
    (hn : l.most = some n) (hn2 : n ≤ sizeLine) (hdf : d.params.defaults = []) (hr : Room k callerA)
    (hY : ∀ (w : World) (h : Heap), YP w h → (K w.params).In h)
    (F : ∀ (w : World) (mg : Str → Option Value) (fa : Addr) (h : Heap), YP w h → (K w.params).In h → h.Ns mainGlobals mg → mg d.name = some (.ref fa) →
      ∃ (cs : Tabls) (Γ : Gam), (∀ p ∈ cs, h.get? p.2.1 = some { cls := .none, data := .fields #[] }) ∧ (∀ p ∈ cs, (K w.params).lookup p.2.1 = none) ∧ (∀ p ∈ cs, PySem.W.CodeHd h p.1 p.2.1) ∧
        ∀ base : Heap, (K w.params).In base → base.Ns mainGlobals mg → TabsB base mg cs → @Fn (tnOf cs) Γ l.prog w (K w.params) mg base d.name k 1 (G Γ))
    (hsp : ∀ (Γ : Gam) (ns : List Int), ns.length ≤ n → G Γ [.scr ns] ⟨0, fun _ => none⟩ (fun d _ => d = .bl true) fun _ _ => False) :
    PySem.W.WalkO q loose XP YP l.row.toRowW d [] (fun f vs => PySem.call f vs) := by
  refine Att.attach_call hn hdf fun w s₀ s₁ mg mb fa o pm cd doc a vs ns G Y ho hd hcd hmg hobj hints hlen hg => ?_
  have KX := hY w _ Y
  obtain ⟨cs, Γ, hT, nT, hC, hF⟩ := F w mg fa _ Y KX G.T.g hmg
  exact law_g KX G.T.g G.T.b G.T.builtins G.T.nolimit hg G.T.bmain hT nT hC hobj hints (Nat.le_trans hlen hn2) hr hmg hF (hsp Γ ns hlen)
end OE

namespace OE
open PySem PySem.Spec L2
variable [TN]
theorem unit64 {k : Nat} {A : Around} (r : Room k A) : A.units + 64 < cLine := by have := r.un; omega
theorem unit1 {k : Nat} {A : Around} (r : Room k A) : A.units + 1 < cLine := by have := r.un; omega
/-- a class of the package: raised, caught -/
def ExG (Γ : Gam) (P : Program) (K : PySem.W.Frag) (mg : Str → Option Value) (name : Str) : Prop := ∃ C, Γ name = some C ∧ Ex1 P K mg name C
def ExG0 (Γ : Gam) (P : Program) (K : PySem.W.Frag) (mg : Str → Option Value) (name : Str) : Prop := ∃ C, Γ name = some C ∧ Ex0 P K mg name C
def CatchG (Γ : Gam) (K : PySem.W.Frag) (mg : Str → Option Value) (name : Str) (mt : Str → Bool) : Prop := ∃ cv, mg name = some cv ∧ ∀ nm C, Γ nm = some C → PySem.W.exmOne K (.ref C) cv = some (mt nm)
section
variable {Γ : Gam} {X : Cx} {W : WX} {a b c : Expr} {ta tb tc : Ev → Wp D} {pos : Pos} {name : Str}
theorem d_cint {x : Str} {i : Int} (hm : ∃ t, X.mg x = some (.int i t)) (hg : Gl X x := by rfl) (hd : (x == ("__debug__" : Str)) = false := by decide) : DE Γ X W (.Name x pos) (tconst (.int i)) := by
  obtain ⟨t, hm⟩ := hm
  exact d_gint hg hm hd
theorem d_cstr {x y : Str} (hm : ∃ t, X.mg x = some (.str y t)) (hg : Gl X x := by rfl) (hd : (x == ("__debug__" : Str)) = false := by decide) : DE Γ X W (.Name x pos) (tconst (.str y)) := by
  obtain ⟨t, hm⟩ := hm
  exact d_gstr hg hm hd
theorem ds_raiseG {t : Ev → Wp (List D)} {p pos2 : Pos} {k : Nat} (T : ExG Γ X.prog X.K X.mg name) (hr : Room k X.A) (tk : Takes X W) (ha : DA Γ X W [a] t) (hc : X.calm = true := by rfl) (hg : Gl X name := by rfl) (hdb : (name == ("__debug__" : Str)) = false := by decide)
    (he : starEach (a :: []) X.env = (false, eval a X.env) :: starEach [] X.env := by rfl) (hpl : (backTo pos (starEach [] X.env)).any (·.1) = false := by rfl) :
    DS Γ X W (.Raise (some (.Call (.Name name p) [a] [] pos)) none pos2) (tfail1 name t) := by
  obtain ⟨C, hC, T⟩ := T
  exact ds_raise T hC hr tk ha hc hg hdb he hpl
theorem ds_raise0G {p pos2 : Pos} {k : Nat} (T : ExG0 Γ X.prog X.K X.mg name) (hr : Room k X.A) (tk : Takes X W) (hc : X.calm = true := by rfl) (hg : Gl X name := by rfl) (hdb : (name == ("__debug__" : Str)) = false := by decide) :
    DS Γ X W (.Raise (some (.Call (.Name name p) [] [] pos)) none pos2) (tfail0 name) := by
  obtain ⟨C, hC, T⟩ := T
  exact ds_raise0 T hC hr tk hc hg hdb
variable {pos' np : Pos} {x n : Str} {suite : List Stmt} {b₀ : Stmt} {su : Ev → Wp Out} {mt : Str → Bool}
theorem ds_trySetG (i j : Nat) {y : Str} {py p1 : Pos} (hN : X.N.Nodup) (hc : CatchG Γ X.K X.mg x mt) (tk : Takes X W)
    (ha : ∀ (W : WX) (pn : List (Addr × Obj)) (xe : Value → Shared → Prop), Takes (X.tr pn xe) W → PassesOwn (model X.prog X.w) X.A X.env xe → DE Γ (X.tr pn xe) W a ta)
    (hsu : ∀ (a : Addr) (pn : List (Addr × Obj)), DB Γ (X.suite a pn) W0 (b₀ :: suite) su) (hgx : Gl X x := by rfl) (hdx : (x == ("__debug__" : Str)) = false := by decide)
    (hex : X.ex = [] := by rfl) (hs : X.stack = X.env :: X.outer := by rfl) (hf : X.env.frame = some X.env.locals := by rfl) (hi : X.N[i]? = some n := by rfl) (hln : X.env.kindOf n = some .local := by rfl)
    (hj : X.N[j]? = some y := by rfl) (hx : Loc X.env.scope y := by first | exact Or.inl rfl | exact Or.inr rfl) (hsw : swapsWith a (some (.Name y py)) p1.line X.env = pure false := by rfl)
    (hfy : X.fn y = true ∨ X.env.scope.names.lookup y = some .local := by first | exact .inl rfl | exact .inr rfl) :
    DS Γ X W (.Try [.Assign [.Name y py] a p1] [.ExceptHandler (some (.Name x np)) (some n) (b₀ :: suite) pos'] [] [] pos) (ttry Γ mt i (tset j ta) su) := by
  obtain ⟨cv, h1, h2⟩ := hc
  exact ds_trySet i j hN ⟨hgx, hdx, .inl h1⟩ h2 tk ha hsu hex hs hf hi hln hj hx hsw hfy
theorem ds_tryRetG (i : Nat) {p1 : Pos} (hN : X.N.Nodup) (hc : CatchG Γ X.K X.mg x mt) (tk : Takes X W)
    (ha : ∀ (W : WX) (pn : List (Addr × Obj)) (xe : Value → Shared → Prop), Takes (X.tr pn xe) W → PassesOwn (model X.prog X.w) X.A X.env xe → DE Γ (X.tr pn xe) W a ta)
    (hsu : ∀ (a : Addr) (pn : List (Addr × Obj)), DB Γ (X.suite a pn) W0 (b₀ :: suite) su) (hgx : Gl X x := by rfl) (hdx : (x == ("__debug__" : Str)) = false := by decide)
    (hex : X.ex = [] := by rfl) (hs : X.stack = X.env :: X.outer := by rfl) (hf : X.env.frame = some X.env.locals := by rfl) (hi : X.N[i]? = some n := by rfl) (hln : X.env.kindOf n = some .local := by rfl) :
    DS Γ X W (.Try [.Return (some a) p1] [.ExceptHandler (some (.Name x np)) (some n) (b₀ :: suite) pos'] [] [] pos) (ttry Γ mt i (tret ta) su) := by
  obtain ⟨cv, h1, h2⟩ := hc
  exact ds_tryRet i hN ⟨hgx, hdx, .inl h1⟩ h2 tk ha hsu hex hs hf hi hln
end
/-- an error of the class at C, where the clause names the class at S -/
theorem exm_of {K : PySem.W.Frag} {C S : Addr} {b : Bool} (h1 : PySem.W.subIn K (.ref S) (.type "BaseException") = some true) (h2 : PySem.W.isClsIn K S = true) (h3 : PySem.W.typeIn K (.ref S) = some (.type "type")) (h4 : PySem.W.subIn K (.ref C) (.ref S) = some b) :
    PySem.W.exmOne K (.ref C) (.ref S) = some b := by
  have e1 : (PySem.W.subIn K (.ref S) (.type "BaseException") == some true) = true := by rw [h1] <;> rfl
  have h2' : (PySem.W.clsIn K S).isSome = true := h2
  have e2 : ((PySem.W.clsIn K S).isSome && PySem.W.typeIn K (.ref S) == some (.type "type")) = true := by rw [h2', h3] <;> rfl
  show (if (PySem.W.subIn K (.ref S) (.type "BaseException") == some true) = true then (if ((PySem.W.clsIn K S).isSome && PySem.W.typeIn K (.ref S) == some (.type "type")) = true then PySem.W.subIn K (.ref C) (.ref S) else none) else none) = some b
  rw [if_pos e1, if_pos e2]
  exact h4
end OE

namespace OE
open PySem PySem.Spec L2
variable [TN]
/-! ### data that can be shown -/
/-- shown in little: its leaves, its size, its depth -/
structure Ok (b e : Nat) (d : D) : Prop where
  plain : d.plain = true
  show' : d.py.showable = true
  short : d.py.leavesShort 2000 = true
  bulk : d.py.bulk ≤ b
  depth : d.py.depth ≤ e
theorem Ok.mono {b e b' e' : Nat} {d : D} (h : Ok b e d) (hb : b ≤ b') (he : e ≤ e') : Ok b' e' d := ⟨h.plain, h.show', h.short, Nat.le_trans h.bulk hb, Nat.le_trans h.depth he⟩
theorem Ok.repr {b e : Nat} {d : D} (h : Ok b e d) (hb : b ≤ 8000) (he : e ≤ 60) : reprOk d := by
  refine ⟨h.plain, h.show', ?_, Nat.le_trans h.depth he⟩
  have z := PyData.shown_le_bulk 2000 (by decide) d.py h.short
  have := h.bulk
  rw [sizeLine_eq]
  omega
theorem ok_non : Ok 0 0 .non := ⟨rfl, rfl, rfl, Nat.le_refl _, Nat.le_refl _⟩
theorem ok_bl (b : Bool) : Ok 0 0 (.bl b) := ⟨rfl, rfl, rfl, Nat.le_refl _, Nat.le_refl _⟩
theorem ok_int {i : Int} (h : i.natAbs.log2 < 1900) : Ok 0 0 (.int i) := by
  refine ⟨by rfl, ?_, ?_, Nat.le_refl _, Nat.le_refl _⟩
  · show decide (i.natAbs.log2 < 1920) = true
    exact decide_eq_true (by omega)
  · show decide ((PyData.shown (.int i)).length ≤ 2000) = true
    refine decide_eq_true ?_
    have z := int_text_length_le (a := i) (k := 1900) (by decide) h
    have e : (PyData.shown (.int i)).length = (toString i).length := by
      show (Str.ofString (toString i)).length = _
      exact ofString_length _
    rw [e]; omega
theorem ok_int' {i : Int} (h : i.natAbs < 2 ^ 1900) : Ok 0 0 (.int i) := ok_int (by
  by_cases z : i.natAbs = 0
  · rw [z]; decide
  · exact (Nat.log2_lt z).mpr h)
def AllOk (b e : Nat) (l : List D) : Prop := ∀ x ∈ l, Ok b e x
theorem AllOk.nil {b e : Nat} : AllOk b e [] := fun _ h => nomatch h
theorem AllOk.cons {b e : Nat} {d : D} {l : List D} (h : Ok b e d) (g : AllOk b e l) : AllOk b e (d :: l) := fun x hx => by
  rcases List.mem_cons.mp hx with z | z
  · rw [z]; exact h
  · exact g x z
theorem AllOk.append {b e : Nat} {l m : List D} (h : AllOk b e l) (g : AllOk b e m) : AllOk b e (l ++ m) := fun x hx => (List.mem_append.mp hx).elim (h x) (g x)
theorem AllOk.take {b e : Nat} {l : List D} (h : AllOk b e l) (n : Nat) : AllOk b e (l.take n) := fun x hx => h x (List.mem_of_mem_take hx)
theorem AllOk.drop {b e : Nat} {l : List D} (h : AllOk b e l) (n : Nat) : AllOk b e (l.drop n) := fun x hx => h x (List.mem_of_mem_drop hx)
theorem AllOk.cut {b e : Nat} {l : List D} (h : AllOk b e l) (lo hi : Option Int) : AllOk b e (cut l lo hi) := fun x hx => by
  unfold OE.cut at hx
  first
    | exact h x (List.mem_of_mem_take (List.mem_of_mem_drop hx))
    | exact h x (List.mem_of_mem_drop (List.mem_of_mem_take hx))
theorem all_parts {b e : Nat} : ∀ {l : List D}, AllOk b e l → D.plainAll l = true ∧ PyData.showableAll (D.pyAll l) = true ∧ PyData.leavesShortAll 2000 (D.pyAll l) = true ∧ PyData.bulkAll (D.pyAll l) ≤ l.length * (b + 1) ∧ PyData.depthAll (D.pyAll l) ≤ e
  | [], _ => ⟨rfl, rfl, rfl, Nat.zero_le _, Nat.zero_le _⟩
  | d :: l, h => by
    have hd := h d List.mem_cons_self
    obtain ⟨h1, h2, h3, h4, h5⟩ := all_parts (l := l) fun x hx => h x (List.mem_cons_of_mem _ hx)
    refine ⟨?_, ?_, ?_, ?_, ?_⟩
    · rw [D.plainAll, hd.plain, h1]; rfl
    · rw [D.pyAll, PyData.showableAll, hd.show', h2]; rfl
    · rw [D.pyAll, PyData.leavesShortAll, hd.short, h3]; rfl
    · rw [D.pyAll, PyData.bulkAll, List.length_cons, Nat.add_mul]
      have := hd.bulk
      omega
    · rw [D.pyAll, PyData.depthAll]
      have := hd.depth
      exact Nat.max_le.mpr ⟨this, h5⟩
theorem ok_tup {b e m : Nat} {l : List D} (h : AllOk b e l) (hl : l.length ≤ m) : Ok (m * (b + 1)) (e + 1) (.tup l) := by
  obtain ⟨h1, h2, h3, h4, h5⟩ := all_parts h
  have z : l.length * (b + 1) ≤ m * (b + 1) := Nat.mul_le_mul_right _ hl
  refine ⟨?_, ?_, ?_, ?_, ?_⟩
  · rw [D.plain]; exact h1
  · rw [D.py, PyData.showable]; exact h2
  · rw [D.py, PyData.leavesShort]; exact h3
  · rw [D.py, PyData.bulk]; omega
  · rw [D.py, PyData.depth]; omega
theorem ok_lst {b e m : Nat} {l : List D} (h : AllOk b e l) (hl : l.length ≤ m) : Ok (m * (b + 1)) (e + 1) (.lst l) := by
  obtain ⟨h1, h2, h3, h4, h5⟩ := all_parts h
  have z : l.length * (b + 1) ≤ m * (b + 1) := Nat.mul_le_mul_right _ hl
  refine ⟨?_, ?_, ?_, ?_, ?_⟩
  · rw [D.plain]; exact h1
  · rw [D.py, PyData.showable]; exact h2
  · rw [D.py, PyData.leavesShort]; exact h3
  · rw [D.py, PyData.bulk]; omega
  · rw [D.py, PyData.depth]; omega
def okB (b e : Nat) (d : D) : Bool := d.plain && d.py.showable && d.py.leavesShort 2000 && decide (d.py.bulk ≤ b) && decide (d.py.depth ≤ e)
theorem ok_of {b e : Nat} {d : D} (h : okB b e d = true) : Ok b e d := by
  unfold okB at h
  simp only [Bool.and_eq_true, decide_eq_true_eq] at h
  exact ⟨h.1.1.1.1, h.1.1.1.2, h.1.1.2, h.1.2, h.2⟩
end OE

set_option maxHeartbeats 4000000
namespace OE
open PySem PySem.Spec L2
variable [TN]
/-! ### readings, step by step: what stands behind is kept folded -/
section
variable {α β : Type} {a b : α} {l m : List α}
theorem w_g0 : (a :: l)[0]? = some a := List.getElem?_cons_zero
theorem w_gs {i : Nat} : (a :: l)[i + 1]? = l[i]? := List.getElem?_cons_succ
theorem w_s0 : (a :: l).set 0 b = b :: l := List.set_cons_zero ..
theorem w_ss {i : Nat} : (a :: l).set (i + 1) b = a :: l.set i b := List.set_cons_succ ..
theorem w_some : (some a = some b) = (a = b) := Option.some.injEq a b
theorem w_ex {p : α → Prop} : (∃ x, a = x ∧ p x) ↔ p a := exists_eq_left'
theorem w_lc : (a :: l).length = l.length + 1 := List.length_cons
theorem w_ln : ([] : List α).length = 0 := List.length_nil
theorem w_at {p : Prop} : (p ∧ True) = p := and_true p
theorem w_ta {p : Prop} : (True ∧ p) = p := true_and p
theorem w_nt : (!true) = false := Bool.not_true
theorem w_nf : (!false) = true := Bool.not_false
theorem w_it {_ : Decidable True} {c d : α} : (if True then c else d) = c := if_true ..
theorem w_if {_ : Decidable False} {c d : α} : (if False then c else d) = d := if_false ..
theorem w_itP {_ : Decidable True} {c d : Prop} : (if True then c else d) = c := if_true ..
theorem w_ifP {_ : Decidable False} {c d : Prop} : (if False then c else d) = d := if_false ..
theorem w_ft : (false = true) = False := Bool.false_eq_true
theorem w_mc {f : α → β} : (a :: l).map f = f a :: l.map f := List.map_cons
theorem w_mn {f : α → β} : ([] : List α).map f = [] := List.map_nil
theorem w_rs {n : Nat} : List.replicate (n + 1) a = a :: List.replicate n a := List.replicate_succ
theorem w_r0 : List.replicate 0 a = [] := List.replicate_zero
theorem w_ca : (a :: l) ++ m = a :: (l ++ m) := List.cons_append
theorem w_na : [] ++ m = m := List.nil_append ..
theorem w_za (n : Nat) : 0 + n = n := Nat.zero_add n
theorem w_sb (n : Nat) : n - n = 0 := Nat.sub_self n
theorem w_sz (n : Nat) : n - 0 = n := Nat.sub_zero n
end
section
variable {n : S} {x : Exn → S → Prop} {ρ : Ev} {d : D} {i j : Nat} {f : D → D → Wp D} {ta tb tc : Ev → Wp D} {tl : Ev → Wp (List D)} {c c' : Ev → Wp Bool} {t u : Ev → Wp Out} {q : D → S → Prop} {qo : Out → S → Prop} {qb : Bool → S → Prop} {ql : List D → S → Prop}
def kSeq (u : Ev → Wp Out) (q : Out → S → Prop) (x : Exn → S → Prop) (o : Out) (n : S) : Prop := match o with
  | .nx ρ => u ρ n q x
  | .rt d => q (.rt d) n
  | .bk ρ => q (.bk ρ) n
  | .ct ρ => q (.ct ρ) n
theorem s_then : tthen t u ρ n qo x = t ρ n (kSeq u qo x) x := congrArg (fun k => t ρ n k x) (by funext o m; cases o <;> rfl)
theorem k_seqN {ρ : Ev} : kSeq u qo x (.nx ρ) n = u ρ n qo x := rfl
theorem k_seqR : kSeq u qo x (.rt d) n = qo (.rt d) n := rfl
theorem k_seqB {ρ : Ev} : kSeq u qo x (.bk ρ) n = qo (.bk ρ) n := rfl
theorem k_seqC {ρ : Ev} : kSeq u qo x (.ct ρ) n = qo (.ct ρ) n := rfl
theorem s_next : tnext ρ n qo x = qo (.nx ρ) n := rfl
def kRet (q : Out → S → Prop) (d : D) (n : S) : Prop := q (.rt d) n
theorem s_ret : tret ta ρ n qo x = ta ρ n (kRet qo) x := rfl
theorem k_ret : kRet qo d n = qo (.rt d) n := rfl
def kSet (i : Nat) (ρ : Ev) (q : Out → S → Prop) (d : D) (n : S) : Prop := q (.nx (ρ.set i (some d))) n
theorem s_set : tset i ta ρ n qo x = ta ρ n (kSet i ρ qo) x := rfl
theorem k_set : kSet i ρ qo d n = qo (.nx (ρ.set i (some d))) n := rfl
def kIte (t u : Ev → Wp Out) (ρ : Ev) (q : Out → S → Prop) (x : Exn → S → Prop) (b : Bool) (n : S) : Prop := if b = true then t ρ n q x else u ρ n q x
theorem s_ite : tite c t u ρ n qo x = c ρ n (kIte t u ρ qo x) x := congrArg (fun k => c ρ n k x) (by funext b m; unfold kIte; split <;> simp_all)
theorem k_ite {b : Bool} : kIte t u ρ qo x b n = if b = true then t ρ n qo x else u ρ n qo x := rfl
theorem o_rt : outQ q (.rt d) n = q d n := rfl
theorem o_nx : outQ q (.nx ρ) n = q .non n := rfl
theorem s_run {N : Nat} {ds : List D} : runDef N t ds n q x = t (startE N ds) n (outQ q) x := rfl
theorem s_var : tvar i ρ n q x = ∃ d, ρ[i]? = some (some d) ∧ q d n := rfl
theorem s_const : tconst d ρ n q x = q d n := rfl
theorem s_nil : tnil ρ n ql x = ql [] n := rfl
def kCons (tl : Ev → Wp (List D)) (ρ : Ev) (q : List D → S → Prop) (x : Exn → S → Prop) (d : D) (n : S) : Prop := tl ρ n (fun ds m => q (d :: ds) m) x
def kCons2 (d : D) (q : List D → S → Prop) (ds : List D) (n : S) : Prop := q (d :: ds) n
theorem s_cons : tcons ta tl ρ n ql x = ta ρ n (kCons tl ρ ql x) x := rfl
theorem k_cons : kCons tl ρ ql x d n = tl ρ n (kCons2 d ql) x := rfl
theorem k_cons2 {ds : List D} : kCons2 d ql ds n = ql (d :: ds) n := rfl
def kTup (q : D → S → Prop) (ds : List D) (n : S) : Prop := ds.length ≤ 1000000 ∧ q (.tup ds) n
def kLst (q : D → S → Prop) (ds : List D) (n : S) : Prop := ds.length ≤ 1000000 ∧ q (.lst ds) n
theorem s_tup : ttup tl ρ n q x = tl ρ n (kTup q) x := rfl
theorem s_lst : tlst tl ρ n q x = tl ρ n (kLst q) x := rfl
theorem k_tup {ds : List D} : kTup q ds n = (ds.length ≤ 1000000 ∧ q (.tup ds) n) := rfl
theorem k_lst {ds : List D} : kLst q ds n = (ds.length ≤ 1000000 ∧ q (.lst ds) n) := rfl
def kBin (f : D → D → Wp D) (tb : Ev → Wp D) (ρ : Ev) (q : D → S → Prop) (x : Exn → S → Prop) (a : D) (n : S) : Prop := tb ρ n (fun b m => f a b m q x) x
def kBin2 (f : D → D → Wp D) (a : D) (q : D → S → Prop) (x : Exn → S → Prop) (b : D) (n : S) : Prop := f a b n q x
theorem s_bin : tbin f ta tb ρ n q x = ta ρ n (kBin f tb ρ q x) x := rfl
theorem k_bin {a : D} : kBin f tb ρ q x a n = tb ρ n (kBin2 f a q x) x := rfl
theorem k_bin2 {a b : D} : kBin2 f a q x b n = f a b n q x := rfl
def kAp (f : D → Wp D) (q : D → S → Prop) (x : Exn → S → Prop) (a : D) (n : S) : Prop := f a n q x
theorem s_bind {f : D → Wp D} : tbind f ta ρ n q x = ta ρ n (kAp f q x) x := rfl
theorem k_ap {f : D → Wp D} {a : D} : kAp f q x a n = f a n q x := rfl
def kApL (f : List D → Wp D) (q : D → S → Prop) (x : Exn → S → Prop) (a : List D) (n : S) : Prop := f a n q x
theorem s_call {f : List D → Wp D} : tcall f tl ρ n q x = tl ρ n (kApL f q x) x := rfl
theorem k_apL {f : List D → Wp D} {a : List D} : kApL f q x a n = f a n q x := rfl
def kFn (m : Nat) (F : List D → Wp D) (q : D → S → Prop) (x : Exn → S → Prop) (a : List D) (n : S) : Prop := a.length = m ∧ F a n q x
theorem s_fn {m : Nat} {F : List D → Wp D} : tfn m F tl ρ n q x = tl ρ n (kFn m F q x) x := rfl
theorem k_fn {m : Nat} {F : List D → Wp D} {a : List D} : kFn m F q x a n = (a.length = m ∧ F a n q x) := rfl
def kTest (q : Bool → S → Prop) (x : Exn → S → Prop) (d : D) (n : S) : Prop := ttest (tconst d) [] n q x
theorem s_test : ttest ta ρ n qb x = ta ρ n (kTest qb x) x := rfl
theorem k_test {b : Bool} : kTest qb x (.bl b) n = qb b n := rfl
def kAnd (u : Ev → Wp Bool) (ρ : Ev) (q : Bool → S → Prop) (x : Exn → S → Prop) (b : Bool) (n : S) : Prop := if b = true then u ρ n q x else q false n
theorem s_and : tand c c' ρ n qb x = c ρ n (kAnd c' ρ qb x) x := congrArg (fun k => c ρ n k x) (by funext b m; unfold kAnd; cases b <;> rfl)
theorem k_and {b : Bool} : kAnd c' ρ qb x b n = if b = true then c' ρ n qb x else qb false n := rfl
def kOr (u : Ev → Wp Bool) (ρ : Ev) (q : Bool → S → Prop) (x : Exn → S → Prop) (b : Bool) (n : S) : Prop := if b = true then q true n else u ρ n q x
theorem s_or : tor c c' ρ n qb x = c ρ n (kOr c' ρ qb x) x := congrArg (fun k => c ρ n k x) (by funext b m; unfold kOr; cases b <;> rfl)
theorem k_or {b : Bool} : kOr c' ρ qb x b n = if b = true then qb true n else c' ρ n qb x := rfl
def kNot (q : Bool → S → Prop) (b : Bool) (n : S) : Prop := q (!b) n
theorem s_not : tnot c ρ n qb x = c ρ n (kNot qb) x := rfl
theorem k_not {b : Bool} : kNot qb b n = qb (!b) n := rfl
def kAndV (u : Ev → Wp D) (ρ : Ev) (q : D → S → Prop) (x : Exn → S → Prop) (d : D) (n : S) : Prop := tandV (tconst d) (fun _ => u ρ) [] n q x
theorem s_andV : tandV ta tb ρ n q x = ta ρ n (kAndV tb ρ q x) x := rfl
theorem k_andV {b : Bool} : kAndV tb ρ q x (.bl b) n = if b = true then tb ρ n q x else q (.bl false) n := by cases b <;> rfl
def kOrV (u : Ev → Wp D) (ρ : Ev) (q : D → S → Prop) (x : Exn → S → Prop) (d : D) (n : S) : Prop := torV (tconst d) (fun _ => u ρ) [] n q x
theorem s_orV : torV ta tb ρ n q x = ta ρ n (kOrV tb ρ q x) x := rfl
theorem k_orV {b : Bool} : kOrV tb ρ q x (.bl b) n = if b = true then q (.bl true) n else tb ρ n q x := by cases b <;> rfl
def kNotV (q : D → S → Prop) (x : Exn → S → Prop) (d : D) (n : S) : Prop := tnotV (tconst d) [] n q x
theorem s_notV : tnotV ta ρ n q x = ta ρ n (kNotV q x) x := rfl
theorem k_notV {b : Bool} : kNotV q x (.bl b) n = q (.bl (!b)) n := rfl
def kIf (t u : Ev → Wp D) (ρ : Ev) (q : D → S → Prop) (x : Exn → S → Prop) (b : Bool) (n : S) : Prop := if b = true then t ρ n q x else u ρ n q x
theorem s_if : tif c ta tb ρ n q x = c ρ n (kIf ta tb ρ q x) x := congrArg (fun k => c ρ n k x) (by funext b m; unfold kIf; cases b <;> rfl)
theorem k_if {b : Bool} : kIf ta tb ρ q x b n = if b = true then ta ρ n q x else tb ρ n q x := rfl
def kIsN (q : D → S → Prop) (d : D) (n : S) : Prop := q (.bl (isNon d)) n
theorem s_isN : tisN ta ρ n q x = ta ρ n (kIsN q) x := rfl
theorem k_isN : kIsN q d n = q (.bl (isNon d)) n := rfl
def kNoN (q : D → S → Prop) (d : D) (n : S) : Prop := q (.bl (!isNon d)) n
theorem s_noN : tnotN ta ρ n q x = ta ρ n (kNoN q) x := rfl
theorem k_noN : kNoN q d n = q (.bl (!isNon d)) n := rfl
def kCh1 (f f' : D → D → Wp D) (tb tc : Ev → Wp D) (ρ : Ev) (q : D → S → Prop) (x : Exn → S → Prop) (a : D) (n : S) : Prop := tb ρ n (fun b m => tchain f f' (tconst a) (tconst b) (fun _ => tc ρ) [] m q x) x
def kCh2 (f f' : D → D → Wp D) (a : D) (tc : Ev → Wp D) (ρ : Ev) (q : D → S → Prop) (x : Exn → S → Prop) (b : D) (n : S) : Prop := tchain f f' (tconst a) (tconst b) (fun _ => tc ρ) [] n q x
def kCh3 (f' : D → D → Wp D) (b : D) (tc : Ev → Wp D) (ρ : Ev) (q : D → S → Prop) (x : Exn → S → Prop) (z : D) (n : S) : Prop := match z with
  | .bl true => tc ρ n (kBin2 f' b q x) x
  | .bl false => q (.bl false) n
  | _ => False
theorem s_chain {f' : D → D → Wp D} : tchain f f' ta tb tc ρ n q x = ta ρ n (kCh1 f f' tb tc ρ q x) x := rfl
theorem k_ch1 {f' : D → D → Wp D} {a : D} : kCh1 f f' tb tc ρ q x a n = tb ρ n (kCh2 f f' a tc ρ q x) x := rfl
theorem k_ch2 {f' : D → D → Wp D} {a b : D} : kCh2 f f' a tc ρ q x b n = f a b n (kCh3 f' b tc ρ q x) x := congrArg (fun k => f a b n k x) (by funext z m; unfold kCh3; split <;> first | rfl | (rename_i h1 h2; cases z <;> first | rfl | (rename_i bb; cases bb <;> simp_all)))
theorem k_ch3 {f' : D → D → Wp D} {a : D} {b : Bool} : kCh3 f' a tc ρ q x (.bl b) n = if b = true then tc ρ n (kBin2 f' a q x) x else q (.bl false) n := by cases b <;> rfl
def kIsi (T : String) (q : D → S → Prop) (d : D) (n : S) : Prop := d.isE = false ∧ q (.bl (isiB T d)) n
theorem s_isi {T : String} : tisi T ta ρ n q x = ta ρ n (kIsi T q) x := rfl
theorem k_isi {T : String} : kIsi T q d n = (d.isE = false ∧ q (.bl (isiB T d)) n) := rfl
def kPart (q : Option Int → S → Prop) (x : Exn → S → Prop) (d : D) (n : S) : Prop := tpart (tconst d) [] n q x
theorem s_part {q : Option Int → S → Prop} : tpart ta ρ n q x = ta ρ n (kPart q x) x := rfl
theorem k_part {q : Option Int → S → Prop} {z : Int} : kPart q x (.int z) n = q (some z) n := rfl
def kSl1 (l h : Ev → Wp (Option Int)) (ρ : Ev) (q : D → S → Prop) (x : Exn → S → Prop) (d : D) (n : S) : Prop := l ρ n (fun lo m => h ρ m (fun hi k => fSl d lo hi k q x) x) x
def kSl2 (h : Ev → Wp (Option Int)) (ρ : Ev) (q : D → S → Prop) (x : Exn → S → Prop) (d : D) (lo : Option Int) (n : S) : Prop := h ρ n (fun hi k => fSl d lo hi k q x) x
def kSl3 (q : D → S → Prop) (x : Exn → S → Prop) (d : D) (lo hi : Option Int) (n : S) : Prop := fSl d lo hi n q x
theorem s_slice {l h : Ev → Wp (Option Int)} : tslice ta l h ρ n q x = ta ρ n (kSl1 l h ρ q x) x := rfl
theorem k_sl1 {l h : Ev → Wp (Option Int)} : kSl1 l h ρ q x d n = l ρ n (kSl2 h ρ q x d) x := rfl
theorem k_sl2 {h : Ev → Wp (Option Int)} {lo : Option Int} : kSl2 h ρ q x d lo n = h ρ n (kSl3 q x d lo) x := rfl
theorem k_sl3 {lo hi : Option Int} : kSl3 q x d lo hi n = fSl d lo hi n q x := rfl
theorem s_retO {α : Type} {a : α} {q : α → S → Prop} : (Wp.ret a : Wp α) n q x = q a n := rfl
theorem s_slL {l : List D} {lo hi : Option Int} : fSl (.lst l) lo hi n q x = q (.lst (cut l lo hi)) n := rfl
theorem s_slT {l : List D} {lo hi : Option Int} : fSl (.tup l) lo hi n q x = q (.tup (cut l lo hi)) n := rfl
theorem s_slS {l : List Int} {lo hi : Option Int} : fSl (.scr l) lo hi n q x = q (.lst ((cut l lo hi).map D.int)) n := rfl
def kItm (q : List D → S → Prop) (x : Exn → S → Prop) (d : D) (n : S) : Prop := items d n q x
theorem s_seq : tseq ta ρ n ql x = ta ρ n (kItm ql x) x := rfl
theorem k_itmL {l : List D} : kItm ql x (.lst l) n = ql l n := rfl
theorem k_itmT {l : List D} : kItm ql x (.tup l) n = ql l n := rfl
theorem k_itmS {l : List Int} : kItm ql x (.scr l) n = ql (l.map D.int) n := rfl
def kIts (f : List D → Wp (List D)) (q : List D → S → Prop) (x : Exn → S → Prop) (a : List D) (n : S) : Prop := f a n q x
theorem s_its {f : List D → Wp (List D)} : tits f tl ρ n ql x = tl ρ n (kIts f ql x) x := rfl
theorem k_its {f : List D → Wp (List D)} {a : List D} : kIts f ql x a n = f a n ql x := rfl
theorem s_rng1 {z : Int} : fRange1 [.int z] n ql x = ((-(2 ^ 62) ≤ z ∧ z < 2 ^ 62) ∧ ql (rangeD 0 z.toNat) n) := rfl
theorem s_rng2 {z w : Int} : fRange2 [.int z, .int w] n ql x = ((-(2 ^ 62) ≤ z ∧ z < 2 ^ 62 ∧ -(2 ^ 62) ≤ w ∧ w < 2 ^ 62) ∧ ql (rangeD z (w - z).toNat) n) := rfl
theorem s_enT {l : List D} : fEnum [.tup l] n ql x = ql (enumD 0 l) n := rfl
theorem s_enL {l : List D} : fEnum [.lst l] n ql x = ql (enumD 0 l) n := rfl
theorem s_zipL {l m : List D} : fZip [.lst l, .lst m] n ql x = ql (zipD l m) n := rfl
theorem s_zipT {l m : List D} : fZip [.tup l, .tup m] n ql x = ql (zipD l m) n := rfl
/-! loops -/
def kFor (g : D → Ev → Wp Ev) (t : Ev → Wp Out) (ρ : Ev) (q : Out → S → Prop) (x : Exn → S → Prop) (ds : List D) (n : S) : Prop := forW g t ds ρ n q x
theorem s_for {g : D → Ev → Wp Ev} : tfor tl g t ρ n qo x = tl ρ n (kFor g t ρ qo x) x := rfl
theorem k_for {g : D → Ev → Wp Ev} {ds : List D} : kFor g t ρ qo x ds n = forW g t ds ρ n qo x := rfl
theorem for_nil {g : D → Ev → Wp Ev} : forW g t [] ρ n qo x = qo (.nx ρ) n := rfl
def kTurn (g : D → Ev → Wp Ev) (t : Ev → Wp Out) (ds : List D) (q : Out → S → Prop) (x : Exn → S → Prop) (o : Out) (n : S) : Prop := match o with
  | .nx ρ => forW g t ds ρ n q x
  | .ct ρ => forW g t ds ρ n q x
  | .bk ρ => q (.nx ρ) n
  | .rt d => q (.rt d) n
def kGo (t : Ev → Wp Out) (k : Out → S → Prop) (x : Exn → S → Prop) (ρ : Ev) (n : S) : Prop := t ρ n k x
theorem for_cons {g : D → Ev → Wp Ev} {ds : List D} : forW g t (d :: ds) ρ n qo x = g d ρ n (kGo t (kTurn g t ds qo x) x) x := by
  show (g d ρ) n (fun ρ1 k => (t ρ1) k _ x) x = _
  refine congrArg (fun k => g d ρ n k x) (funext fun ρ1 => funext fun m => congrArg (fun k => t ρ1 m k x) (funext fun o => funext fun r => ?_))
  cases o <;> rfl
theorem k_go {k : Out → S → Prop} : kGo t k x ρ n = t ρ n k x := rfl
theorem k_tN {g : D → Ev → Wp Ev} {ds : List D} : kTurn g t ds qo x (.nx ρ) n = forW g t ds ρ n qo x := rfl
theorem k_tC {g : D → Ev → Wp Ev} {ds : List D} : kTurn g t ds qo x (.ct ρ) n = forW g t ds ρ n qo x := rfl
theorem k_tB {g : D → Ev → Wp Ev} {ds : List D} : kTurn g t ds qo x (.bk ρ) n = qo (.nx ρ) n := rfl
theorem k_tR {g : D → Ev → Wp Ev} {ds : List D} : kTurn g t ds qo x (.rt d) n = qo (.rt d) n := rfl
theorem g_name {q : Ev → S → Prop} : gname i d ρ n q x = q (ρ.set i (some d)) n := rfl
def kGs (gs : List D → Ev → Wp Ev) (ds : List D) (q : Ev → S → Prop) (x : Exn → S → Prop) (ρ : Ev) (n : S) : Prop := gs ds ρ n q x
theorem g_tup {gs : List D → Ev → Wp Ev} {l : List D} {m : Nat} {q : Ev → S → Prop} : gtup m gs (.tup l) ρ n q x = (l.length = m ∧ gs l ρ n q x) := rfl
theorem g_cons {g : D → Ev → Wp Ev} {gs : List D → Ev → Wp Ev} {ds : List D} {q : Ev → S → Prop} : gcons g gs (d :: ds) ρ n q x = g d ρ n (kGs gs ds q x) x := rfl
theorem k_gs {gs : List D → Ev → Wp Ev} {ds : List D} {q : Ev → S → Prop} : kGs gs ds q x ρ n = gs ds ρ n q x := rfl
theorem g_nil {q : Ev → S → Prop} : gnil [] ρ n q x = q ρ n := rfl
def kAsg (g : D → Ev → Wp Ev) (ρ : Ev) (q : Out → S → Prop) (x : Exn → S → Prop) (d : D) (n : S) : Prop := g d ρ n (fun ρ' m => q (.nx ρ') m) x
def kNx (q : Out → S → Prop) (ρ : Ev) (n : S) : Prop := q (.nx ρ) n
theorem s_asg {g : D → Ev → Wp Ev} : tasg ta g ρ n qo x = ta ρ n (kAsg g ρ qo x) x := rfl
theorem k_asg {g : D → Ev → Wp Ev} : kAsg g ρ qo x d n = g d ρ n (kNx qo) x := rfl
theorem k_nx : kNx qo ρ n = qo (.nx ρ) n := rfl
def kPar (i j : Nat) (ρ : Ev) (q : Out → S → Prop) (x : Exn → S → Prop) (ds : List D) (n : S) : Prop := tpar i j (fun _ => Wp.ret ds) ρ n q x
theorem s_par : tpar i j tl ρ n qo x = tl ρ n (kPar i j ρ qo x) x := rfl
theorem k_par {a b : D} : kPar i j ρ qo x [a, b] n = qo (.nx ((ρ.set i (some a)).set j (some b))) n := rfl
/-! comprehensions -/
def kLc (g : D → Ev → Wp Ev) (c : Ev → Wp Bool) (te : Ev → Wp D) (vs : List Nat) (ρ : Ev) (q : D → S → Prop) (ds : List D) (n : S) : Prop := ds.length ≤ 1000000 ∧ lcW g c te (wipeE ρ vs) ds n (fun ys m => q (.lst ys) m) (fun _ _ => False)
theorem s_lc {g : D → Ev → Wp Ev} {vs : List Nat} : tlc tl g c ta vs ρ n q x = tl ρ n (kLc g c ta vs ρ q) x := rfl
theorem k_lc {g : D → Ev → Wp Ev} {vs : List Nat} {ds : List D} : kLc g c ta vs ρ q ds n = (ds.length ≤ 1000000 ∧ lcW g c ta (wipeE ρ vs) ds n (fun ys m => q (.lst ys) m) (fun _ _ => False)) := rfl
/-- one turn of a comprehension -/
def lc1 (g : D → Ev → Wp Ev) (c : Ev → Wp Bool) (te : Ev → Wp D) (ρ : Ev) (d : D) (n : S) (k : Option D → S → Prop) : Prop :=
  g d ρ n (fun ρ1 m => c ρ1 m (fun b r => if b = true then te ρ1 r (fun y s => k (some y) s) (fun _ _ => False) else k none r) (fun _ _ => False)) (fun _ _ => False)
def kLc1 (c : Ev → Wp Bool) (te : Ev → Wp D) (k : Option D → S → Prop) (ρ : Ev) (n : S) : Prop := c ρ n (fun b r => if b = true then te ρ r (fun y s => k (some y) s) (fun _ _ => False) else k none r) (fun _ _ => False)
def kLc2 (te : Ev → Wp D) (k : Option D → S → Prop) (ρ : Ev) (b : Bool) (n : S) : Prop := if b = true then te ρ n (fun y s => k (some y) s) (fun _ _ => False) else k none n
def kSome (k : Option D → S → Prop) (y : D) (n : S) : Prop := k (some y) n
def xNo : Exn → S → Prop := fun _ _ => False
theorem s_lc1 {g : D → Ev → Wp Ev} {k : Option D → S → Prop} : lc1 g c ta ρ d n k = g d ρ n (kLc1 c ta k) xNo := rfl
theorem k_lc1 {k : Option D → S → Prop} : kLc1 c ta k ρ n = c ρ n (kLc2 ta k ρ) xNo := rfl
theorem k_lc2 {k : Option D → S → Prop} {b : Bool} : kLc2 ta k ρ b n = if b = true then ta ρ n (kSome k) xNo else k none n := rfl
theorem k_some {k : Option D → S → Prop} : kSome k d n = k (some d) n := rfl
theorem lc_cons {g : D → Ev → Wp Ev} {ds : List D} (h : lc1 g c ta ρ d n fun o m => lcW g c ta ρ ds m (fun ys r => ql (o.toList ++ ys) r) (fun _ _ => False)) : lcW g c ta ρ (d :: ds) n ql (fun _ _ => False) := by
  refine Eq.mp ?_ h
  refine congrArg (fun k => g d ρ n k (fun _ _ => False)) (funext fun ρ1 => funext fun m => congrArg (fun k => c ρ1 m k (fun _ _ => False)) (funext fun b => funext fun r => ?_))
  cases b <;> rfl
/-- a comprehension whose turns neither draw nor fail -/
theorem lc_pure {g : D → Ev → Wp Ev} {f : D → Option D} : ∀ {ds : List D} {n : S} {ql : List D → S → Prop}, (∀ d ∈ ds, ∀ (n : S) (k : Option D → S → Prop), k (f d) n → lc1 g c ta ρ d n k) → ql (ds.filterMap f) n → lcW g c ta ρ ds n ql (fun _ _ => False)
  | [], _, _, _, h => h
  | d :: ds, n, ql, hp, h => by
    refine lc_cons (hp d List.mem_cons_self n _ (lc_pure (fun e he => hp e (List.mem_cons_of_mem _ he)) ?_))
    rw [List.filterMap_cons] at h
    cases e : f d with
    | none => rw [e] at h; simpa using h
    | some y => rw [e] at h; simpa using h
/-- a comprehension whose turns draw: each adds something that is as P says -/
theorem lc_some {g : D → Ev → Wp Ev} {P : D → Prop} {m : Nat} {μ : Mu} : ∀ {ds : List D} {n : Nat} {ql : List D → S → Prop}, (∀ d ∈ ds, ∀ (r : Nat) (k : Option D → S → Prop), r ≤ n + ds.length * m → (∀ y s, P y → r ≤ s → s ≤ r + m → k (some y) ⟨s, μ⟩) → lc1 g c ta ρ d ⟨r, μ⟩ k) →
    (∀ ys s, (∀ y ∈ ys, P y) → ys.length = ds.length → n ≤ s → s ≤ n + ds.length * m → ql ys ⟨s, μ⟩) → lcW g c ta ρ ds ⟨n, μ⟩ ql (fun _ _ => False)
  | [], n, _, _, h => h [] n (fun _ z => nomatch z) rfl (Nat.le_refl _) (by simp)
  | d :: ds, n, ql, hp, h => by
    have e : (d :: ds).length * m = ds.length * m + m := by rw [List.length_cons, Nat.add_mul, Nat.one_mul]
    refine lc_cons (hp d List.mem_cons_self n _ (by omega) fun y s hy h1 h2 => lc_some (m := m) (fun e' he r k hr hk => hp e' (List.mem_cons_of_mem _ he) r k (by omega) hk) fun ys r hys hl h3 h4 => ?_)
    refine h (y :: ys) r (fun z hz => ?_) (by simp [hl]) (by omega) (by omega)
    rcases List.mem_cons.mp hz with q | q
    · rw [q]; exact hy
    · exact hys z q
/-! failing, trying -/
def kFail (name : Str) (x : Exn → S → Prop) (ds : List D) (n : S) : Prop := tfail1 name (fun _ => Wp.ret ds) [] n (fun _ _ => False) x
theorem s_fail {name : Str} : tfail1 name tl ρ n qo x = tl ρ n (kFail name x) x := congrArg (fun k => tl ρ n k x) (by funext ds m; unfold kFail tfail1; cases ds with | nil => rfl | cons a l => cases l <;> rfl)
theorem k_fail {name : Str} : kFail name x [d] n = x ⟨name, some d⟩ n := rfl
theorem s_fail0 {name : Str} : tfail0 name ρ n qo x = x ⟨name, none⟩ n := rfl
def kCatch (Γ : Gam) (mt : Str → Bool) (i : Nat) (su : Ev → Wp Out) (ρ : Ev) (q : Out → S → Prop) (x : Exn → S → Prop) (e : Exn) (n : S) : Prop :=
  if mt e.cls = true then ∀ C, Γ e.cls = some C → su (ρ.set i (some (.exn e.cls C e.arg.toList))) n (fun o n2 => q (o.unset i) n2) (fun _ _ => False) else x e n
theorem s_try {Γ : Gam} {mt : Str → Bool} : ttry Γ mt i t u ρ n qo x = t ρ n qo (kCatch Γ mt i u ρ qo x) := rfl
def kUn (i : Nat) (q : Out → S → Prop) (o : Out) (n : S) : Prop := q (o.unset i) n
theorem k_catch {Γ : Gam} {mt : Str → Bool} {e : Exn} (h : mt e.cls = true) : kCatch Γ mt i u ρ qo x e n = ∀ C, Γ e.cls = some C → u (ρ.set i (some (.exn e.cls C e.arg.toList))) n (kUn i qo) xNo := if_pos h
theorem k_catchN {Γ : Gam} {mt : Str → Bool} {e : Exn} (h : mt e.cls = false) : kCatch Γ mt i u ρ qo x e n = x e n := if_neg (by rw [h]; decide)
theorem k_unN : kUn i qo (.nx ρ) n = qo (.nx (ρ.set i none)) n := rfl
theorem k_unR : kUn i qo (.rt d) n = qo (.rt d) n := rfl
def kFld (Γ : Gam) (f : Str) (q : D → S → Prop) (x : Exn → S → Prop) (d : D) (n : S) : Prop := tfld Γ f (tconst d) [] n q x
theorem s_fld {Γ : Gam} {f : Str} : tfld Γ f ta ρ n q x = ta ρ n (kFld Γ f q x) x := rfl
theorem k_fld {Γ : Gam} {f nm : Str} {C : Addr} {v : D} : kFld Γ f q x (.exn nm C [v]) n = ((Γ nm = some C ∧ fldOf nm = f) ∧ q v n) := rfl
/-! operations -/
theorem f_addI {a b : Int} : fAdd (.int a) (.int b) n q x = q (.int (a + b)) n := rfl
theorem f_addT {a b : List D} : fAdd (.tup a) (.tup b) n q x = (a.length + b.length ≤ 1000000 ∧ q (.tup (a ++ b)) n) := rfl
theorem f_addL {a b : List D} : fAdd (.lst a) (.lst b) n q x = (a.length + b.length ≤ 1000000 ∧ q (.lst (a ++ b)) n) := rfl
theorem f_addS {a b : Str} : fAdd (.str a) (.str b) n q x = (a.length + b.length ≤ 1000000 ∧ q (.str (a ++ b)) n) := rfl
theorem f_ii {C : Int → Int → Prop} {g : Int → Int → D} {a b : Int} : fII C g (.int a) (.int b) n q x = (C a b ∧ q (g a b) n) := rfl
theorem f_i0 {g : Int → Int → D} {a b : Int} : fI0 g (.int a) (.int b) n q x = q (g a b) n := rfl
theorem f_mulI {a b : Int} : fMul (.int a) (.int b) n q x = (CMulA a b ∧ q (.int (a * b)) n) := rfl
theorem f_mulT {l : List D} {k : Int} : fMul (.tup l) (.int k) n q x = ((l ≠ [] ∧ 1 ≤ k ∧ k ≤ 1000 ∧ l.length ≤ 1000) ∧ q (.tup (List.replicate k.toNat l).flatten) n) := rfl
theorem f_mulL {l : List D} {k : Int} : fMul (.lst l) (.int k) n q x = ((0 ≤ k ∧ k ≤ 1000 ∧ l.length ≤ 1000) ∧ q (.lst (List.replicate k.toNat l).flatten) n) := rfl
theorem f_neg {a : Int} : fNeg (.int a) n q x = q (.int (-a)) n := rfl
theorem f_ixL {l : List D} {z : Int} : fIx (.lst l) (.int z) n q x = ∃ d, atI l z = some d ∧ q d n := rfl
theorem f_ixT {l : List D} {z : Int} : fIx (.tup l) (.int z) n q x = ∃ d, atI l z = some d ∧ q d n := rfl
theorem f_ixS {l : List Int} {z : Int} : fIx (.scr l) (.int z) n q x = ∃ d, atI l z = some d ∧ q (.int d) n := rfl
theorem f_lenL {l : List D} : fLen [.lst l] n q x = q (.int l.length) n := rfl
theorem f_lenT {l : List D} : fLen [.tup l] n q x = q (.int l.length) n := rfl
theorem f_lenS {l : List Int} : fLen [.scr l] n q x = q (.int l.length) n := rfl
theorem f_int {a : Int} : fInt [.int a] n q x = q (.int a) n := rfl
theorem f_min {a b : Int} : fMin [.int a, .int b] n q x = q (.int (if b < a then b else a)) n := rfl
theorem f_max {a b : Int} : fMax [.int a, .int b] n q x = q (.int (if b > a then b else a)) n := rfl
theorem f_tupL {l : List D} : fTuple [.lst l] n q x = q (.tup l) n := rfl
theorem f_lstT {l : List D} : fList [.tup l] n q x = q (.lst l) n := rfl
theorem f_lstL {l : List D} : fList [.lst l] n q x = q (.lst l) n := rfl
theorem f_repr : fRepr [d] n q x = (reprOk d ∧ q (.str d.rpr) n) := rfl
theorem f_cmpQ {neg r : Bool} {a b : D} (h : quick a b = some r) : fCmp neg a b n q x = q (.bl (neg.xor r)) n := by unfold fCmp; rw [h]; rfl
theorem f_cmpS {neg : Bool} {a b : Str} : fCmp neg (.str a) (.str b) n q x = q (.bl (neg.xor (decide (a = b)))) n := rfl
theorem f_cmpI {neg : Bool} {a b : Int} : fCmp neg (.int a) (.int b) n q x = q (.bl (neg.xor (decide (a = b)))) n := rfl
theorem f_cmpT {neg : Bool} {l : List D} : fCmp neg (.tup l) (.tup []) n q x = q (.bl (neg.xor l.isEmpty)) n := rfl
theorem f_cmpL {neg : Bool} {l : List D} : fCmp neg (.lst l) (.lst []) n q x = q (.bl (neg.xor l.isEmpty)) n := rfl
def kDic (ks : List Str) (q : D → S → Prop) (ds : List D) (n : S) : Prop := q (.dic (kvD ks ds)) n
theorem s_dict {ks : List Str} : tdict ks tl ρ n q x = tl ρ n (kDic ks q) x := rfl
theorem k_dic {ks : List Str} {ds : List D} : kDic ks q ds n = q (.dic (kvD ks ds)) n := rfl
/-! the draws' state -/
theorem f_getM {key : Str} : fGetS key .m n q x = mGet key n q x := rfl
def kPut1 (key : Str) (ta : Ev → Wp D) (ρ : Ev) (q : Out → S → Prop) (x : Exn → S → Prop) (d : D) (n : S) : Prop := ta ρ n (fun y m => tputM key (tconst y) (tconst d) ρ m q x) x
def kPut2 (key : Str) (ρ : Ev) (q : Out → S → Prop) (x : Exn → S → Prop) (d : D) (y : D) (n : S) : Prop := tputM key (tconst y) (tconst d) ρ n q x
theorem s_putM {key : Str} : tputM key ta tb ρ n qo x = tb ρ n (kPut1 key ta ρ qo x) x := rfl
theorem k_put1 {key : Str} : kPut1 key ta ρ qo x d n = ta ρ n (kPut2 key ρ qo x d) x := rfl
theorem k_put2 {key : Str} : kPut2 key ρ qo x d .m n = mPut key d n (fun _ m => qo (.nx ρ) m) x := rfl
def kDm (q : D → S → Prop) (ds : List D) (n : S) : Prop := ∃ (l s : Int) (cs : List Int), ds = [.int l, .int s, .lst (cs.map D.int), .int 0] ∧ 0 ≤ l ∧ 0 ≤ s ∧ s < 2147483647 ∧ 0 < cs.length ∧ q .m n
theorem s_dm : tdictM tl ρ n q x = tl ρ n (kDm q) x := rfl
theorem mGet_left : mGet "left" n q x = ∀ l : Int, 0 ≤ l → q (.int l) n := if_pos rfl
theorem mGet_seed : mGet "seed" n q x = ∀ s : Int, 0 ≤ s → s < 2147483647 → q (.int s) n := (if_neg (by decide)).trans (if_pos rfl)
theorem mGet_cells : mGet "cells" n q x = ∀ cs : List Int, 0 < cs.length → q (.lst (cs.map D.int)) n := (if_neg (by decide)).trans ((if_neg (by decide)).trans (if_pos rfl))
theorem mGet_spot : mGet "spot" n q x = ∀ p : Int, 0 ≤ p → p ≤ n.n → q (.int p) n := (if_neg (by decide)).trans ((if_neg (by decide)).trans ((if_neg (by decide)).trans (if_pos rfl)))
theorem mPut_left {q : Unit → S → Prop} : mPut "left" d n q x = ∃ l : Int, d = .int l ∧ 0 ≤ l ∧ q () n := if_pos rfl
theorem mPut_spot {q : Unit → S → Prop} : mPut "spot" d n q x = ∃ p : Int, d = .int p ∧ 0 ≤ p ∧ p ≤ n.n + 1 ∧ q () ⟨n.n + 1, n.mu⟩ := (if_neg (by decide)).trans (if_pos rfl)
end
end OE

namespace OE
open PySem PySem.Spec L2
local macro_rules | `(tactic| wp_walk) => `(tactic| simp -implicitDefEqProofs only [OE.w_g0, OE.w_gs, OE.w_s0, OE.w_ss, OE.w_some, OE.w_ex, OE.w_lc, OE.w_ln, OE.w_at, OE.w_ta, OE.w_nt, OE.w_nf, OE.w_it, OE.w_if, OE.w_itP, OE.w_ifP, OE.w_ft, OE.w_mc, OE.w_mn, OE.w_rs, OE.w_r0, OE.w_ca, OE.w_na, OE.w_za, OE.w_sb, OE.w_sz, OE.s_then, OE.k_seqN, OE.k_seqR, OE.k_seqB, OE.k_seqC, OE.s_next, OE.s_ret, OE.k_ret, OE.s_set, OE.k_set, OE.s_ite, OE.k_ite, OE.o_rt, OE.o_nx, OE.s_run, OE.s_var, OE.s_const, OE.s_nil, OE.s_cons, OE.k_cons, OE.k_cons2, OE.s_tup, OE.s_lst, OE.k_tup, OE.k_lst, OE.s_bin, OE.k_bin, OE.k_bin2, OE.s_bind, OE.k_ap, OE.s_call, OE.k_apL, OE.s_fn, OE.k_fn, OE.s_test, OE.k_test, OE.s_and, OE.k_and, OE.s_or, OE.k_or, OE.s_not, OE.k_not, OE.s_andV, OE.k_andV, OE.s_orV, OE.k_orV, OE.s_notV, OE.k_notV, OE.s_if, OE.k_if, OE.s_isN, OE.k_isN, OE.s_noN, OE.k_noN, OE.s_chain, OE.k_ch1, OE.k_ch2, OE.k_ch3, OE.s_isi, OE.k_isi, OE.s_part, OE.k_part, OE.s_slice, OE.k_sl1, OE.k_sl2, OE.k_sl3, OE.s_retO, OE.s_slL, OE.s_slT, OE.s_slS, OE.s_seq, OE.k_itmL, OE.k_itmT, OE.k_itmS, OE.s_its, OE.k_its, OE.s_rng1, OE.s_rng2, OE.s_enT, OE.s_enL, OE.s_zipL, OE.s_zipT, OE.s_for, OE.k_for, OE.for_nil, OE.k_go, OE.k_tN, OE.k_tC, OE.k_tB, OE.k_tR, OE.g_name, OE.g_tup, OE.g_cons, OE.k_gs, OE.g_nil, OE.s_asg, OE.k_asg, OE.k_nx, OE.s_par, OE.k_par, OE.s_lc, OE.k_lc, OE.k_lc1, OE.k_lc2, OE.k_some, OE.s_fail, OE.k_fail, OE.s_fail0, OE.s_try, OE.k_unN, OE.k_unR, OE.s_fld, OE.k_fld, OE.f_addI, OE.f_addT, OE.f_addL, OE.f_addS, OE.f_ii, OE.f_i0, OE.f_mulI, OE.f_mulT, OE.f_mulL, OE.f_neg, OE.f_ixL, OE.f_ixT, OE.f_ixS, OE.f_lenL, OE.f_lenT, OE.f_lenS, OE.f_int, OE.f_min, OE.f_max, OE.f_tupL, OE.f_lstT, OE.f_lstL, OE.f_repr, OE.f_cmpS, OE.f_cmpI, OE.f_cmpT, OE.f_cmpL, OE.s_dict, OE.k_dic, OE.f_getM, OE.s_putM, OE.k_put1, OE.k_put2, OE.s_dm, OE.mGet_left, OE.mGet_seed, OE.mGet_cells, OE.mGet_spot, OE.mPut_left, OE.mPut_spot, OE.startE, Nat.reduceAdd, Nat.reduceLeDiff, Nat.reduceSub])
local macro_rules | `(tactic| wp_walk using $[$ts],*) => `(tactic| simp -implicitDefEqProofs only [$[$ts:term],*, OE.w_g0, OE.w_gs, OE.w_s0, OE.w_ss, OE.w_some, OE.w_ex, OE.w_lc, OE.w_ln, OE.w_at, OE.w_ta, OE.w_nt, OE.w_nf, OE.w_it, OE.w_if, OE.w_itP, OE.w_ifP, OE.w_ft, OE.w_mc, OE.w_mn, OE.w_rs, OE.w_r0, OE.w_ca, OE.w_na, OE.w_za, OE.w_sb, OE.w_sz, OE.s_then, OE.k_seqN, OE.k_seqR, OE.k_seqB, OE.k_seqC, OE.s_next, OE.s_ret, OE.k_ret, OE.s_set, OE.k_set, OE.s_ite, OE.k_ite, OE.o_rt, OE.o_nx, OE.s_run, OE.s_var, OE.s_const, OE.s_nil, OE.s_cons, OE.k_cons, OE.k_cons2, OE.s_tup, OE.s_lst, OE.k_tup, OE.k_lst, OE.s_bin, OE.k_bin, OE.k_bin2, OE.s_bind, OE.k_ap, OE.s_call, OE.k_apL, OE.s_fn, OE.k_fn, OE.s_test, OE.k_test, OE.s_and, OE.k_and, OE.s_or, OE.k_or, OE.s_not, OE.k_not, OE.s_andV, OE.k_andV, OE.s_orV, OE.k_orV, OE.s_notV, OE.k_notV, OE.s_if, OE.k_if, OE.s_isN, OE.k_isN, OE.s_noN, OE.k_noN, OE.s_chain, OE.k_ch1, OE.k_ch2, OE.k_ch3, OE.s_isi, OE.k_isi, OE.s_part, OE.k_part, OE.s_slice, OE.k_sl1, OE.k_sl2, OE.k_sl3, OE.s_retO, OE.s_slL, OE.s_slT, OE.s_slS, OE.s_seq, OE.k_itmL, OE.k_itmT, OE.k_itmS, OE.s_its, OE.k_its, OE.s_rng1, OE.s_rng2, OE.s_enT, OE.s_enL, OE.s_zipL, OE.s_zipT, OE.s_for, OE.k_for, OE.for_nil, OE.k_go, OE.k_tN, OE.k_tC, OE.k_tB, OE.k_tR, OE.g_name, OE.g_tup, OE.g_cons, OE.k_gs, OE.g_nil, OE.s_asg, OE.k_asg, OE.k_nx, OE.s_par, OE.k_par, OE.s_lc, OE.k_lc, OE.k_lc1, OE.k_lc2, OE.k_some, OE.s_fail, OE.k_fail, OE.s_fail0, OE.s_try, OE.k_unN, OE.k_unR, OE.s_fld, OE.k_fld, OE.f_addI, OE.f_addT, OE.f_addL, OE.f_addS, OE.f_ii, OE.f_i0, OE.f_mulI, OE.f_mulT, OE.f_mulL, OE.f_neg, OE.f_ixL, OE.f_ixT, OE.f_ixS, OE.f_lenL, OE.f_lenT, OE.f_lenS, OE.f_int, OE.f_min, OE.f_max, OE.f_tupL, OE.f_lstT, OE.f_lstL, OE.f_repr, OE.f_cmpS, OE.f_cmpI, OE.f_cmpT, OE.f_cmpL, OE.s_dict, OE.k_dic, OE.f_getM, OE.s_putM, OE.k_put1, OE.k_put2, OE.s_dm, OE.mGet_left, OE.mGet_seed, OE.mGet_cells, OE.mGet_spot, OE.mPut_left, OE.mPut_spot, OE.startE, Nat.reduceAdd, Nat.reduceLeDiff, Nat.reduceSub])
variable [TN]
/-! ### the draws of the laws, over data -/
theorem fmod_lt {i j : Int} (h : 0 < j) : 0 ≤ i.fmod j ∧ i.fmod j < j := ⟨Int.fmod_nonneg_of_pos _ h, Int.fmod_lt_of_pos _ h⟩
theorem atI_nat {α : Type} {l : List α} {i : Int} (h0 : 0 ≤ i) (h1 : i < l.length) : ∃ d, atI l i = some d ∧ l[i.toNat]? = some d := by
  have hl : i.toNat < l.length := by omega
  refine ⟨l[i.toNat], ?_, List.getElem?_eq_getElem hl⟩
  unfold atI ixN
  rw [if_pos h0, if_pos h1]
  exact List.getElem?_eq_getElem hl
theorem cmul_l {i j : Int} (h : -18446744073709551616 < i ∧ i < 18446744073709551616) : CMulA i j := .inl (.inl (by omega))
theorem cmul_r {i j : Int} (h : -18446744073709551616 < j ∧ j < 18446744073709551616) : CMulA i j := .inl (.inr (by omega))
def tBegun : Ev → Wp Out :=
  tthen (tset 2 (tbin fAdd (tslice (tvar 0) (tpart (tvar 1)) (fun _ => Wp.ret none)) (tslice (tvar 0) (fun _ => Wp.ret none) (tpart (tvar 1)))))
  (tthen (tset 3 (tlc (tseq (tvar 2)) (gname 5) (ttest (tbin fGe (tvar 5) (tbin fPow (tconst (.int 10)) (tconst (.int 18))))) (tvar 5) [5]))
  (tthen (tset 4 (tbin fAdd (tconst (.int 83)) (tvar 1)))
  (tthen (tfor (tseq (tvar 2)) (gname 5) (tset 4 (tbin fMod (tcall fInt (tcons (tbin fAdd (tbin fMul (tvar 4) (tconst (.int 48271))) (tvar 5)) (tnil))) (tconst (.int 2147483647)))))
  (tret (tdictM (tcons (tif (ttest (tbin fNe (tvar 3) (tlst (tnil)))) (tbin fIx (tvar 3) (tconst (.int 0))) (tconst (.int 0))) (tcons (tvar 4) (tcons (tbin fAdd (tvar 2) (tlst (tcons (tbin fAdd (tbin fMul (tconst (.int 37)) (tvar 1)) (tconst (.int 11))) (tnil)))) (tcons (tconst (.int 0)) (tnil))))))))))
def tDraw : Ev → Wp Out :=
  tthen (tite (ttest (tbin fGt (tbind (fGetS "left") (tvar 0)) (tconst (.int 0)))) (tthen (tset 2 (tbin fMod (tcall fInt (tcons (tbind (fGetS "left") (tvar 0)) (tnil))) (tvar 1)))
  (tthen (tputM "left" (tvar 0) (tbin fDiv (tbind (fGetS "left") (tvar 0)) (tvar 1)))
  (tret (tvar 2)))) (tnext))
  (tthen (tset 3 (tbind (fGetS "spot") (tvar 0)))
  (tthen (tputM "spot" (tvar 0) (tbin fAdd (tvar 3) (tconst (.int 1))))
  (tthen (tpar 4 5 (tcons (tbind (fGetS "cells") (tvar 0)) (tcons (tbin fAdd (tbind (fGetS "seed") (tvar 0)) (tbin fMul (tbin fMul (tconst (.int 40503)) (tvar 3)) (tvar 3))) (tnil))))
  (tthen (tset 6 (tbin fIx (tvar 4) (tbin fMod (tcall fInt (tcons (tvar 3) (tnil))) (tcall fLen (tcons (tvar 4) (tnil))))))
  (tthen (tset 7 (tbin fMod (tcall fInt (tcons (tbin fAdd (tbin fMul (tvar 6) (tbin fAdd (tbin fMul (tconst (.int 2)) (tvar 3)) (tconst (.int 3)))) (tvar 5)) (tnil))) (tconst (.int 2147483647))))
  (tthen (tset 7 (tbin fMod (tcall fInt (tcons (tbin fAdd (tbin fAdd (tbin fMul (tvar 7) (tvar 7)) (tbin fMul (tconst (.int 69621)) (tvar 3))) (tbind (fGetS "seed") (tvar 0))) (tnil))) (tconst (.int 2147483629))))
  (tret (tbin fMod (tbin fDiv (tbin fMod (tcall fInt (tcons (tbin fAdd (tbin fMul (tvar 7) (tconst (.int 48271))) (tvar 3)) (tnil))) (tconst (.int 2147483647))) (tconst (.int 11))) (tvar 1)))))))))
def FDraw : List D → Wp D := runDef 8 tDraw
def tOf : Ev → Wp Out := tret (tbin fIx (tvar 1) (tfn 2 FDraw (tcons (tvar 0) (tcons (tcall fLen (tcons (tvar 1) (tnil))) (tnil)))))
def FOf : List D → Wp D := runDef 2 tOf
def FBegun : List D → Wp D := runDef 6 tBegun
theorem draw_spec {many : Int} {n : Nat} {μ : Mu} {q : D → S → Prop} {x : Exn → S → Prop} (h1 : 1 ≤ many) (hb : many.natAbs.log2 < 9000) (hn : n < 2 ^ 40) (h : ∀ i, 0 ≤ i → i < many → ∀ n', n ≤ n' → n' ≤ n + 1 → q (.int i) ⟨n', μ⟩) : FDraw [.m, .int many] ⟨n, μ⟩ q x := by
  have hm0 : many ≠ 0 := by omega
  have hp : 0 < many := by omega
  wp_walk using FDraw, tDraw
  intro l hl
  split
  · intro l1 hl1
    exact ⟨hm0, fun l2 hl2 => ⟨⟨hp, hb⟩, _, rfl, Int.ediv_nonneg hl2 (by omega), h _ (fmod_lt hp).1 (fmod_lt hp).2 n (Nat.le_refl _) (Nat.le_succ _)⟩⟩
  · intro p hp0 hpn
    refine ⟨_, rfl, by omega, by omega, fun cs hcs s hs0 hs1 => ⟨cmul_l (by omega), cmul_r (by omega), by rw [List.length_map]; omega, ?_⟩⟩
    have hl0 : (0 : Int) < ((cs.map D.int).length : Nat) := by rw [List.length_map]; omega
    obtain ⟨d, hd1, hd2⟩ := atI_nat (l := cs.map D.int) (i := p.fmod ((cs.map D.int).length : Nat)) (fmod_lt hl0).1 (fmod_lt hl0).2
    rw [List.getElem?_map] at hd2
    obtain ⟨z, hz⟩ : ∃ z, d = .int z := by
      cases e : cs[(p.fmod ((cs.map D.int).length : Nat)).toNat]? with
      | none => rw [e] at hd2; cases hd2
      | some z => rw [e] at hd2; cases hd2; exact ⟨z, rfl⟩
    subst hz
    refine ⟨_, hd1, cmul_l (by omega), ?_⟩
    wp_walk
    refine ⟨cmul_r (by omega), by omega, ?_⟩
    have b1 := fmod_lt (i := z * (2 * p + 3) + (s + 40503 * p * p)) (j := 2147483647) (by omega)
    refine ⟨cmul_l (by omega), cmul_l (by omega), fun s2 h20 h21 => ⟨by omega, ?_⟩⟩
    have b2 := fmod_lt (i := (z * (2 * p + 3) + (s + 40503 * p * p)).fmod 2147483647 * (z * (2 * p + 3) + (s + 40503 * p * p)).fmod 2147483647 + 69621 * p + s2) (j := 2147483629) (by omega)
    refine ⟨cmul_r (by omega), by omega, ⟨by omega, by decide⟩, hm0, h _ (fmod_lt hp).1 (fmod_lt hp).2 _ (Nat.le_succ _) (Nat.le_refl _)⟩
theorem of_spec {l : List D} {n : Nat} {μ : Mu} {q : D → S → Prop} {x : Exn → S → Prop} (h0 : l ≠ []) (hl : l.length < 2 ^ 60) (hn : n < 2 ^ 40) (h : ∀ d ∈ l, ∀ n', n ≤ n' → n' ≤ n + 1 → q d ⟨n', μ⟩) : FOf [.m, .lst l] ⟨n, μ⟩ q x := by
  wp_walk using FOf, tOf
  have hp : 0 < l.length := List.length_pos_iff.mpr h0
  have e : ((l.length : Nat) : Int).natAbs = l.length := Int.natAbs_natCast _
  refine draw_spec (by omega) ?_ hn fun i hi0 hi1 n' h1 h2 => ?_
  · rw [e]
    have := (Nat.log2_lt (n := l.length) (k := 60) (by omega)).mpr hl
    omega
  · wp_walk
    obtain ⟨d, hd1, hd2⟩ := atI_nat (l := l) hi0 hi1
    exact ⟨d, hd1, h d (List.mem_of_getElem? hd2) n' h1 h2⟩
/-- a for by its invariant -/
theorem for_inv {g : D → Ev → Wp Ev} {t : Ev → Wp Out} {qo : Out → S → Prop} {x : Exn → S → Prop} (I : List D → Ev → S → Prop)
    (step : ∀ d ds ρ n (k : Out → S → Prop), I (d :: ds) ρ n → (∀ ρ' m, I ds ρ' m → k (.nx ρ') m) → (∀ e m, qo (.rt e) m → k (.rt e) m) → g d ρ n (kGo t k x) x) (last : ∀ ρ n, I [] ρ n → qo (.nx ρ) n) :
    ∀ ds ρ n, I ds ρ n → forW g t ds ρ n qo x
  | [], ρ, n, h => last ρ n h
  | d :: ds, ρ, n, h => by
    rw [for_cons]
    exact step d ds ρ n _ h (fun ρ' m z => for_inv I step last ds ρ' m z) (fun e m z => z)
theorem begun_spec {ns : List Int} {k : Int} {n : S} {q : D → S → Prop} {x : Exn → S → Prop} (hn : ns.length ≤ 63) (h0 : 0 ≤ k) (h1 : k < 100) (h : q .m n) : FBegun [.scr ns, .int k] n q x := by
  wp_walk using FBegun, tBegun
  obtain ⟨A, hA⟩ : ∃ A, A = cut ns (some k) none := ⟨_, rfl⟩
  obtain ⟨B, hB⟩ : ∃ B, B = cut ns none (some k) := ⟨_, rfl⟩
  have lA : A.length ≤ 63 := by rw [hA]; unfold cut; rw [List.length_take, List.length_drop]; omega
  have lB : B.length ≤ 63 := by rw [hB]; unfold cut; rw [List.length_take, List.length_drop]; omega
  rw [← hA, ← hB, ← List.map_append]
  obtain ⟨C, hC⟩ : ∃ C, C = A ++ B := ⟨_, rfl⟩
  have lC : C.length ≤ 126 := by rw [hC, List.length_append]; omega
  rw [← hC]
  refine ⟨by rw [List.length_map, List.length_map]; omega, by rw [List.length_map]; omega, ?_⟩
  refine lc_pure (f := fun d => match d with | .int i => if (1000000000000000000 : Int) ≤ i then some (.int i) else none | _ => none) (fun d hd m kk hk => ?_) ?_
  · obtain ⟨z, hz, rfl⟩ := List.mem_map.mp hd
    rw [s_lc1]
    wp_walk using wipeE
    refine ⟨.inl ⟨by omega, by omega, by decide⟩, ?_⟩
    have e : (10 : Int) ^ Int.toNat 18 = 1000000000000000000 := by decide
    rw [e]
    by_cases c : (1000000000000000000 : Int) ≤ z
    · rw [if_pos (decide_eq_true c)]
      simpa only [if_pos c] using hk
    · rw [if_neg (by simpa using c)]
      simpa only [if_neg c] using hk
  · obtain ⟨G, hG⟩ : ∃ G : List Int, G = C.filter fun i => decide ((1000000000000000000 : Int) ≤ i) := ⟨_, rfl⟩
    have eG : (C.map D.int).filterMap (fun d => match d with | .int i => if (1000000000000000000 : Int) ≤ i then some (.int i) else none | _ => none) = G.map D.int := by
      rw [hG]
      clear hC lC hG
      induction C with
      | nil => rfl
      | cons c C ih =>
        rw [List.map_cons, List.filterMap_cons, List.filter_cons]
        by_cases z : (1000000000000000000 : Int) ≤ c
        · simp -implicitDefEqProofs only [z, if_true, decide_true, List.map_cons]
          rw [ih]
        · simp -implicitDefEqProofs only [z, if_false, decide_false, Bool.false_eq_true]
          exact ih
    rw [eG]
    refine for_inv (I := fun ds ρ m => m = n ∧ (∀ d ∈ ds, ∃ z, d = .int z) ∧ ∃ (s : Int) (o : Option D), 0 ≤ s ∧ s < 2147483647 ∧ ρ = [some (.scr ns), some (.int k), some (.lst (C.map D.int)), some (.lst (G.map D.int)), some (.int s), o]) ?_ ?_ _ _ _ ⟨rfl, fun d hd => ?_, 83 + k, none, by omega, by omega, rfl⟩
    · rintro d ds ρ m kk ⟨rfl, hds, s, o, s0, s1, rfl⟩ k1 k2
      obtain ⟨z, rfl⟩ := hds d List.mem_cons_self
      wp_walk
      have b := fmod_lt (i := s * 48271 + z) (j := 2147483647) (by omega)
      exact ⟨cmul_l (by omega), by omega, k1 _ _ ⟨rfl, fun e he => hds e (List.mem_cons_of_mem _ he), _, _, b.1, b.2, rfl⟩⟩
    · rintro ρ m ⟨rfl, _, s, o, s0, s1, rfl⟩
      wp_walk
      have fin : ∀ l : Int, 0 ≤ l → CMulA 37 k ∧ (C.map D.int).length + 1 ≤ 1000000 ∧ kDm (kRet (outQ q)) [.int l, .int s, .lst (C.map D.int ++ [.int (37 * k + 11)]), .int 0] m := fun l hl =>
        ⟨cmul_l (by omega), by rw [List.length_map]; omega, l, s, C ++ [37 * k + 11], by rw [List.map_append]; rfl, hl, s0, s1, by simp, h⟩
      cases G with
      | nil => simpa using fin 0 (by omega)
      | cons g G =>
        have hg : (1000000000000000000 : Int) ≤ g := by
          have := List.mem_cons_self (a := g) (l := G)
          rw [hG] at this
          simpa using (List.mem_filter.mp this).2
        have := fin g (by omega)
        simp [atI, ixN]
        simpa using this
    · obtain ⟨z, _, rfl⟩ := List.mem_map.mp hd
      exact ⟨z, rfl⟩
end OE

namespace OE
open PySem PySem.Spec L2
variable [TN]
/-! ### lambdas that are handed on -/
/-- what the lambdas do that a def was given: by their addresses -/
abbrev Th := Addr → Option (Hp × Wp D)
/-- a lambda at f, handed over at s, H (the callers' frames fs): called later, it does F -/
structure Clo (P : Program) (w : World) (K : PySem.W.Frag) (mg : Str → Option Value) (base : Heap) (Γ : Gam) (k : Nat) (fs : List Addr) (s : Shared) (H : Hp) (Hs0 : Hp) (f : Addr) (F : Wp D) : Prop where
  fn : PySem.W.FnAt f s.heap
  free : H f = none
  nfs : f ∉ fs
  run : ∀ (A : Around) (outer : List Env) (s' : Shared) (H' Hs' : Hp) (n : S) (q : D → S → Prop) (x : Exn → S → Prop) (Q : VK) (E : XK), Room k A → A.guards = some [] → Env0 P w K mg base A outer s' H' → Un fs [] H H' s.heap s'.heap → Ext Hs0 Hs' → Sit K n Hs' H' →
    F n q x → OkQ K Hs' H' q Q → OkE K Γ Hs' H' x E → codeAny (model P w) A (.call (.ref f) ⟨[], []⟩) (CR (L2.CX P w) outer P w H' s' Q E) s'
def Clos (P : Program) (w : World) (K : PySem.W.Frag) (mg : Str → Option Value) (base : Heap) (Γ : Gam) (k : Nat) (fs : List Addr) (s : Shared) (H : Hp) (Θ : Th) : Prop := ∀ f Hs0 F, Θ f = some (Hs0, F) → Clo P w K mg base Γ k fs s H Hs0 f F
section
variable {Γ : Gam} {X : Cx} {W : WX} {pos : Pos}
/-- call() -/
def tact (Θ : Th) (i : Nat) : Ev → Wp D := fun ρ n q x => ∃ f Hs0 F, ρ[i]? = some (some (.clo f Hs0)) ∧ Θ f = some (Hs0, F) ∧ F n q x
theorem d_act {Θ : Th} {k : Nat} (i : Nat) {a : Str} {p : Pos} (C : Clos X.prog X.w X.K X.mg X.base Γ k X.fs X.s_0 X.H_0 Θ) (hr : Room k X.A) (hg : X.A.guards = some []) (tk : Takes X W) (hex : X.ex = [] := by rfl) (hN : X.N[i]? = some a := by rfl)
    (hv : Vis X.env.scope a := by first | exact Or.inl rfl | exact Or.inr (Or.inl rfl) | exact Or.inr (Or.inr rfl)) (hd : (a == ("__debug__" : Str)) = false := by decide) (hcd : (a == ("__classdict__" : Str)) = false := by decide) :
    DE Γ X W (.Call (.Name a p) [] [] pos) (tact Θ i) := by
  refine ⟨fun σ H Q => ∃ f Hs0 F n Hs q x, σ[i]? = some (some (.ref f)) ∧ Θ f = some (Hs0, F) ∧ Ext Hs0 Hs ∧ Sit X.K n Hs H ∧ F n q x ∧ OkQ X.K Hs H q Q ∧ OkE X.K Γ Hs H x (fun c d h => W c d σ h), ⟨fun pins s σ H Q I h => ?_⟩, fun σ H Hs ρ n q x Q s r h k ke => ?_⟩
  · obtain ⟨f, Hs0, F, n, Hs, q, x, hs, hΘ, e, st, hF, k1, k2⟩ := h
    have c := C f Hs0 F hΘ
    refine wpAny_Call_Name_kw (thn ((pe_var (pos := p) (i := i) hN hv hd hcd).run pins s σ H (fun v H1 => v = .ref f ∧ H1 = H) I ⟨.ref f, hs, rfl, rfl⟩) fun u s1 ⟨v, H1, I1, r1, q1⟩ => ?_)
    obtain ⟨ev, eH⟩ := q1
    subst ev
    rw [eH] at I1
    obtain rfl : u = Value.ref f := r1
    have b1 := I1.base
    rw [hex] at b1
    obtain ⟨oc, od, fd, sl, hf⟩ := c.fn
    have of1 : s1.heap.get? f = some ⟨oc, od, .func fd, sl⟩ := b1.keep f _ hf c.free c.nfs (fun z => nomatch z)
    refine PySem.W.callWith_F0 ⟨oc, od, fd, sl, of1⟩ ?_
    refine wpAny_call (codeAny_mono (c.run X.A X.stack s1 H Hs n q x Q (WE W σ) hr hg I1.env0 b1 e st hF k1 k2) fun y s' hy => ?_)
    rcases y with e | (_ | _ | _ | u)
    · exact passAt tk σ pins H s1 e s' I1 hy
    · exact False.elim hy
    · exact False.elim hy
    · exact False.elim hy
    · exact I1.after hy
  · obtain ⟨f, Hs0, F, h1, h2, h3⟩ := h
    obtain ⟨v, v1, v2⟩ := r.at' i _ h1
    cases v2 with
    | clo e => exact ⟨f, Hs0, F, n, Hs, q, x, v1, h2, e, s, h3, k, ke⟩
end
/-- a def that is given lambdas -/
def FnC (Γ : Gam) (P : Program) (w : World) (K : PySem.W.Frag) (mg : Str → Option Value) (base : Heap) (x : Str) (k kc : Nat) (a : Nat) (F : Th → List D → Wp D) : Prop :=
  ∃ (f : Addr) (fd : FuncData) (ps : List Str), ps.length = a ∧ mg x = some (.ref f) ∧ PySem.W.keepIn K (.ref f) = true ∧ Binds K fd ps [] ∧
    ∀ (A : Around) (outer : List Env) (s : Shared) (H : Hp) (args : Args) (us : List Value) (vs : List V) (Q : VK) (E : XK) (Θ : Th) (n : S) (Hs : Hp) (ds : List D) (q : D → S → Prop) (x : Exn → S → Prop),
      Room k A → A.guards = some [] → Env0 P w K mg base A outer s H → BindsTo s fd args (ps.zip us) → Vals vs us → Clos P w K mg base Γ kc (frs outer) s H Θ → ds.length = a → Sit K n Hs H → DvAll K Hs vs ds → F Θ ds n q x → OkQ K Hs H q Q → OkE K Γ Hs H x E →
      codeAny (model P w) A (.call (.ref f) args) (CR (L2.CX P w) outer P w H s Q E) s
section
variable {Γ : Gam} {P : Program} {w : World} {K : PySem.W.Frag} {mg : Str → Option Value} {base : Heap}
theorem fnC_of {k kc m : Nat} {f : Addr} {x : Str} {st : Stmt} {fd : FuncData} {N ps : List Str} {t : Th → Ev → Wp Out} (F : Fun K x x st f fd) (hm : mg x = some (.ref f)) (hb : Binds K fd ps []) (S : FnScope N ps (defScope st)) (hps : ps.length = m)
    (h : ∀ (cdv : Value), fd.code = cdv → ∀ (A : Around) (outer : List Env) (s : Shared) (H : Hp) (E : XK) (Θ : Th), Room k (cxOf (L2.CX P w) P w K mg base N x (defScope st) f cdv A outer s H E).A → (cxOf (L2.CX P w) P w K mg base N x (defScope st) f cdv A outer s H E).A.guards = some [] →
      Takes (cxOf (L2.CX P w) P w K mg base N x (defScope st) f cdv A outer s H E) (wOf E) → PassesOwn (model P w) (cxOf (L2.CX P w) P w K mg base N x (defScope st) f cdv A outer s H E).A (cxOf (L2.CX P w) P w K mg base N x (defScope st) f cdv A outer s H E).env (cxOf (L2.CX P w) P w K mg base N x (defScope st) f cdv A outer s H E).xe →
      Clos P w K mg base Γ kc (frs outer) s H Θ → DB Γ (cxOf (L2.CX P w) P w K mg base N x (defScope st) f cdv A outer s H E) (wOf E) (defBody st) (t Θ)) : FnC Γ P w K mg base x (k + 1) kc m (fun Θ => runDef N.length (t Θ)) := by
  refine ⟨f, fd, ps, hps, hm, F.kp, hb, fun A outer s H args us vs Q E Θ n Hs ds q x hr hg e0 hbi r C h1 h2 h3 h4 h5 h6 => ?_⟩
  obtain ⟨oc, od, kV, doc, pm, an, cdv, ct, osl, rfl, lk, hcd⟩ := F.ex
  refine LamX.run_ofS (CX := L2.CX P w) (k := k) (N := N) (ps := ps) (us := us) (vs := vs) lk hcd S hr e0 hbi r (by rw [h3.length, h1, hps]) fun hr' => ?_
  obtain ⟨ts, p, g⟩ := h cdv rfl A outer s H E Θ hr' hg (takes_of rfl rfl rfl rfl) (passes_of rfl) C
  refine ⟨ts, p, g (L2.start N vs) H Hs (startE N.length ds) n _ x _ h2 (r_start h3) h4 (fun o n' H' Hs' g' s' hq => ?_) (fun σ => h6)⟩
  cases o with
  | nx ρ => exact fun σ _ => h5 .non H' Hs' .non n' g' s' .non hq
  | rt d => exact fun v hv => h5 v H' Hs' d n' g' s' hv hq
  | bk ρ => exact (show False from hq).elim
  | ct ρ => exact (show False from hq).elim
end
end OE

namespace OE
open PySem PySem.Spec PyProof.Rows L2
variable [TN]
/-! ### a lambda made -/
/-- the table at P asked for a code object: it is there, or it is new and written in -/
inductive TabStep (H : Hp) (P : Addr) (q : Str) (ps : Array Value) : Hp → Addr → Prop
  | hit {c' : Addr} (pos : Pos) (h : codeAmong pos ps.toList = some (.ref c')) : TabStep H P q ps H c'
  | miss {c' : Addr} (more : Array Value) (hn : H c' = none) (ht : TriplesOk (ps ++ more).toList) (hc : ∀ p cv, codeAmong p (ps ++ more).toList = some cv → codeAmong p ps.toList = some cv ∨ cv = .ref c') : TabStep H P q ps (upd (upd H P (.tbl (ps ++ more))) c' (LamX.CodeO c' q)) c'
section
variable {X : Cx} {pins : List (Addr × Obj)} {σ : L2.St} {H : Hp} {s : Shared}
theorem lam_mk {c P : Addr} {ps : Array Value} {params : Arguments} {body : Expr} {scope : Scope} {pos : Pos} {line : Nat} {dV : Value} {E : Value → Shared → Prop} {Q : Value → Shared → Prop} (I : Inv X pins σ H s) (TB : LamX.TabB X.base X.mg c P) (hcode : X.env.code = .ref c)
    (hP : H P = some (.tbl ps)) (ht : TriplesOk ps.toList) (ha : ∀ p cv, codeAmong p ps.toList = some cv → ∃ c0, cv = .ref c0) (hfree : ∀ y ∈ scope.names, y.2 = .free → ∃ c, X.env.cells.lookup y.1 = some c)
    (h : ∀ (f c' : Addr) (doc pm ctv : Value) (H1 : Hp) (s' : Shared), TabStep H P (X.env.qual ++ "<lambda>") ps H1 c' → Inv X pins σ H1 s' →
      s'.heap.get? f = some (PySem.W.kdv_obj "<lambda>" (X.env.qual ++ "<lambda>") params (.expr body) scope (cloFrom X.env.cells scope.names []) dV doc pm c' ctv) → H1 f = none → f ∉ frs X.stack → (∀ b o, b ≠ P → s.heap.get? b = some o → s'.heap.get? b = some o) → (∀ b o, s.heap.get? b = some o → H b = none → H1 b = none) → Q (.ref f) s') :
    wpAny (model X.prog X.w) X.A (makeTail "<lambda>" (X.env.qual ++ "<lambda>") params (.expr body) scope X.env dV .none none pos line) Q E s := by
  have bP : s.heap.BuiltinsAt X.mg P := TB.bm.keeps I.bk
  have hP' : s.heap.get? P = some { cls := .none, data := .fields ps } := I.hok P _ hP
  have nofr : ∀ f, s.heap.objs.size ≤ f → f ∉ frs X.stack := fun f hf z => by
    rcases List.mem_cons.mp (I.stkSub _ z) with e | e
    · have h1 := I.lt
      rw [← e] at h1
      exact Nat.lt_irrefl _ (Nat.lt_of_lt_of_le h1 hf)
    · exact I.nofs hf e
  cases hc : codeAmong pos ps.toList with
  | none =>
    refine PySem.W.kdv_makeTail (mg := X.mg) (c := c) (P := P) (ps := ps) (closure_ok hfree) I.ok.glob (I.mod.glob.keeps I.bk) hcode (TB.code.keeps I.bk) hP' ht hc TB.gP bP fun c' ctv doc h' tk hx hge hlt hrec htb => ?_
    obtain ⟨c2, oc, vs, t, e2, hoc, hd, hv⟩ := hrec
    cases e2
    have hsz : s.heap.objs.size ≤ h'.objs.size := Nat.le_trans hge (Nat.le_of_lt hlt)
    have I1 := LamX.inv_table (t' := tk) (more := #[rawInt pos.line, rawInt pos.col, .ref c']) (h' := h'.push (PySem.W.kdv_obj "<lambda>" (X.env.qual ++ "<lambda>") params (.expr body) scope (cloFrom X.env.cells scope.names []) dV doc ((X.mg "__name__").getD .none) c' ctv)) I hP
      (fun b o hb e => Heap.get?_push_of_some _ (hx b o hb e)) (Heap.get?_push_of_some _ htb) hge ⟨oc, vs, t, Heap.get?_push_of_some _ hoc, hd, hv⟩
    have eL : (ps ++ #[rawInt pos.line, rawInt pos.col, .ref c']).toList = ps.toList ++ [rawInt pos.line, rawInt pos.col, .ref c'] := by simp
    refine h h'.objs.size c' doc ((X.mg "__name__").getD .none) ctv _ _ (.miss #[rawInt pos.line, rawInt pos.col, .ref c'] (I.hok.fresh hge) (by rw [eL]; exact PySem.TriplesOk_snoc _ _ _ _ ht) fun p cv hcv => ?_) I1 (Heap.get?_push_size _ rfl) ?_ (nofr _ hsz) (fun b o hb e => Heap.get?_push_of_some _ (hx b o hb e)) (fun b o e n => by
        rw [upd_ne (Nat.ne_of_lt (Nat.lt_of_lt_of_le (Heap.lt_size e) hge)), upd_ne (fun z => by rw [z, hP] at n; cases n)]
        exact n)
    · rw [eL] at hcv
      exact LamX.among_app _ ht hcv
    · have n1 : h'.objs.size ≠ c' := Nat.ne_of_gt hlt
      have n2 : h'.objs.size ≠ P := Nat.ne_of_gt (Nat.lt_of_lt_of_le (Heap.lt_size hP') hsz)
      rw [upd_ne n1, upd_ne n2]
      exact I.hok.fresh hsz
  | some cv =>
    obtain ⟨c', rfl⟩ := ha pos cv hc
    refine PySem.W.kdv_makeTailHit (mg := X.mg) (c := c) (P := P) (ps := ps) (closure_ok hfree) I.ok.glob (I.mod.glob.keeps I.bk) hcode (TB.code.keeps I.bk) hP' ht hc bP fun ctv doc h' tk hx hsz => ?_
    exact h h'.objs.size c' doc _ ctv H _ (.hit pos hc) (I.kept fun b o e => Heap.get?_push_of_some _ (hx b o e)) (Heap.get?_push_size _ rfl) (I.hok.fresh hsz) (nofr _ hsz) (fun b o _ e => Heap.get?_push_of_some _ (hx b o e)) (fun _ _ _ n => n)
end
/-- the shared part goes along -/
theorem Sit.tab {K : PySem.W.Frag} {n : S} {Hs H H1 : Hp} (s : Sit K n Hs H) {P c' : Addr} {q : Str} {ps : Array Value} (hq : TN.nm P = some q) (hP : H P = some (.tbl ps)) (st : TabStep H P q ps H1 c') : ∃ Hs1, Sit K n Hs1 H1 ∧ Go Hs H Hs1 H1 ∧ Hs1 c' = some (LamX.CodeO c' q) := by
  obtain ⟨ps', t1, t2, t3⟩ := s.tabs P q hq
  have e : ps' = ps := by
    have z := s.sub _ _ t1
    rw [hP] at z
    cases z
    rfl
  subst e
  cases st with
  | hit pos h =>
    obtain ⟨c0, e1, e2⟩ := t3 pos _ h
    cases e1
    exact ⟨Hs, s, .refl _ _, e2⟩
  | miss more hn ht hc =>
    have hs := s.free hn
    have nPc : P ≠ c' := ne_of_none t1 hs
    have kp : ∀ b o, Hs b = some o → (∀ r, o ≠ .tbl r) → upd (upd Hs P (.tbl (ps' ++ more))) c' (LamX.CodeO c' q) b = some o := fun b o e1 e2 => by
      rw [upd_ne (ne_of_none e1 hs), upd_ne (fun z => by rw [z, t1] at e1; cases e1; exact e2 _ rfl)]
      exact e1
    have ex : Ext Hs (upd (upd Hs P (.tbl (ps' ++ more))) c' (LamX.CodeO c' q)) := fun b o e1 => by
      refine ⟨fun z => kp b o e1 (fun r q => by rw [q] at z; cases z), fun z => ⟨o, kp b o e1 (fun r q => by rw [q] at z; cases z), z⟩⟩
    refine ⟨upd (upd Hs P (.tbl (ps' ++ more))) c' (LamX.CodeO c' q), ⟨fun b o e1 y => ?_, fun b e1 => ?_, fun b o e1 y => ?_, fun b kvs e1 y => ?_, fun P' q' t' => ?_, fun b o e1 => ?_⟩, ⟨ex, fun b o e1 e2 => ?_⟩, upd_same⟩
    · by_cases h1 : b = c'
      · rw [h1, upd_same] at e1 ⊢; exact e1
      · rw [upd_ne h1] at e1 ⊢
        by_cases h2 : b = P
        · rw [h2, upd_same] at e1 ⊢; exact e1
        · rw [upd_ne h2] at e1 ⊢; exact s.subK b o e1 y
    · have h1 : b ≠ c' := fun z => by rw [z, upd_same] at e1; unfold LamX.CodeO MK at e1; cases e1
      rw [upd_ne h1] at e1
      have h2 : b ≠ P := fun z => by rw [z, upd_same] at e1; cases e1
      rw [upd_ne h2] at e1
      rw [upd_ne h1, upd_ne h2]
      exact s.mkd b e1
    · have h1 : b ≠ c' := fun z => by rw [z, upd_same] at e1; unfold LamX.CodeO at e1; cases e1; cases y
      rw [upd_ne h1] at e1
      have h2 : b ≠ P := fun z => by rw [z, upd_same] at e1; cases e1; cases y
      rw [upd_ne h2] at e1
      exact s.mks b o e1 y
    · have h1 : b ≠ c' := fun z => by rw [z, upd_same] at e1; unfold LamX.CodeO at e1; cases e1
      rw [upd_ne h1] at e1
      have h2 : b ≠ P := fun z => by rw [z, upd_same] at e1; cases e1
      rw [upd_ne h2] at e1
      exact (s.good b kvs e1 y).mono (Nat.le_refl _) ex
    · by_cases hb : P' = P
      · subst hb
        rw [hq] at t'
        cases t'
        refine ⟨ps' ++ more, by rw [upd_ne nPc, upd_same], ht, fun p cv hcv => ?_⟩
        rcases hc p cv hcv with z | z
        · obtain ⟨c0, e1, e2⟩ := t3 p cv z
          exact ⟨c0, e1, kp _ _ e2 LamX.codeO_ne⟩
        · exact ⟨c', z, upd_same⟩
      · obtain ⟨ps2, a1, a2, a3⟩ := s.tabs P' q' t'
        refine ⟨ps2, by rw [upd_ne (ne_of_none a1 hs), upd_ne hb]; exact a1, a2, fun p cv hcv => ?_⟩
        obtain ⟨c0, e1, e2⟩ := a3 p cv hcv
        exact ⟨c0, e1, kp _ _ e2 LamX.codeO_ne⟩
    · obtain ⟨h3, h4⟩ := s.muts b o e1
      have h1 : b ≠ c' := s.muNe e1 hs
      have h2 : b ≠ P := fun z => by rw [z, t1] at h3; cases h3
      exact ⟨by rw [upd_ne h1, upd_ne h2]; exact h3, h4.ext ex (by rw [upd_ne h1, upd_ne h2])⟩
    · have h1 : b ≠ c' := ne_of_none e1 hn
      have h2 : b ≠ P := fun z => by rw [z, t1] at e2; cases e2
      rw [upd_ne h1, upd_ne h2, upd_ne h1, upd_ne h2]
      exact ⟨e1, e2⟩
end OE

namespace OE
open PySem PySem.Spec PyProof.Rows L2
variable [TN]
/-- the names of a lambda: captured ones, globals, a parameter whose name is none of the def's -/
structure LamD (N : List Str) (sc scope : Scope) : Prop where
  kind : scope.kind = .function
  co : scope.isCoroutine = false
  gen : scope.isGenerator = false
  own : ∀ y ∈ scope.names, y.2 ≠ .cell ∧ (y.2 = .local → y.1 ∉ N)
  free : ∀ y ∈ scope.names, y.2 = .free → sc.names.lookup y.1 = some .cell ∨ sc.names.lookup y.1 = some .free
def lamDB (N : List Str) (sc scope : Scope) : Bool :=
  decide (scope.kind = .function) && !scope.isCoroutine && !scope.isGenerator && scope.names.all fun y => !decide (y.2 = .cell) && (!decide (y.2 = .local) || decide (y.1 ∉ N)) && (!decide (y.2 = .free) || decide (sc.names.lookup y.1 = some .cell) || decide (sc.names.lookup y.1 = some .free))
theorem lamD_by {N : List Str} {sc scope : Scope} (h : lamDB N sc scope = true) : LamD N sc scope := by
  unfold lamDB at h
  simp only [Bool.and_eq_true, Bool.or_eq_true, Bool.not_eq_true', decide_eq_true_eq, decide_eq_false_iff_not, List.all_eq_true] at h
  obtain ⟨⟨⟨h1, h2⟩, h3⟩, h4⟩ := h
  refine ⟨h1, h2, h3, fun y hy => ⟨(h4 y hy).1.1, fun e => ?_⟩, fun y hy e => ?_⟩
  · rcases (h4 y hy).1.2 with z | z
    · exact absurd e z
    · exact z
  · rcases (h4 y hy).2 with (z | z) | z
    · exact absurd e z
    · exact .inl z
    · exact .inr z
section
variable {X : Cx} {pins : List (Addr × Obj)} {σ : L2.St} {H HZ : Hp} {s s1 : Shared}
theorem LamD.has {scope : Scope} (L : LamD X.N X.env.scope scope) (ok : X.Ok) : ∀ y ∈ scope.names, y.2 = .free → ∃ c, X.env.cells.lookup y.1 = some c := fun y hy e => by
  rcases L.free y hy e with k | k
  · exact ok.has _ (.inl k)
  · exact ok.has _ (.inr k)
/-- the lambda's body begins -/
theorem lam_begin {A : Around} {outer : List Env} {E : XK} {scope : Scope} {f c' : Addr} {h₁ : Heap} {tk : Nat} {m : Str → Option Value} (I : Inv X pins σ H s) (L : LamD X.N X.env.scope scope) (e0 : Env0 X.prog X.w X.K X.mg X.base A outer s1 HZ) (hd : A.handled = none)
    (un : Un (frs X.stack) [] H HZ s.heap s1.heap) (hns : h₁.Ns s1.heap.objs.size m) (kp : ∀ b o, s1.heap.get? b = some o → h₁.get? b = some o) : Inv (LamX.lamCx X A outer s1 HZ E scope f c') [] σ HZ { s1 with heap := h₁, toks := tk } := by
  have hfree := L.has I.ok
  have clos : ∀ {y c}, (cloFrom X.env.cells scope.names []).lookup y = some c → X.env.cells.lookup y = some c := fun {y c} e => by
    rcases cloFrom_mem (PySem.mem_of_lookup e) with hm | ⟨h1, h2⟩
    · cases hm
    · obtain ⟨c1, hc⟩ := hfree _ h1 rfl
      have hc : X.env.cells.lookup y = some c1 := hc
      have e2 : c = c1 := by rw [h2, hc] <;> rfl
      rw [e2]; exact hc
  have caught : ∀ {y}, scope.names.lookup y = some .free → ∃ c, (cloFrom X.env.cells scope.names []).lookup y = some c := fun {y} hl => mem_lookup (cloFrom_has (cells := X.env.cells) (acc := []) (PySem.mem_of_lookup hl))
  have cellK : ∀ {c : Addr} {v : Option Value}, H c = none → s.heap.IsCell c v → h₁.IsCell c v := fun {c v} n ⟨o, ho, hd⟩ => by
    obtain ⟨sl, q⟩ := un.any ho n (by simp)
    exact ⟨_, kp _ _ q, hd⟩
  have noA : ∀ b : Addr, b ∉ (LamX.lamCx X A outer s1 HZ E scope f c').ex := fun b z => nomatch (show b ∈ ([] : List Addr) from z)
  refine ⟨⟨e0.mod, L.kind, rfl, rfl, Nat.le_refl _, fun y z c e1 e2 => I.ok.inj y z c (clos e1) (clos e2), fun y hy => ?_, fun y c z _ => (by have z : false = true := z; cases z), fun _ => hd, Around.frames_deeper e0.frames, .inr ⟨rfl, rfl⟩, fun b z => absurd z (noA b), e0.bs, e0.bsz, fun b _ _ => noA b, fun b z => absurd z (noA b), e0.funs, e0.frf⟩,
    rfl, e0.bare, Un.kept kp, ⟨_, hns, fun i y v e1 e2 e3 => ?_⟩, fun y c e => ?_, e0.hok.fresh (Nat.le_refl _), fun y c e => ?_, fun q hq => (nomatch (show q ∈ ([] : List (Addr × Obj)) from hq)), e0.hok.kept kp, I.len⟩
  · have hy : scope.names.lookup y = some .cell ∨ scope.names.lookup y = some .free := hy
    rcases hy with hy | hy
    · exact absurd rfl (L.own _ (PySem.mem_of_lookup hy)).1
    · exact caught hy
  · have e3 : Vis scope y := e3
    have e1 : X.N[i]? = some y := e1
    rcases e3 with k | k | k
    · exact absurd (List.mem_of_getElem? e1) ((L.own _ (PySem.mem_of_lookup k)).2 rfl)
    · exact absurd rfl (L.own _ (PySem.mem_of_lookup k)).1
    · obtain ⟨m', hn, hl⟩ := I.loc
      have hvis : Vis X.env.scope y := (L.free _ (PySem.mem_of_lookup k) rfl).elim (fun k => .inr (.inl k)) (fun k => .inr (.inr k))
      obtain ⟨w', r, q⟩ := hl i y v e1 e2 hvis
      obtain ⟨c2, h2⟩ := caught k
      refine ⟨w', r, .inr ⟨.inr k, c2, h2, ?_⟩⟩
      have c1 := clos h2
      rcases q with ⟨k', _⟩ | ⟨_, c3, e', z⟩
      · have k' : X.env.scope.names.lookup y = some .local := k'
        rcases L.free _ (PySem.mem_of_lookup k) rfl with k2 | k2 <;> rw [show X.env.scope.names.lookup y = _ from k2] at k' <;> cases k'
      · rw [c1] at e'
        cases e'
        exact cellK (I.freeC y _ c1) z
  · obtain ⟨w', z⟩ := I.cell y c (clos e)
    exact ⟨w', cellK (I.freeC y c (clos e)) z⟩
  · obtain ⟨v, o, ho, hd⟩ := I.cell y c (clos e)
    exact un.free c o ho (I.freeC y c (clos e)) (by simp)
/-- a lambda keeps its contract -/
theorem clo_made {Γ : Gam} {kb : Nat} {scope : Scope} {f c' : Addr} {params : Arguments} {body : Expr} {dV doc pm ctv : Value} {q : Str} {binds : List (Str × Value)} {tb : Ev → Wp D} {Hs : Hp} {ρ : Ev} (I : Inv X pins σ H s) (L : LamD X.N X.env.scope scope)
    (hf : s.heap.get? f = some (PySem.W.kdv_obj "<lambda>" q params (.expr body) scope (cloFrom X.env.cells scope.names []) dV doc pm c' ctv)) (eq : q = X.env.qual ++ "<lambda>") (hfn : H f = none) (hfr : f ∉ frs X.stack) (hc : Hs c' = some (LamX.CodeO c' q)) (r : R X.K ρ σ Hs)
    (hbind : ∀ s' : Shared, (∀ b o, s.heap.get? b = some o → H b = none → b ∉ frs X.stack → s'.heap.get? b = some o) → BindsTo s' (PySem.W.kdv_fn "<lambda>" q params (.expr body) scope (cloFrom X.env.cells scope.names []) dV doc pm (.ref c') ctv) ⟨[], []⟩ binds) (hpar : ∀ y ∈ binds, scope.names.lookup y.1 = some .local)
    (hbody : ∀ (A : Around) (outer : List Env) (s : Shared) (H : Hp) (E : XK), Room kb (LamX.lamCx X A outer s H E scope f c').A → (LamX.lamCx X A outer s H E scope f c').A.guards = some [] → Takes (LamX.lamCx X A outer s H E scope f c') (wOf E) →
      DE Γ (LamX.lamCx X A outer s H E scope f c') (wOf E) body tb) : Clo X.prog X.w X.K X.mg X.base Γ (kb + 1) (frs X.stack) s H Hs f (tb ρ) := by
  subst eq
  refine ⟨⟨_, _, _, _, hf⟩, hfn, hfr, fun A outer s' H' Hs' n q x Q E hr hg e0 un ext st hF k1 k2 => ?_⟩
  have of1 := un.keep f _ hf hfn hfr (fun z => nomatch z)
  have hc2 : H' c' = some (LamX.CodeO c' (X.env.qual ++ "<lambda>")) := st.sub _ _ ((ext _ _ hc).1 rfl)
  obtain ⟨⟨oc, vs, t, hoc, hdc, hvc⟩, _, _⟩ := e0.hok c' _ hc2
  have nl : s'.heap.NoLimit := e0.mod.nolimit.keeps fun b o e => (e0.bs b o e).1
  refine PySem.W.kla_callFunE hr.depth of1 rfl L.co L.gen rfl ⟨c', oc, vs, t, rfl, hoc, hdc, hvc⟩ (hbind s' (fun b o e1 e2 e3 => un.keep b o e1 e2 e3 (fun z => nomatch z)) _ _ _ _ ?_)
  refine wpAny_newFunctionEnv (fun y hy => (L.own y hy).1) hpar (fun h₁ hns hsb => ⟨nl.fresh _ hsb, ?_⟩) L.kind
  show codeAny _ _ (.expr body (LamX.lamEnv X scope s'.heap.objs.size f c')) _ _
  have kp : ∀ b o, s'.heap.get? b = some o → h₁.get? b = some o := fun b o e => hsb.extBut b o (Nat.ne_of_lt (Heap.lt_size e)) (Heap.get?_push_of_some _ e)
  have J : Inv (LamX.lamCx X A outer s' H' E scope f c') [] σ H' { s' with heap := h₁, toks := s'.toks + binds.length } := lam_begin I L e0 hr.hd un hns kp
  obtain ⟨te, p, g⟩ := hbody A outer s' H' E (hr.deeper _) hg (takes_of rfl rfl rfl rfl)
  refine PySem.W.kla_codeExpr (wpAny_mono (p.run [] _ _ H' Q J (g σ H' Hs' ρ n q x Q st (r.ext ext) hF k1 k2)) (fun v s'' hq => ?_) fun e s'' hq => hq)
  obtain ⟨w', H'', J', rv, q'⟩ := hq
  exact ⟨w', H'', J'.os, J'.bare, J'.base, J'.hok, rv, q'⟩
end
end OE

namespace OE
open PySem PySem.Spec PyProof.Rows L2
variable [TN]
/-! ### g(lambda: e) -/
def tlam (F : Th → List D → Wp D) (tb : Ev → Wp D) : Ev → Wp D := fun ρ n q x => ∀ (f : Addr) (Hs0 : Hp), F (fun a => if a = f then some (Hs0, tb ρ) else none) [.clo f Hs0] n q x
section
variable {Γ : Gam} {X : Cx} {W : WX} {pos : Pos}
/-- what the callee is given -/
def lamAsk (Γ : Gam) (X : Cx) (W : WX) (P : Addr) (F : Th → List D → Wp D) (tb : Ev → Wp D) : TE := fun σ H Q => ∃ (n : S) (Hs : Hp) (ρ : Ev) (q : D → S → Prop) (x : Exn → S → Prop), Sit X.K n Hs H ∧ R X.K ρ σ Hs ∧ tlam F tb ρ n q x ∧ OkQ X.K Hs H q Q ∧ OkE X.K Γ Hs H x (fun c d h => W c d σ h)
/-- the callee runs, the lambda made -/
theorem lam_give {k kb : Nat} {F : Th → List D → Wp D} {tb : Ev → Wp D} {params : Arguments} {body : Expr} {scope : Scope} {P f c' : Addr} {ps : Array Value} {dV doc pm ctv : Value} {binds : List (Str × Value)} {pins : List (Addr × Obj)} {σ : L2.St} {H H1 Hs : Hp} {s' : Shared} {ρ : Ev} {n : S} {q : D → S → Prop} {x : Exn → S → Prop} {Q : VK} {ga : Addr} {fd : FuncData} {ps' : List Str}
    (hq : TN.nm P = some (X.env.qual ++ "<lambda>")) (hr : Room k X.A) (hgd : X.A.guards = some []) (tk : Takes X W) (L : LamD X.N X.env.scope scope)
    (run : ∀ (A : Around) (outer : List Env) (s : Shared) (H : Hp) (args : Args) (us : List Value) (vs : List V) (Q : VK) (E : XK) (Θ : Th) (n : S) (Hs : Hp) (ds : List D) (q : D → S → Prop) (x : Exn → S → Prop),
      Room k A → A.guards = some [] → Env0 X.prog X.w X.K X.mg X.base A outer s H → BindsTo s fd args (ps'.zip us) → Vals vs us → Clos X.prog X.w X.K X.mg X.base Γ (kb + 1) (frs outer) s H Θ → ds.length = 1 → Sit X.K n Hs H → DvAll X.K Hs vs ds → F Θ ds n q x → OkQ X.K Hs H q Q → OkE X.K Γ Hs H x E →
      codeAny (model X.prog X.w) A (.call (.ref ga) args) (CR (L2.CX X.prog X.w) outer X.prog X.w H s Q E) s) (hlen : ps'.length = 1) (hb : Binds X.K fd ps' [])
    (hbody : ∀ (f c' : Addr) (A : Around) (outer : List Env) (s : Shared) (H : Hp) (E : XK), Room kb (LamX.lamCx X A outer s H E scope f c').A → (LamX.lamCx X A outer s H E scope f c').A.guards = some [] → Takes (LamX.lamCx X A outer s H E scope f c') (wOf E) → DE Γ (LamX.lamCx X A outer s H E scope f c') (wOf E) body tb)
    (hP : H P = some (.tbl ps)) (st : Sit X.K n Hs H) (r : R X.K ρ σ Hs) (h : tlam F tb ρ n q x) (k1 : OkQ X.K Hs H q Q) (k2 : OkE X.K Γ Hs H x (fun c d h => W c d σ h)) (ts : TabStep H P (X.env.qual ++ "<lambda>") ps H1 c') (I1 : Inv X pins σ H1 s')
    (hf : s'.heap.get? f = some (PySem.W.kdv_obj "<lambda>" (X.env.qual ++ "<lambda>") params (.expr body) scope (cloFrom X.env.cells scope.names []) dV doc pm c' ctv)) (hfn : H1 f = none) (hfr : f ∉ frs X.stack)
    (hbind : ∀ s2 : Shared, (∀ b o, s'.heap.get? b = some o → H1 b = none → b ∉ frs X.stack → s2.heap.get? b = some o) → BindsTo s2 (PySem.W.kdv_fn "<lambda>" (X.env.qual ++ "<lambda>") params (.expr body) scope (cloFrom X.env.cells scope.names []) dV doc pm (.ref c') ctv) ⟨[], []⟩ binds) (hpar : ∀ y ∈ binds, scope.names.lookup y.1 = some .local) :
    wpAny (model X.prog X.w) X.A (call (.ref ga) [.ref f]) (EP X pins σ Q) X.xe s' := by
  obtain ⟨Hs1, s1, g1, hc1⟩ := st.tab hq hP ts
  have C := clo_made (Γ := Γ) (kb := kb) (tb := tb) (ρ := ρ) I1 L hf rfl hfn hfr hc1 (r.ext g1.ext) hbind hpar (fun A outer s H E => hbody f c' A outer s H E)
  have hbb := hb s' [.ref f] I1.kIn (by simp [hlen])
  refine wpAny_call (codeAny_mono (run X.A X.stack s' H1 ⟨[.ref f], []⟩ [.ref f] [.ref f] Q (WE W σ) (fun a => if a = f then some (Hs1, tb ρ) else none) n Hs1 [.clo f Hs1] q x hr hgd I1.env0 hbb (.cons rfl .nil) (fun a Hs0 F' e => ?_) rfl s1 (.cons (.clo (.refl _)) .nil) (h f Hs1) (k1.go g1) (k2.go g1)) fun y s2 hy => ?_)
  · dsimp only at e
    by_cases z : a = f
    · rw [if_pos z] at e
      cases e
      rw [z]
      exact C
    · rw [if_neg z] at e
      cases e
  · rcases y with e | (_ | _ | _ | u)
    · exact passAt tk σ pins H1 s' e s2 I1 hy
    · exact False.elim hy
    · exact False.elim hy
    · exact False.elim hy
    · exact I1.after hy
theorem d_lam0 {g : Str} {k kb : Nat} {F : Th → List D → Wp D} {tb : Ev → Wp D} {params : Arguments} {body : Expr} {scope : Scope} {c P : Addr} {p lpos : Pos} (G : FnC Γ X.prog X.w X.K X.mg X.base g k (kb + 1) 1 F) (TB : LamX.TabB X.base X.mg c P) (hcode : X.env.code = .ref c) (hq : TN.nm P = some (X.env.qual ++ "<lambda>"))
    (hr : Room k X.A) (hgd : X.A.guards = some []) (tk : Takes X W)
    (hbody : ∀ (f c' : Addr) (A : Around) (outer : List Env) (s : Shared) (H : Hp) (E : XK), Room kb (LamX.lamCx X A outer s H E scope f c').A → (LamX.lamCx X A outer s H E scope f c').A.guards = some [] → Takes (LamX.lamCx X A outer s H E scope f c') (wOf E) → DE Γ (LamX.lamCx X A outer s H E scope f c') (wOf E) body tb)
    (L : lamDB X.N X.env.scope scope = true := by first | rfl | with_unfolding_all rfl | kernel_rfl) (hdef : defaultsOf params X.env = ([], []) := by rfl)
    (hbind : ∀ (q : Str) (cl : List (Str × Addr)) (doc pm cv ctv : Value), bindArgs (PySem.W.kdv_fn "<lambda>" q params (.expr body) scope cl .none doc pm cv ctv) ⟨[], []⟩ = pure [] := by intros; rfl) (hg : Gl X g := by rfl) (hdb : (g == ("__debug__" : Str)) = false := by decide) :
    DE Γ X W (.Call (.Name g p) [.Lambda params body scope lpos] [] pos) (tlam F tb) := by
  obtain ⟨ga, fd, ps', hlen, hm, hk, hb, run⟩ := G
  refine ⟨lamAsk Γ X W P F tb, ⟨fun pins s σ H Q I h => ?_⟩, fun σ H Hs ρ n q x Q s r h k ke => ⟨n, Hs, ρ, q, x, s, r, h, k, ke⟩⟩
  obtain ⟨n, Hs, ρ, q, x, st, r, hF, k1, k2⟩ := h
  have L := lamD_by L
  obtain ⟨tps, t1, t2, t3⟩ := st.tabs P _ hq
  refine wpAny_Call_Name_kw (ld_glob I hg hm ?_ hdb)
  refine PySem.W.callWith_K (h₀ := X.base) I.ok.mod.kin hk ?_ (by rfl) (by rfl)
  show wpAny _ _ (spliced ((false, eval (.Lambda params body scope lpos) X.env) :: backTo pos (starEach [] X.env))) _ _ s
  refine Calls.spliced_cons (PySem.W.kla_eval hdef ?_)
  rw [makeFunction_eq]
  simp only [List.zip_nil_right, List.filterMap_nil, List.isEmpty_nil, if_true, pure_bind]
  refine lam_mk (dV := .none) I TB hcode (st.sub _ _ t1) t2 (fun p cv hc => (t3 p cv hc).imp fun _ z => z.1) (L.has I.ok) fun f c' doc pm ctv H1 s' ts I1 hf hfn hfr _ _ => ?_
  refine Calls.spliced_nil ⟨I1.kIn, ?_⟩
  show wpAny (model X.prog X.w) X.A (call (Value.ref ga) [Value.ref f]) (EP X pins σ Q) X.xe s'
  exact lam_give (ga := ga) hq hr hgd tk L run hlen hb hbody (st.sub _ _ t1) st r hF k1 k2 ts I1 hf hfn hfr (fun s2 _ => BindsTo.of_eq (hbind _ _ _ _ _ _)) (fun y hy => nomatch hy)
end
end OE

namespace OE
open PySem PySem.Spec PyProof.Rows L2
variable [TN]
section
variable {Γ : Gam} {X : Cx} {W : WX} {pos : Pos}
/-- g(lambda x=0: e) -/
theorem d_lam1 {g y : Str} {k kb : Nat} {F : Th → List D → Wp D} {tb : Ev → Wp D} {params : Arguments} {body : Expr} {scope : Scope} {c P : Addr} {p lpos dp : Pos} {i : Int} {j : Nat} (G : FnC Γ X.prog X.w X.K X.mg X.base g k (kb + 1) 1 F) (TB : LamX.TabB X.base X.mg c P) (hcode : X.env.code = .ref c) (hq : TN.nm P = some (X.env.qual ++ "<lambda>"))
    (hr : Room k X.A) (hgd : X.A.guards = some []) (tk : Takes X W)
    (hbody : ∀ (f c' : Addr) (A : Around) (outer : List Env) (s : Shared) (H : Hp) (E : XK), Room kb (LamX.lamCx X A outer s H E scope f c').A → (LamX.lamCx X A outer s H E scope f c').A.guards = some [] → Takes (LamX.lamCx X A outer s H E scope f c') (wOf E) → DE Γ (LamX.lamCx X A outer s H E scope f c') (wOf E) body tb)
    (hdf : params.defaults = [.Constant (.int i) j dp] := by rfl) (hk0 : params.kw_defaults = [] := by rfl)
    (L : lamDB X.N X.env.scope scope = true := by first | rfl | with_unfolding_all rfl | kernel_rfl)
    (hbind : ∀ (q : Str) (cl : List (Str × Addr)) (T0 : Addr) (doc pm cv ctv v : Value), ∃ kk, bindArgs (PySem.W.kdv_fn "<lambda>" q params (.expr body) scope cl (.ref T0) doc pm cv ctv) ⟨[], []⟩ = seqItems? (.ref T0) >>= kk ∧ kk (some [v].toArray) = pure [(y, v)] := by intros; exact ⟨_, rfl, rfl⟩)
    (hpar : scope.names.lookup y = some .local := by rfl) (hg : Gl X g := by rfl) (hdb : (g == ("__debug__" : Str)) = false := by decide) :
    DE Γ X W (.Call (.Name g p) [.Lambda params body scope lpos] [] pos) (tlam F tb) := by
  obtain ⟨ga, fd, ps', hlen, hm, hk, hb, run⟩ := G
  refine ⟨lamAsk Γ X W P F tb, ⟨fun pins s σ H Q I h => ?_⟩, fun σ H Hs ρ n q x Q s r h k ke => ⟨n, Hs, ρ, q, x, s, r, h, k, ke⟩⟩
  obtain ⟨n, Hs, ρ, q, x, st, r, hF, k1, k2⟩ := h
  have L := lamD_by L
  obtain ⟨tps, t1, t2, t3⟩ := st.tabs P _ hq
  refine wpAny_Call_Name_kw (ld_glob I hg hm ?_ hdb)
  refine PySem.W.callWith_K (h₀ := X.base) I.ok.mod.kin hk ?_ (by rfl) (by rfl)
  show wpAny _ _ (spliced ((false, eval (.Lambda params body scope lpos) X.env) :: backTo pos (starEach [] X.env))) _ _ s
  refine Calls.spliced_cons (PySem.W.kdv_lam (by rw [hdf]; rfl) hk0 ?_)
  rw [hdf]
  refine PySem.W.kdv_all1 (thn ((pe_int (X := X) (i := i) (j := j) (pos := dp)).run pins s σ H (fun v H' => v = .int i ∧ H' = H) I ⟨rfl, rfl⟩) fun v s0 hv => ?_)
  obtain ⟨v0, H0, I0, _, hv1, hv2⟩ := hv
  rw [hv2] at I0
  refine PySem.W.kdv_all0 ?_
  rw [makeFunction_eq]
  simp only [List.zip_nil_right, List.filterMap_nil, List.isEmpty_nil, List.isEmpty_cons, if_true, pure_bind, Bool.false_eq_true, if_false]
  refine wpAny_bind (wpAny_newTextTuple ?_)
  have I2 : Inv X pins σ H { s0 with heap := s0.heap.push { cls := .type "tuple", data := .seq [v].toArray } } := I0.kept (t' := s0.toks) fun b o e => Heap.get?_push_of_some _ e
  have hT0 : (s0.heap.push { cls := .type "tuple", data := .seq [v].toArray }).get? s0.heap.objs.size = some { cls := .type "tuple", data := .seq [v].toArray } := Heap.get?_push_size _ rfl
  have nT0 : H s0.heap.objs.size = none := I0.hok.fresh (Nat.le_refl _)
  have fT0 : s0.heap.objs.size ∉ frs X.stack := fun z => by
    rcases List.mem_cons.mp (I0.stkSub _ z) with e | e
    · exact Nat.lt_irrefl _ (by have := I0.lt; rw [← e] at this; exact this)
    · exact I0.nofs (Nat.le_refl _) e
  refine lam_mk (dV := .ref s0.heap.objs.size) I2 TB hcode (st.sub _ _ t1) t2 (fun p cv hc => (t3 p cv hc).imp fun _ z => z.1) (L.has I.ok) fun f c' doc pm ctv H1 s' ts I1 hf hfn hfr kp kn => ?_
  refine Calls.spliced_nil ⟨I1.kIn, ?_⟩
  show wpAny (model X.prog X.w) X.A (call (Value.ref ga) [Value.ref f]) (EP X pins σ Q) X.xe s'
  have hTs := kp _ _ (ne_of_none (st.sub _ _ t1) nT0).symm hT0
  refine lam_give (ga := ga) (binds := [(y, v)]) hq hr hgd tk L run hlen hb hbody (st.sub _ _ t1) st r hF k1 k2 ts I1 hf hfn hfr (fun s2 hk2 => ?_) (fun z hz => ?_)
  · obtain ⟨kk, e1, e2⟩ := hbind (X.env.qual ++ "<lambda>") (cloFrom X.env.cells scope.names []) s0.heap.objs.size doc pm (.ref c') ctv v
    exact BindsTo.of_defaults rfl (hk2 _ _ hTs (kn _ _ hT0 nT0) fT0) rfl e1 e2
  · rcases List.mem_cons.mp hz with e | e
    · rw [e]; exact hpar
    · exact nomatch e
end
end OE

namespace OE
open PySem PySem.Spec L2
variable [TN]
section
variable {Γ : Gam} {X : Cx} {W : WX} {a : Expr} {ta : Ev → Wp D} {pos : Pos}
/-- *e among the items of a tuple -/
def tstar (t : Ev → Wp D) (r : Ev → Wp (List D)) : Ev → Wp (List D) := fun ρ => Wp.bind (t ρ) fun d => match d with
  | .tup l => Wp.bind (r ρ) fun xs => Wp.ret (l ++ xs)
  | .lst l => Wp.bind (r ρ) fun xs => Wp.ret (l ++ xs)
  | _ => Wp.stuck
theorem da_star {es : List Expr} {r : Ev → Wp (List D)} {p : Pos} (ha : DE Γ X W a ta) (hr : DA Γ X W es r) (hs : starEach (.Starred a p :: es) X.env = (true, eval a X.env) :: starEach es X.env := by rfl) : DA Γ X W (.Starred a p :: es) (tstar ta r) := by
  obtain ⟨te, pe, fe⟩ := ha
  obtain ⟨tr, pr, fr⟩ := hr
  refine ⟨_, StX.pa_star pe pr hs, fun σ H Hs ρ n q x Q s rr h k ke => fe σ H Hs ρ n _ x _ s rr h (fun v H1 Hs1 d n1 g1 s1 hv h1 => ?_) ke⟩
  cases hv with
  | @tup b xs ds e1 g =>
    refine ⟨b, xs, rfl, .inl (s1.same.tup e1), fr σ H1 Hs1 ρ n1 _ x _ s1 (rr.ext g1.ext) h1 (fun vs H2 Hs2 ds2 n2 g2 s2 hvs h2 => ?_) (ke.go g1)⟩
    exact k _ H2 Hs2 _ n2 (g1.trans g2) s2 ((g.ext g2.ext).append hvs) h2
  | @lst b xs ds e1 g =>
    refine ⟨b, xs, rfl, .inr (SqL.of (s1.sub _ _ e1)), fr σ H1 Hs1 ρ n1 _ x _ s1 (rr.ext g1.ext) h1 (fun vs H2 Hs2 ds2 n2 g2 s2 hvs h2 => ?_) (ke.go g1)⟩
    exact k _ H2 Hs2 _ n2 (g1.trans g2) s2 ((g.ext g2.ext).append hvs) h2
  | _ => exact (show False from h1).elim
end
end OE

namespace OE
open PySem PySem.Spec PyProof.Rows L2
variable [TN]
/-- what the clauses wish, one after the other: each has its class, its name's slot, its suite's reading -/
def wXs (K : PySem.W.Frag) (Wout : WX) (D : Ends) : List (Value × Nat × TS) → WX
  | [] => Wout
  | (c, i, ts) :: r => fun cls d σ H => ∃ b, PySem.W.exmOne K cls c = some b ∧ (b = true → ∃ C, cls = .ref C ∧ ∀ a, H a = none → ts { nx := fun σ' H' => D.nx (σ'.set i none) H', rt := D.rt, bk := fun σ' H' => D.bk (σ'.set i none) H', ct := fun σ' H' => D.ct (σ'.set i none) H' } (σ.set i (some (.ref a))) (upd H a (ExF C d a))) ∧ (b = false → wXs K Wout D r cls d σ H)
inductive HdX (X : Cx) : List ExceptHandler → List (Value × Nat × TS) → Prop
  | nil : HdX X [] []
  | cons {x n : Str} {c : Value} {i : Nat} {ts : TS} {b₀ : Stmt} {suite : List Stmt} {np pos' : Pos} {hds : List ExceptHandler} {l : List (Value × Nat × TS)} (hi : X.N[i]? = some n) (hln : X.env.kindOf n = some .local) (hc : Names X x c)
      (hsu : ∀ (a : Addr) (pn : List (Addr × Obj)), PSs (X.suite a pn) (b₀ :: suite) ts) (r : HdX X hds l) : HdX X (.ExceptHandler (some (.Name x np)) (some n) (b₀ :: suite) pos' :: hds) ((c, i, ts) :: l)
section
variable {X : Cx} {body : List Stmt} {h₀ : ExceptHandler} {hds₀ : List ExceptHandler} {l₀ : List (Value × Nat × TS)} {pos : Pos} {tb : WX → TS} {Wout : WX}
theorem ps_try_xs (hex : X.ex = []) (hs : X.stack = X.env :: X.outer) (hf : X.env.frame = some X.env.locals) (hN : X.N.Nodup) (tk : Takes X Wout)
    (hb : ∀ (W : WX) (pn : List (Addr × Obj)) (xe : Value → Shared → Prop), Takes (X.tr pn xe) W → PassesOwn (model X.prog X.w) X.A X.env xe → PSs (X.tr pn xe) body (tb W))
    (hh : HdX X (h₀ :: hds₀) l₀) : PS X (.Try body (h₀ :: hds₀) [] [] pos) (fun D σ H => tb (wXs X.K Wout D l₀) D σ H) := by
  refine ⟨fun pins s σ H D I h => ?_⟩
  have ok := I.ok
  have hfr : X.A.frames = some (X.env :: X.outer) := by rw [ok.frames, hs]
  refine wpAny_Try_except ?_
  refine wpAny_mono ((hb (wXs X.K Wout D l₀) (X.pn ++ pins) (fun e s₁ => wpAny (model X.prog X.w) X.A (noteFrame e X.env) (fun _ s₂ => wpAny (model X.prog X.w) X.A (setFlight e none) (fun _ s₃ =>
    wpAny (model X.prog X.w) X.A (handleBy e X.env (h₀ :: hds₀)) (SP X pins D) X.xe s₃) X.xe s₂) X.xe s₁) (fun u s' xx => ?_) PassesOwn.looking).run [] s σ H D (I.toTry _) h) (fun f s1 hsp => ?_) (fun e s1 he => he)
  · obtain ⟨a, B, sI, pins', σ', H', cls, d, rfl, J', nb, up, sky, na, os, ag, wx⟩ := xx
    have J : Inv X pins σ' H' sI := J'.ofTry ok
    have sky' : Sky B (X.env :: X.outer) a (Zc cls d) X.env.locals s'.heap := by rw [← hs]; exact sky
    show wpAny (model X.prog X.w) X.A (noteFrame (.ref a) X.env) _ _ _
    refine Sky.land Zc.steady hfr hf sky' fun h3 fl3 up3 => ?_
    have J3 : Inv X pins σ' H' { s' with heap := h3 } := J.landed nb fl3.1 (up.trans up3) os ag
    obtain ⟨oe3, vs3, he3, hz3, hd3⟩ := fl3.there
    have notFr : ∀ {h : Heap} {o : Obj} {vs : Array Value}, h.FunFrames B (X.env :: X.outer) → h.get? a = some o → o.data = .fields vs → a ∉ frs (X.env :: X.outer) := fun {h o vs} ff e dd hm => by
      obtain ⟨_, o', e', hnf⟩ := ff.mem hm
      rw [e] at e'; cases e'
      exact hnf _ dd
    have nfr := notFr fl3.2.2.1 he3 hd3
    have nL : a ≠ X.env.locals := fun z => nfr (List.mem_filterMap.mpr ⟨X.env, List.mem_cons_self, by rw [hf, z]⟩)
    have nF : a ∉ X.fs := fun hm => by
      obtain ⟨e, he, q⟩ := List.mem_filterMap.mp hm
      exact nfr (List.mem_filterMap.mpr ⟨e, List.mem_cons_of_mem _ he, q⟩)
    have nI : sI.heap.get? a = none := by
      cases e : sI.heap.get? a with
      | none => rfl
      | some o =>
        have z := nb a o e (by rw [hs]; exact nfr)
        have k2 := fl3.2.1
        rw [k2] at z; cases z
    have each : ∀ {hds : List ExceptHandler} {l : List (Value × Nat × TS)}, HdX X hds l → wXs X.K Wout D l cls d σ' H' → wpAny (model X.prog X.w) X.A (handleBy (.ref a) X.env hds) (SP X pins D) X.xe { s' with heap := h3 } := by
      intro hds l hk
      induction hk with
      | nil =>
        intro hno
        refine wpAny_handleBy_nil ?_
        obtain ⟨k1, k2, k3, oe, vs, T, oT, ts', he, hz, hd, h1, hr⟩ := id fl3
        unfold PySem.passOn
        refine wpAny_bind (wpAny_field he hd h1 ?_)
        rw [if_neg (show ¬ ((Value.ref T == Value.none) = true) from by simp)]
        have fin : wpAny (model X.prog X.w) X.A (setFlight (.ref a) X.env.frame) (fun _ s4 => wpAny (model X.prog X.w) X.A (throw (.ref a) : Sem Flow) (SP X pins D) X.xe s4) X.xe { s' with heap := h3 } := by
          rw [hf]
          refine HandSPX.setFlight_upZ fl3 fun h4 hh4 up4 => wpAny_throw (tk _ _ ?_)
          exact ⟨a, B, sI, pins, σ', H', cls, d, rfl, J, nb, (up.trans up3).trans up4, .inr (.inr (by rw [hs]; exact hh4)), na, os, ag, hno⟩
        first
          | exact wpAny_bind (wpAny_pure (wpAny_bind fin))
          | exact wpAny_bind fin

      | @cons x n c i ts b₀ suite np pos' hds l hi hln hc hsu _ ih =>
        rintro ⟨b, hb1, hyes, hno⟩
        have hloc : Loc X.env.scope n := .inl hln
        have S3 := J3.suite he3 hd3 na nL nF
        refine wpAny_handleBy_cons (codeAny_handlers_test ?_) (by intro q; cases q)
        have LT : PySem.W.Looks (model X.prog X.w) h3 (typeOf (.ref a)) cls := fun A Q E s k q => wpAny_typeOf_ref (k _ _ he3) (by rw [hz3.1]; exact q)
        have LM := PySem.W.exm_one (M := model X.prog X.w) (J3.kIn) LT hb1
        have test : ∀ {Q : Value → Shared → Prop} {E : Value → Shared → Prop}, Q c { s' with heap := h3 } → wpAny (model X.prog X.w) (X.A.mark (some (.ref a))) (eval (.Name x np) X.env) Q E { s' with heap := h3 } := fun {Q E} q => by
          obtain ⟨hg, hdbg, hm | ⟨hm, hv, hnn⟩⟩ := hc
          · exact ld_glob (X := X.suite a ((a, oe3) :: (X.pn ++ pins))) S3 hg hm q hdbg
          · exact ld_blt (X := X.suite a ((a, oe3) :: (X.pn ++ pins))) S3 hg hm hv q hnn hdbg
        refine test (LM.here ?_)

        cases b with
        | true =>
          obtain ⟨C, rfl, hy2⟩ := hyes rfl
          refine codeAny_handlers_suite_as ?_
          refine HandSPX.lands_againZ fl3 fun h4 fl4 up4 => ?_
          have J4 : Inv X pins σ' H' { s' with heap := h4 } := J.landed nb fl4.1 ((up.trans up3).trans up4) os ag
          obtain ⟨oe4, vs4, he4, hz4, hd4⟩ := fl4.there
          have S4 := inv_caught J4 J hex nI he4 hz4 hd4 na nL
          refine store_ok (X := X.suite a (X.pn ++ pins)) (v := .ref a) S4 hN hi hloc rfl (fun s5 S5 => ?_) (.inr hln)
          refine wpAny_mono ((hsu a (X.pn ++ pins)).run [] s5 _ _ _ S5 (hy2 a na)) (fun f s6 hsp => ?_) (fun _ _ z => False.elim z)
          have end_ : ∀ {σ6 : Slots} {H6 : Hp} {Q : Shared → Prop}, Inv (X.suite a (X.pn ++ pins)) [] σ6 H6 s6 → (∀ s7, Inv X pins (σ6.set i none) H6 s7 → Q s7) →
              wpAny (model X.prog X.w) X.A (do bindName X.env n .none; unbindBehindTheSuite X.env n pos') (fun _ s7 => Q s7) X.xe s6 := fun {σ6 H6 Q} S6 hq => gone_ok (inv_unsuite S6 ok) hN hi hln hq
          cases f with
          | next =>
            obtain ⟨σ6, H6, S6, q6⟩ := hsp
            exact end_ S6 fun s7 J7 => ⟨_, _, J7, q6⟩
          | brk =>
            obtain ⟨σ6, H6, S6, q6⟩ := hsp
            exact end_ S6 fun s7 J7 => ⟨_, _, J7, q6⟩
          | cont =>
            obtain ⟨σ6, H6, S6, q6⟩ := hsp
            exact end_ S6 fun s7 J7 => ⟨_, _, J7, q6⟩
          | ret u =>
            obtain ⟨v6, σ6, H6, S6, r6, q6⟩ := hsp
            exact end_ S6 fun s7 J7 => ⟨_, _, _, J7, r6, q6⟩

        | false => exact ih (hno rfl)
    exact each hh wx
  · cases f with
    | next =>
      obtain ⟨σ', H', J', q⟩ := hsp
      exact wpAny_execs_nil ⟨σ', H', J'.ofTry ok, q⟩
    | brk =>
      obtain ⟨σ', H', J', q⟩ := hsp
      exact ⟨σ', H', J'.ofTry ok, q⟩
    | cont =>
      obtain ⟨σ', H', J', q⟩ := hsp
      exact ⟨σ', H', J'.ofTry ok, q⟩
    | ret u =>
      obtain ⟨v, σ', H', J', r, q⟩ := hsp
      exact ⟨v, σ', H', J'.ofTry ok, r, q⟩
end
end OE

namespace OE
open PySem PySem.Spec PyProof.Rows L2
variable [TN]
abbrev Hds := List ((Str → Bool) × Nat × (Ev → Wp Out))
/-- the clauses of a try, one after the other -/
def catchN (Γ : Gam) (ρ : Ev) (q : Out → S → Prop) (x : Exn → S → Prop) : Hds → Exn → S → Prop
  | [] => x
  | (mt, i, su) :: r => fun e n' => if mt e.cls = true then ∀ C, Γ e.cls = some C → su (ρ.set i (some (.exn e.cls C e.arg.toList))) n' (fun o n2 => q (o.unset i) n2) (fun _ _ => False) else catchN Γ ρ q x r e n'
def ttryN (Γ : Gam) (hs : Hds) (tb : Ev → Wp Out) : Ev → Wp Out := fun ρ n q x => tb ρ n q (catchN Γ ρ q x hs)
inductive HdD (Γ : Gam) (X : Cx) : List ExceptHandler → Hds → List (Value × Nat × TS) → Prop
  | nil : HdD Γ X [] [] []
  | cons {x n : Str} {cv : Value} {i : Nat} {mt : Str → Bool} {su : Ev → Wp Out} {b₀ : Stmt} {suite : List Stmt} {np pos' : Pos} {hds : List ExceptHandler} {hs : Hds} {l : List (Value × Nat × TS)} (hi : X.N[i]? = some n) (hln : X.env.kindOf n = some .local) (hc : Names X x cv)
      (hm : ∀ nm C, Γ nm = some C → PySem.W.exmOne X.K (.ref C) cv = some (mt nm)) (hsu : ∀ (a : Addr) (pn : List (Addr × Obj)), DB Γ (X.suite a pn) W0 (b₀ :: suite) su) (r : HdD Γ X hds hs l) :
      HdD Γ X (.ExceptHandler (some (.Name x np)) (some n) (b₀ :: suite) pos' :: hds) ((mt, i, su) :: hs) ((cv, i, tsD Γ X.K W0 su) :: l)
section
variable {Γ : Gam} {X : Cx} {W : WX} {a : Expr} {ta : Ev → Wp D} {pos : Pos} {hds : List ExceptHandler} {hs : Hds} {l : List (Value × Nat × TS)}
theorem HdD.hdx (h : HdD Γ X hds hs l) : HdX X hds l := by
  induction h with
  | nil => exact .nil
  | cons hi hln hc _ hsu _ ih => exact .cons hi hln hc (fun a pn => (hsu a pn).ps) ih
theorem wXs_of (hd : HdD Γ X hds hs l) {ρ : Ev} {σ : Slots} {H Hs : Hp} {q : Out → S → Prop} {ex : Exn → S → Prop} {E : Ends} (r : R X.K ρ σ Hs) (k : OkO X.K Hs H q E) (ke : OkX X.K Γ Hs H ex W) :
    OkE X.K Γ Hs H (catchN Γ ρ q ex hs) (fun cl d h => wXs X.K W E l cl d σ h) := by
  induction hd with
  | nil => exact ke σ
  | @cons x n cv i mt su b₀ suite np pos' hds hs l hi hln hc hm hsu _ ih =>
    intro e cls dd H' Hs' n' g s rep h
    obtain ⟨C, hC, rfl, ha⟩ := id rep
    refine ⟨mt e.cls, hm _ _ hC, fun hb => ?_, fun hb => ?_⟩
    · have h' : if mt e.cls = true then ∀ C, Γ e.cls = some C → su (ρ.set i (some (.exn e.cls C e.arg.toList))) n' (fun o n2 => q (o.unset i) n2) (fun _ _ => False) else catchN Γ ρ q ex hs e n' := h
      rw [if_pos hb] at h'
      obtain ⟨b, e1, e2, _⟩ := wX_of (Γ := Γ) (W := W) (cv := cv) (mt := mt) (su := su) (i := i) (ex := ex) hm r k ke e (.ref C) dd H' Hs' n' g s rep (by dsimp only; rw [if_pos hb]; exact h')
      rw [hm _ _ hC] at e1
      cases e1
      exact e2 hb
    · have h' : if mt e.cls = true then ∀ C, Γ e.cls = some C → su (ρ.set i (some (.exn e.cls C e.arg.toList))) n' (fun o n2 => q (o.unset i) n2) (fun _ _ => False) else catchN Γ ρ q ex hs e n' := h
      rw [if_neg (by rw [hb]; decide)] at h'
      exact ih e (.ref C) dd H' Hs' n' g s rep h'
theorem ds_trySetN (j : Nat) {y : Str} {py p1 : Pos} {h₀ : ExceptHandler} {hds : List ExceptHandler} (hN : X.N.Nodup) (hd : HdD Γ X (h₀ :: hds) hs l) (tk : Takes X W)
    (ha : ∀ (W : WX) (pn : List (Addr × Obj)) (xe : Value → Shared → Prop), Takes (X.tr pn xe) W → PassesOwn (model X.prog X.w) X.A X.env xe → DE Γ (X.tr pn xe) W a ta)
    (hex : X.ex = [] := by rfl) (hs' : X.stack = X.env :: X.outer := by rfl) (hf : X.env.frame = some X.env.locals := by rfl)
    (hj : X.N[j]? = some y := by rfl) (hx : Loc X.env.scope y := by first | exact Or.inl rfl | exact Or.inr rfl) (hsw : swapsWith a (some (.Name y py)) p1.line X.env = pure false := by rfl)
    (hfy : X.fn y = true ∨ X.env.scope.names.lookup y = some .local := by first | exact .inl rfl | exact .inr rfl) :
    DS Γ X W (.Try [.Assign [.Name y py] a p1] (h₀ :: hds) [] [] pos) (ttryN Γ hs (tset j ta)) := by
  refine ⟨_, ps_try_xs (tb := fun W => tAsg (teD Γ X.K W ta) (gName j)) (Wout := W) hex hs' hf hN tk (fun W pn xe tk' hp => pss_one (ps_set (X := X.tr pn xe) (i := j) hN hj hx (ha W pn xe tk' hp).pe hsw hfy)) hd.hdx, fun σ H Hs ρ n q ex E s r h k ke => ?_⟩
  exact ⟨n, Hs, ρ, _, _, s, r, h, fun v H1 Hs1 d n1 g1 s1 hv h1 => k (.nx (ρ.set j (some d))) n1 H1 Hs1 g1 s1 h1 _ ((r.ext g1.ext).set j hv), wXs_of hd r k ke⟩
theorem ds_tryRetN {p1 : Pos} {h₀ : ExceptHandler} {hds : List ExceptHandler} (hN : X.N.Nodup) (hd : HdD Γ X (h₀ :: hds) hs l) (tk : Takes X W)
    (ha : ∀ (W : WX) (pn : List (Addr × Obj)) (xe : Value → Shared → Prop), Takes (X.tr pn xe) W → PassesOwn (model X.prog X.w) X.A X.env xe → DE Γ (X.tr pn xe) W a ta)
    (hex : X.ex = [] := by rfl) (hs' : X.stack = X.env :: X.outer := by rfl) (hf : X.env.frame = some X.env.locals := by rfl) :
    DS Γ X W (.Try [.Return (some a) p1] (h₀ :: hds) [] [] pos) (ttryN Γ hs (tret ta)) := by
  refine ⟨_, ps_try_xs (tb := fun W => tRet (teD Γ X.K W ta)) (Wout := W) hex hs' hf hN tk (fun W pn xe tk' hp => pss_one (ps_ret (X := X.tr pn xe) (ha W pn xe tk' hp).pe)) hd.hdx, fun σ H Hs ρ n q ex E s r h k ke => ?_⟩
  exact ⟨n, Hs, ρ, _, _, s, r, h, fun v H1 Hs1 d n1 g1 s1 hv h1 => k (.rt d) n1 H1 Hs1 g1 s1 h1 v hv, wXs_of hd r k ke⟩
end
end OE

namespace OE
open PySem PySem.Spec PyProof.Rows L2
variable [TN]
section
variable {Γ : Gam} {X : Cx} {W : WX} {a : Expr} {ta : Ev → Wp D} {pos : Pos} {hs : Hds}
def HdE (Γ : Gam) (X : Cx) (hds : List ExceptHandler) (hs : Hds) : Prop := ∃ l, HdD Γ X hds hs l
theorem hdE_nil : HdE Γ X [] [] := ⟨_, .nil⟩
theorem hdE_cons (i : Nat) {x n : Str} {mt : Str → Bool} {su : Ev → Wp Out} {b₀ : Stmt} {suite : List Stmt} {np pos' : Pos} {hds : List ExceptHandler} (hc : CatchG Γ X.K X.mg x mt) (hsu : ∀ (a : Addr) (pn : List (Addr × Obj)), DB Γ (X.suite a pn) W0 (b₀ :: suite) su) (r : HdE Γ X hds hs)
    (hi : X.N[i]? = some n := by rfl) (hln : X.env.kindOf n = some .local := by rfl) (hgx : Gl X x := by rfl) (hdx : (x == ("__debug__" : Str)) = false := by decide) : HdE Γ X (.ExceptHandler (some (.Name x np)) (some n) (b₀ :: suite) pos' :: hds) ((mt, i, su) :: hs) := by
  obtain ⟨cv, h1, h2⟩ := hc
  obtain ⟨l, r⟩ := r
  exact ⟨_, .cons hi hln ⟨hgx, hdx, .inl h1⟩ h2 hsu r⟩
theorem ds_trySetE (j : Nat) {y : Str} {py p1 : Pos} {h₀ : ExceptHandler} {hds : List ExceptHandler} (hN : X.N.Nodup) (hd : HdE Γ X (h₀ :: hds) hs) (tk : Takes X W)
    (ha : ∀ (W : WX) (pn : List (Addr × Obj)) (xe : Value → Shared → Prop), Takes (X.tr pn xe) W → PassesOwn (model X.prog X.w) X.A X.env xe → DE Γ (X.tr pn xe) W a ta)
    (hex : X.ex = [] := by rfl) (hs' : X.stack = X.env :: X.outer := by rfl) (hf : X.env.frame = some X.env.locals := by rfl)
    (hj : X.N[j]? = some y := by rfl) (hx : Loc X.env.scope y := by first | exact Or.inl rfl | exact Or.inr rfl) (hsw : swapsWith a (some (.Name y py)) p1.line X.env = pure false := by rfl)
    (hfy : X.fn y = true ∨ X.env.scope.names.lookup y = some .local := by first | exact .inl rfl | exact .inr rfl) :
    DS Γ X W (.Try [.Assign [.Name y py] a p1] (h₀ :: hds) [] [] pos) (ttryN Γ hs (tset j ta)) := by
  obtain ⟨l, hd⟩ := hd
  exact ds_trySetN j hN hd tk ha hex hs' hf hj hx hsw hfy
theorem ds_tryRetE {p1 : Pos} {h₀ : ExceptHandler} {hds : List ExceptHandler} (hN : X.N.Nodup) (hd : HdE Γ X (h₀ :: hds) hs) (tk : Takes X W)
    (ha : ∀ (W : WX) (pn : List (Addr × Obj)) (xe : Value → Shared → Prop), Takes (X.tr pn xe) W → PassesOwn (model X.prog X.w) X.A X.env xe → DE Γ (X.tr pn xe) W a ta)
    (hex : X.ex = [] := by rfl) (hs' : X.stack = X.env :: X.outer := by rfl) (hf : X.env.frame = some X.env.locals := by rfl) :
    DS Γ X W (.Try [.Return (some a) p1] (h₀ :: hds) [] [] pos) (ttryN Γ hs (tret ta)) := by
  obtain ⟨l, hd⟩ := hd
  exact ds_tryRetN hN hd tk ha hex hs' hf
end
end OE

namespace OE
open PySem PySem.Spec L2
variable [TN]
/-! ### words for gen.py -/
theorem mem_cons' {α : Type} {p : α → Prop} {a : α} {l : List α} (h : p a) (t : ∀ x ∈ l, p x) : ∀ x ∈ a :: l, p x := List.forall_mem_cons.mpr ⟨h, t⟩
theorem tn_hit {c P : Addr} {q : Str} {cs : Tabls} : (tnOf ((c, P, q) :: cs)).nm P = some q := by
  unfold tnOf; simp
theorem tn_miss {c P P' : Addr} {q q' : Str} {cs : Tabls} (h : P' ≠ P) (r : (tnOf cs).nm P = some q) : (tnOf ((c, P', q') :: cs)).nm P = some q := by
  unfold tnOf at r ⊢
  dsimp only at r ⊢
  rw [List.find?_cons_of_neg (by simpa using h)]
  exact r
/-- a, b, c = x, y, z -/
def tpar3 (i j l : Nat) (t : Ev → Wp (List D)) : Ev → Wp Out := fun ρ => Wp.bind (t ρ) fun ds => match ds with
  | [d, e, f] => Wp.ret (.nx (((ρ.set i (some d)).set j (some e)).set l (some f)))
  | _ => Wp.stuck
theorem ds_par3 {Γ : Gam} {X : Cx} {W : WX} {a b c : Expr} {pos : Pos} (i j l : Nat) {x y z : Str} {tt : Ev → Wp (List D)} {px py pz pt : Pos} {kt k2 : Nat} {pt2 : Pos} (hN : X.N.Nodup) (ha : DA Γ X W [a, b, c] tt) (hij : i ≠ j := by decide) (hil : i ≠ l := by decide) (hjl : j ≠ l := by decide) (hc : X.calm = true := by rfl)
    (hi : X.N[i]? = some x := by rfl) (hj : X.N[j]? = some y := by rfl) (hl : X.N[l]? = some z := by rfl) (hx : X.env.scope.names.lookup x = some .local := by rfl) (hy : X.env.scope.names.lookup y = some .local := by rfl) (hz : X.env.scope.names.lookup z = some .local := by rfl)
    (hw : swappedStores [.Tuple [.Name x px, .Name y py, .Name z pz] kt pt] (.Tuple [a, b, c] k2 pt2) X.env = pure (some [x, y, z]) := by rfl)
    (hs : swapsWithSole [.Tuple [.Name x px, .Name y py, .Name z pz] kt pt] (.Tuple [a, b, c] k2 pt2) pos.line X.env = pure false := by rfl) :
    DS Γ X W (.Assign [.Tuple [.Name x px, .Name y py, .Name z pz] kt pt] (.Tuple [a, b, c] k2 pt2) pos) (tpar3 i j l tt) := by
  obtain ⟨ea, pa, fa⟩ := ha
  refine ⟨_, ps_par3 hc hN hi hj hl hij hil hjl hx hy hz pa hw hs, fun σ H Hs ρ n q x E s r h k ke => fa σ H Hs ρ n _ x _ s r h (fun vs H1 Hs1 ds n1 g1 s1 hv h1 => ?_) (ke σ)⟩
  rcases hv with _ | ⟨hv, _ | ⟨hw, _ | ⟨hu, _ | ⟨_, _⟩⟩⟩⟩
  · exact (show False from h1).elim
  · exact (show False from h1).elim
  · exact (show False from h1).elim
  · exact ⟨_, _, _, rfl, k (.nx _) n1 H1 Hs1 g1 s1 h1 _ ((((r.ext g1.ext).set i hv).set j hw).set l hu)⟩
  · exact (show False from h1).elim
/-! ### list(range(..)), tuple(range(..)) -/
theorem rg_dv {K : PySem.W.Frag} {H : Hp} (a b : Int) : DvAll K H (rgV a b) (rangeD a (b - a).toNat) := by
  unfold rgV rangeD
  induction List.range (b - a).toNat with
  | nil => exact .nil
  | cons x l ih => exact .cons (.int _) ih
theorem rg_dv1 {K : PySem.W.Frag} {H : Hp} (b : Int) : DvAll K H (rgV 0 b) (rangeD 0 b.toNat) := by
  have h := rg_dv (K := K) (H := H) 0 b
  rwa [Int.sub_zero] at h
def RgD (a b : Int) : Prop := -(2 ^ 62) ≤ a ∧ a < 2 ^ 62 ∧ -(2 ^ 62) ≤ b ∧ b < 2 ^ 62 ∧ (b - a).toNat ≤ 1000000
def fLRg1 : D → Wp D
  | .int b => Wp.bind (Wp.ask (RgD 0 b)) fun _ => Wp.ret (.lst (rangeD 0 b.toNat))
  | _ => Wp.stuck
def fTRg1 : D → Wp D
  | .int b => Wp.bind (Wp.ask (RgD 0 b)) fun _ => Wp.ret (.tup (rangeD 0 b.toNat))
  | _ => Wp.stuck
def fLRg2 : D → D → Wp D
  | .int a, .int b => Wp.bind (Wp.ask (RgD a b)) fun _ => Wp.ret (.lst (rangeD a (b - a).toNat))
  | _, _ => Wp.stuck
def fTRg2 : D → D → Wp D
  | .int a, .int b => Wp.bind (Wp.ask (RgD a b)) fun _ => Wp.ret (.tup (rangeD a (b - a).toNat))
  | _, _ => Wp.stuck
theorem RgD.ok {a b : Int} (h : RgD a b) : RgOk a b := ⟨h.1, h.2.1, h.2.2.1, h.2.2.2.1, Nat.le_trans h.2.2.2.2 (by decide)⟩
section
variable {Γ : Gam} {X : Cx} {W : WX} {a b c : Expr} {ta tb tc : Ev → Wp D} {pos : Pos}
theorem d_lrg1 {p p1 p2 : Pos} (hm : X.mg "list" = none) (hmr : X.mg "range" = none) (ha : DE Γ X W a ta) (hc : X.calm = true := by rfl) (hg : Gl X "list" := by rfl) (hgr : Gl X "range" := by rfl) (na : starEach [a] X.env = (false, eval a X.env) :: starEach [] X.env := by rfl)
    (nb : starEach [.Call (.Name "range" p1) [a] [] p2] X.env = (false, eval (.Call (.Name "range" p1) [a] [] p2) X.env) :: starEach [] X.env := by rfl) : DE Γ X W (.Call (.Name "list" p) [.Call (.Name "range" p1) [a] [] p2] [] pos) (tbind fLRg1 ta) := by
  obtain ⟨ea, pa, fa⟩ := ha
  refine ⟨_, pe_listRg hc hg hm (prg_1 hgr hmr pa na) nb, fun σ H Hs ρ n q x Q s r h k ke => fa σ H Hs ρ n _ x _ s r h (fun v H1 Hs1 d n1 g1 s1 hv h1 => ?_) ke⟩
  cases hv with
  | int i =>
    refine ⟨i, rfl, RgD.ok h1.1, fun p hp => ?_⟩
    obtain ⟨s4, g4, v4⟩ := new_lst s1 hp (rg_dv1 i)
    exact k _ _ _ _ n1 (g1.trans g4) s4 v4 h1.2
  | _ => exact (show False from h1).elim
theorem d_trg1 {p p1 p2 : Pos} (hm : X.mg "tuple" = none) (hmr : X.mg "range" = none) (ha : DE Γ X W a ta) (hc : X.calm = true := by rfl) (hg : Gl X "tuple" := by rfl) (hgr : Gl X "range" := by rfl) (na : starEach [a] X.env = (false, eval a X.env) :: starEach [] X.env := by rfl)
    (nb : starEach [.Call (.Name "range" p1) [a] [] p2] X.env = (false, eval (.Call (.Name "range" p1) [a] [] p2) X.env) :: starEach [] X.env := by rfl) : DE Γ X W (.Call (.Name "tuple" p) [.Call (.Name "range" p1) [a] [] p2] [] pos) (tbind fTRg1 ta) := by
  obtain ⟨ea, pa, fa⟩ := ha
  refine ⟨_, pe_tupRg hc hg hm (prg_1 hgr hmr pa na) nb, fun σ H Hs ρ n q x Q s r h k ke => fa σ H Hs ρ n _ x _ s r h (fun v H1 Hs1 d n1 g1 s1 hv h1 => ?_) ke⟩
  cases hv with
  | int i =>
    refine ⟨i, rfl, RgD.ok h1.1, fun p hp => ?_⟩
    obtain ⟨s4, g4, v4⟩ := new_tup s1 hp (rg_dv1 i)
    exact k _ _ _ _ n1 (g1.trans g4) s4 v4 h1.2
  | _ => exact (show False from h1).elim
theorem rg2_of {ea eb : TE} {f : D → D → Wp D}
    (fa : ∀ (σ : St) (H Hs : Hp) (ρ : Ev) (n : S) (q : D → S → Prop) (x : Exn → S → Prop) (Q : VK), Sit X.K n Hs H → R X.K ρ σ Hs → ta ρ n q x → OkQ X.K Hs H q Q → OkE X.K Γ Hs H x (fun c d h => W c d σ h) → ea σ H Q)
    (fb : ∀ (σ : St) (H Hs : Hp) (ρ : Ev) (n : S) (q : D → S → Prop) (x : Exn → S → Prop) (Q : VK), Sit X.K n Hs H → R X.K ρ σ Hs → tb ρ n q x → OkQ X.K Hs H q Q → OkE X.K Γ Hs H x (fun c d h => W c d σ h) → eb σ H Q)
    (hf : ∀ d e n q x, f d e n q x → ∃ i j, d = .int i ∧ e = .int j)
    (σ : St) (H Hs : Hp) (ρ : Ev) (n : S) (q : D → S → Prop) (x : Exn → S → Prop) (Q : Int → Int → Hp → Prop) (s : Sit X.K n Hs H) (rr : R X.K ρ σ Hs) (h : tbin f ta tb ρ n q x)
    (k : ∀ i j H' Hs' n', Go Hs H Hs' H' → Sit X.K n' Hs' H' → f (.int i) (.int j) n' q x → Q i j H') (ke : OkE X.K Γ Hs H x (fun c d h => W c d σ h)) : tRg2 ea eb σ H Q := by
  refine fa σ H Hs ρ n _ x _ s rr h (fun v H1 Hs1 d n1 g1 s1 hv h1 => ?_) ke
  refine fb σ H1 Hs1 ρ n1 _ x _ s1 (rr.ext g1.ext) h1 (fun w H2 Hs2 d2 n2 g2 s2 hw h2 => ?_) (ke.go g1)
  obtain ⟨i, j, rfl, rfl⟩ := hf d d2 n2 q x h2
  cases hv
  cases hw
  exact ⟨i, j, rfl, rfl, k i j H2 Hs2 n2 (g1.trans g2) s2 h2⟩
theorem d_lrg2 {p p1 p2 : Pos} (hm : X.mg "list" = none) (hmr : X.mg "range" = none) (ha : DE Γ X W a ta) (hb : DE Γ X W b tb) (hc : X.calm = true := by rfl) (hg : Gl X "list" := by rfl) (hgr : Gl X "range" := by rfl)
    (na : starEach [a, b] X.env = (false, eval a X.env) :: starEach [b] X.env := by rfl) (na2 : starEach [b] X.env = (false, eval b X.env) :: starEach [] X.env := by rfl) (hp : (backTo p2 (starEach [b] X.env)).any (·.1) = false := by rfl)
    (nb : starEach [.Call (.Name "range" p1) [a, b] [] p2] X.env = (false, eval (.Call (.Name "range" p1) [a, b] [] p2) X.env) :: starEach [] X.env := by rfl) : DE Γ X W (.Call (.Name "list" p) [.Call (.Name "range" p1) [a, b] [] p2] [] pos) (tbin fLRg2 ta tb) := by
  obtain ⟨ea, pa, fa⟩ := ha
  obtain ⟨eb, pb, fb⟩ := hb
  refine ⟨_, pe_listRg hc hg hm (prg_2 hgr hmr pa pb na na2 hp) nb, fun σ H Hs ρ n q x Q s r h k ke => rg2_of (f := fLRg2) fa fb (fun d e n q x z => ?_) σ H Hs ρ n q x _ s r h (fun i j H1 Hs1 n1 g1 s1 h1 => ⟨RgD.ok h1.1, fun p hp => ?_⟩) ke⟩
  · cases d <;> first | exact (show False from z).elim | (cases e <;> first | exact (show False from z).elim | exact ⟨_, _, rfl, rfl⟩)
  · obtain ⟨s4, g4, v4⟩ := new_lst s1 hp (rg_dv i j)
    exact k _ _ _ _ n1 (g1.trans g4) s4 v4 h1.2
theorem d_trg2 {p p1 p2 : Pos} (hm : X.mg "tuple" = none) (hmr : X.mg "range" = none) (ha : DE Γ X W a ta) (hb : DE Γ X W b tb) (hc : X.calm = true := by rfl) (hg : Gl X "tuple" := by rfl) (hgr : Gl X "range" := by rfl)
    (na : starEach [a, b] X.env = (false, eval a X.env) :: starEach [b] X.env := by rfl) (na2 : starEach [b] X.env = (false, eval b X.env) :: starEach [] X.env := by rfl) (hp : (backTo p2 (starEach [b] X.env)).any (·.1) = false := by rfl)
    (nb : starEach [.Call (.Name "range" p1) [a, b] [] p2] X.env = (false, eval (.Call (.Name "range" p1) [a, b] [] p2) X.env) :: starEach [] X.env := by rfl) : DE Γ X W (.Call (.Name "tuple" p) [.Call (.Name "range" p1) [a, b] [] p2] [] pos) (tbin fTRg2 ta tb) := by
  obtain ⟨ea, pa, fa⟩ := ha
  obtain ⟨eb, pb, fb⟩ := hb
  refine ⟨_, pe_tupRg hc hg hm (prg_2 hgr hmr pa pb na na2 hp) nb, fun σ H Hs ρ n q x Q s r h k ke => rg2_of (f := fTRg2) fa fb (fun d e n q x z => ?_) σ H Hs ρ n q x _ s r h (fun i j H1 Hs1 n1 g1 s1 h1 => ⟨RgD.ok h1.1, fun p hp => ?_⟩) ke⟩
  · cases d <;> first | exact (show False from z).elim | (cases e <;> first | exact (show False from z).elim | exact ⟨_, _, rfl, rfl⟩)
  · obtain ⟨s4, g4, v4⟩ := new_tup s1 hp (rg_dv i j)
    exact k _ _ _ _ n1 (g1.trans g4) s4 v4 h1.2
end
/-! ### x in y, x not in y -/
def flatD : D → Bool
  | .non => true
  | .bl _ => true
  | .int _ => true
  | .str _ => true
  | _ => false
def eqF : D → D → Bool
  | .non, .non => true
  | .bl a, .bl b => a == b
  | .bl a, .int b => (if a then 1 else 0) == b
  | .int a, .bl b => a == (if b then 1 else 0)
  | .int a, .int b => a == b
  | .str a, .str b => a == b
  | _, _ => false
theorem flat_of {K : PySem.W.Frag} {H : Hp} {v : V} {d : D} (h : Dv K H v d) (f : flatD d = true) : flatV v = true := by
  cases h <;> first | rfl | exact absurd f Bool.false_ne_true
theorem eqF_of {K : PySem.W.Frag} {H : Hp} {v w : V} {d e : D} (h : Dv K H v d) (g : Dv K H w e) (f : flatD d = true) (f' : flatD e = true) : eqV v w = eqF d e := by
  cases h <;> first | exact absurd f Bool.false_ne_true | (cases g <;> first | exact absurd f' Bool.false_ne_true | rfl)
theorem flat_all {K : PySem.W.Frag} {H : Hp} : ∀ {vs : List V} {ds : List D}, DvAll K H vs ds → ds.all flatD = true → vs.all flatV = true
  | _, _, .nil, _ => rfl
  | _, _, .cons h g, f => by
    rw [List.all_cons, Bool.and_eq_true] at f ⊢
    exact ⟨flat_of h f.1, flat_all g f.2⟩
theorem inV_of {K : PySem.W.Frag} {H : Hp} {x : V} {d : D} (hx : Dv K H x d) (fx : flatD d = true) : ∀ {vs : List V} {ds : List D}, DvAll K H vs ds → ds.all flatD = true → inV x vs = ds.any fun e => eqF e d
  | _, _, .nil, _ => rfl
  | _, _, .cons h g, f => by
    rw [List.all_cons, Bool.and_eq_true] at f
    have e := inV_of hx fx g f.2
    unfold inV at e ⊢
    rw [List.any_cons, List.any_cons, e, eqF_of h hx f.1 fx]
def fIn (neg : Bool) : D → D → Wp D := fun x y => match y with
  | .tup l => Wp.bind (Wp.ask (flatD x = true ∧ l.all flatD = true)) fun _ => Wp.ret (.bl (neg.xor (l.any fun e => eqF e x)))
  | .lst l => Wp.bind (Wp.ask (flatD x = true ∧ l.all flatD = true)) fun _ => Wp.ret (.bl (neg.xor (l.any fun e => eqF e x)))
  | .str z => fun n q _ => ∃ c : Nat, x = .str ⟨#[c]⟩ ∧ q (.bl (neg.xor (decide (c ∈ z.cps.toList)))) n
  | _ => Wp.stuck
theorem neg_ite (neg b : Bool) : (if neg = true then !b else b) = neg.xor b := by cases neg <;> cases b <;> rfl
def rInU (K : PySem.W.Frag) (neg : Bool) : R2 := fun x y H Q => rIn K neg x y H Q ∨ ∃ (c : Nat) (z : Str), x = .str ⟨#[c]⟩ ∧ y = .str z ∧ Q (.bl (neg.xor (decide (c ∈ z.cps.toList)))) H
theorem op_inU {X : Cx} : OpR X (compareOp .In) (rInU X.K false) := by
  have h := opR_or (X := X) op_in_seq op_in_sign
  intro pins s σ H x y v u Q I rx ry q
  refine h pins s σ H x y v u Q I rx ry ?_
  rcases q with q | ⟨c, z, q1, q2, q3⟩
  · exact .inl q
  · exact .inr ⟨c, z, q1, q2, by rwa [Bool.false_xor] at q3⟩
theorem op_notInU {X : Cx} : OpR X (compareOp .NotIn) (rInU X.K true) := by
  have h := opR_or (X := X) op_notIn_seq op_notIn_sign
  intro pins s σ H x y v u Q I rx ry q
  refine h pins s σ H x y v u Q I rx ry ?_
  rcases q with q | ⟨c, z, q1, q2, q3⟩
  · exact .inl q
  · exact .inr ⟨c, z, q1, q2, by rwa [Bool.true_xor] at q3⟩
theorem r2_in {K : PySem.W.Frag} {neg : Bool} : R2D K (rInU K neg) (fIn neg) := by
  intro x y a b H Hs n q e Q s hx hy h k
  cases hy with
  | @lst p xs ds h1 g1 =>
    obtain ⟨⟨f1, f2⟩, h⟩ := h
    refine .inl ⟨p, xs, rfl, .inl (SqL.of (s.sub _ _ h1)), flat_of hx f1, flat_all g1 f2, ?_⟩
    rw [inV_of hx f1 g1 f2, neg_ite]
    exact k _ H Hs _ n (.refl _ _) s (.bl _) h
  | @tup p xs ds h1 g1 =>
    obtain ⟨⟨f1, f2⟩, h⟩ := h
    refine .inl ⟨p, xs, rfl, .inr (s.same.tup h1), flat_of hx f1, flat_all g1 f2, ?_⟩
    rw [inV_of hx f1 g1 f2, neg_ite]
    exact k _ H Hs _ n (.refl _ _) s (.bl _) h
  | str z =>
    obtain ⟨c, rfl, h⟩ := h
    cases hx
    exact .inr ⟨c, z, rfl, rfl, k _ H Hs _ n (.refl _ _) s (.bl _) h⟩
  | _ => exact (show False from h).elim
section
variable {Γ : Gam} {X : Cx} {W : WX} {a b c : Expr} {ta tb tc : Ev → Wp D} {pos : Pos}
theorem d_in (ha : DE Γ X W a ta) (hb : DE Γ X W b tb) (hm : behindInMarks .In b = false := by rfl) : DE Γ X W (.Compare a [.In] [b] pos) (tbin (fIn false) ta tb) := d_cmp op_inU r2_in ha hb hm
theorem d_nin (ha : DE Γ X W a ta) (hb : DE Γ X W b tb) (hm : behindInMarks .NotIn b = false := by rfl) : DE Γ X W (.Compare a [.NotIn] [b] pos) (tbin (fIn true) ta tb) := d_cmp op_notInU r2_in ha hb hm
theorem dt_in (ha : DE Γ X W a ta) (hb : DE Γ X W b tb) (hm : behindInMarks .In b = false := by rfl) : DT Γ X W (.Compare a [.In] [b] pos) (ttest (tbin (fIn false) ta tb)) := dt_cmp op_inU r2_in ha hb hm
theorem dt_nin (ha : DE Γ X W a ta) (hb : DE Γ X W b tb) (hm : behindInMarks .NotIn b = false := by rfl) : DT Γ X W (.Compare a [.NotIn] [b] pos) (ttest (tbin (fIn true) ta tb)) := dt_cmp op_notInU r2_in ha hb hm
end
end OE

namespace OE
open PySem PySem.Spec L2
variable [TN]
/-! ### further readings, step by step -/
section
variable {n : S} {x : Exn → S → Prop} {ρ : Ev} {d : D} {i j l : Nat} {f : D → D → Wp D} {ta tb tc : Ev → Wp D} {tl : Ev → Wp (List D)} {c c' : Ev → Wp Bool} {t u : Ev → Wp Out} {q : D → S → Prop} {qo : Out → S → Prop} {qb : Bool → S → Prop} {ql : List D → S → Prop}
def kWh (t : Ev → Wp Out) (ρ : Ev) (q : Out → S → Prop) (k : Out → S → Prop) (x : Exn → S → Prop) (b : Bool) (n : S) : Prop := if b = true then t ρ n k x else q (.nx ρ) n
theorem k_wh {k : Out → S → Prop} {b : Bool} : kWh t ρ qo k x b n = if b = true then t ρ n k x else qo (.nx ρ) n := rfl
/-- a while by its invariant and its measure -/
theorem wh_inv (I : Nat → Ev → S → Prop)
    (step : ∀ m ρ n (k : Out → S → Prop), I m ρ n → (∀ m' ρ' n', m' < m → I m' ρ' n' → k (.nx ρ') n') → (∀ e s, qo (.rt e) s → k (.rt e) s) → c ρ n (kWh t ρ qo k x) x) (m : Nat) (ρ : Ev) (n : S) (h : I m ρ n) : twhile c t ρ n qo x := by
  refine ⟨m + 1, ?_⟩
  have main : ∀ M m ρ n, m ≤ M → I m ρ n → whileN c t (M + 1) ρ n qo x := by
    intro M
    induction M with
    | zero =>
      intro m ρ n hm hI
      refine Eq.mp ?_ (step m ρ n (fun o s => match o with | .nx ρ2 => whileN c t 0 ρ2 s qo x | .ct ρ2 => whileN c t 0 ρ2 s qo x | .bk ρ2 => qo (.nx ρ2) s | .rt e => qo (.rt e) s) hI (fun m' ρ' n' hlt _ => by omega) (fun e s h => h))
      refine congrArg (fun k => c ρ n k x) (funext fun b => funext fun s => ?_)
      unfold kWh
      cases b with
      | false => rfl
      | true =>
        refine congrArg (fun k => t ρ s k x) (funext fun o => funext fun r => ?_)
        cases o <;> rfl
    | succ M ih =>
      intro m ρ n hm hI
      refine Eq.mp ?_ (step m ρ n (fun o s => match o with | .nx ρ2 => whileN c t (M + 1) ρ2 s qo x | .ct ρ2 => whileN c t (M + 1) ρ2 s qo x | .bk ρ2 => qo (.nx ρ2) s | .rt e => qo (.rt e) s) hI (fun m' ρ' n' hlt hI' => ih m' ρ' n' (by omega) hI') (fun e s h => h))
      refine congrArg (fun k => c ρ n k x) (funext fun b => funext fun s => ?_)
      unfold kWh
      cases b with
      | false => rfl
      | true =>
        refine congrArg (fun k => t ρ s k x) (funext fun o => funext fun r => ?_)
        cases o <;> rfl
  exact main m m ρ n (Nat.le_refl _) h
def kStar (tl : Ev → Wp (List D)) (ρ : Ev) (q : List D → S → Prop) (x : Exn → S → Prop) (d : D) (n : S) : Prop := tstar (tconst d) (fun _ => tl ρ) [] n q x
def kStar2 (l : List D) (q : List D → S → Prop) (ds : List D) (n : S) : Prop := q (l ++ ds) n
theorem s_star : tstar ta tl ρ n ql x = ta ρ n (kStar tl ρ ql x) x := by
  refine congrArg (fun k => ta ρ n k x) (funext fun d => funext fun m => ?_)
  cases d <;> rfl
theorem k_starT {l : List D} : kStar tl ρ ql x (.tup l) n = tl ρ n (kStar2 l ql) x := rfl
theorem k_starL {l : List D} : kStar tl ρ ql x (.lst l) n = tl ρ n (kStar2 l ql) x := rfl
theorem k_star2 {l ds : List D} : kStar2 l ql ds n = ql (l ++ ds) n := rfl
def kDrop (ρ : Ev) (q : Out → S → Prop) (_ : D) (n : S) : Prop := q (.nx ρ) n
theorem s_drop : tdrop ta ρ n qo x = ta ρ n (kDrop ρ qo) x := rfl
theorem k_drop : kDrop ρ qo d n = qo (.nx ρ) n := rfl
def kPar3 (i j l : Nat) (ρ : Ev) (q : Out → S → Prop) (x : Exn → S → Prop) (ds : List D) (n : S) : Prop := tpar3 i j l (fun _ => Wp.ret ds) ρ n q x
theorem s_par3 : tpar3 i j l tl ρ n qo x = tl ρ n (kPar3 i j l ρ qo x) x := rfl
theorem k_par3 {a b e : D} : kPar3 i j l ρ qo x [a, b, e] n = qo (.nx (((ρ.set i (some a)).set j (some b)).set l (some e))) n := rfl
theorem f_lrg1 {z : Int} : fLRg1 (.int z) n q x = (RgD 0 z ∧ q (.lst (rangeD 0 z.toNat)) n) := rfl
theorem f_trg1 {z : Int} : fTRg1 (.int z) n q x = (RgD 0 z ∧ q (.tup (rangeD 0 z.toNat)) n) := rfl
theorem f_lrg2 {y z : Int} : fLRg2 (.int y) (.int z) n q x = (RgD y z ∧ q (.lst (rangeD y (z - y).toNat)) n) := rfl
theorem f_trg2 {y z : Int} : fTRg2 (.int y) (.int z) n q x = (RgD y z ∧ q (.tup (rangeD y (z - y).toNat)) n) := rfl
theorem f_ixM {a : Addr} {z : Int} : fIx (.mref a) (.int z) n q x = ∃ l d, n.mu a = some (.lst l) ∧ atI l z = some d ∧ q d n := rfl
theorem f_lenM {a : Addr} : fLen [.mref a] n q x = ∃ l, n.mu a = some (.lst l) ∧ q (.int l.length) n := rfl
theorem f_inT {neg : Bool} {l : List D} : fIn neg d (.tup l) n q x = ((flatD d = true ∧ l.all flatD = true) ∧ q (.bl (neg.xor (l.any fun e => eqF e d))) n) := rfl
theorem f_inL {neg : Bool} {l : List D} : fIn neg d (.lst l) n q x = ((flatD d = true ∧ l.all flatD = true) ∧ q (.bl (neg.xor (l.any fun e => eqF e d))) n) := rfl
theorem f_inS {neg : Bool} {z : Str} : fIn neg d (.str z) n q x = ∃ c : Nat, d = .str ⟨#[c]⟩ ∧ q (.bl (neg.xor (decide (c ∈ z.cps.toList)))) n := rfl
theorem s_tryN {Γ : Gam} {hs : Hds} : ttryN Γ hs t ρ n qo x = t ρ n qo (catchN Γ ρ qo x hs) := rfl
end
section
variable {n : S} {x : Exn → S → Prop} {ρ : Ev} {i : Nat} {u : Ev → Wp Out} {qo : Out → S → Prop} {q : D → S → Prop}
theorem c_hit {Γ : Gam} {mt : Str → Bool} {hs : Hds} {e : Exn} (h : mt e.cls = true) : catchN Γ ρ qo x ((mt, i, u) :: hs) e n = ∀ C, Γ e.cls = some C → u (ρ.set i (some (.exn e.cls C e.arg.toList))) n (kUn i qo) xNo := if_pos h
theorem c_miss {Γ : Gam} {mt : Str → Bool} {hs : Hds} {e : Exn} (h : mt e.cls = false) : catchN Γ ρ qo x ((mt, i, u) :: hs) e n = catchN Γ ρ qo x hs e n := if_neg (by rw [h]; decide)
theorem c_nil {Γ : Gam} {e : Exn} : catchN Γ ρ qo x [] e n = x e n := rfl
/-- a call with a lambda, by what the def does with what it is given -/
theorem lam_go {F : Th → List D → Wp D} {tb : Ev → Wp D} (h : ∀ (f : Addr) (Hs0 : Hp) (Θ : Th), Θ f = some (Hs0, tb ρ) → F Θ [.clo f Hs0] n q x) : tlam F tb ρ n q x := fun f Hs0 => h f Hs0 _ (if_pos rfl)
theorem act_go {Θ : Th} {f : Addr} {Hs0 : Hp} {F : Wp D} (h1 : ρ[i]? = some (some (.clo f Hs0))) (h2 : Θ f = some (Hs0, F)) (h : F n q x) : tact Θ i ρ n q x := ⟨f, Hs0, F, h1, h2, h⟩
end
end OE

namespace OE
open PySem PySem.Spec L2
variable [TN]
/-! ### what changes: made, written, frozen -/
section
variable {K : PySem.W.Frag} {n : S} {Hs H : Hp}
theorem mk_ext {p : Addr} (hs : Hs p = none) : Ext Hs (upd Hs p MK) := Ext.of_same fun b u q => by rw [upd_ne (ne_of_none q hs)]; exact q
/-- a new object that changes -/
theorem Sit.newMut (s : Sit K n Hs H) {p : Addr} {o : HO} {m : MO} (hp : H p = none) (hm : MOk K (upd Hs p MK) (upd H p o) p m) :
    Sit K ⟨n.n, n.mu.put p m⟩ (upd Hs p MK) (upd H p o) ∧ Go Hs H (upd Hs p MK) (upd H p o) := by
  have hs := s.free hp
  have sm : Same Hs (upd Hs p MK) := fun b u q => by rw [upd_ne (ne_of_none q hs)]; exact q
  have e := mk_ext (Hs := Hs) hs
  refine ⟨⟨fun b u q y => ?_, fun b q => ?_, fun b u q y => ?_, fun b kvs q y => ?_, fun P q t => (s.tabs P q t).ext sm, fun b u q => ?_⟩, ⟨e, fun b u q y => ?_⟩⟩
  · by_cases hb : b = p
    · subst hb; rw [upd_same] at q; cases q; cases y
    · rw [upd_ne hb] at q ⊢; exact s.subK b u q y
  · by_cases hb : b = p
    · subst hb; exact ⟨_, upd_same⟩
    · rw [upd_ne hb] at q ⊢; exact s.mkd b q
  · by_cases hb : b = p
    · subst hb; rw [upd_same] at q; cases q; rfl
    · rw [upd_ne hb] at q; exact s.mks b u q y
  · by_cases hb : b = p
    · subst hb; rw [upd_same] at q; cases q
    · rw [upd_ne hb] at q
      exact (s.good b kvs q y).mono (Nat.le_refl _) e
  · by_cases hb : b = p
    · subst hb
      have q' : n.mu.put b m b = some u := q
      rw [Mu.put_same] at q'
      cases q'
      exact ⟨upd_same, hm⟩
    · have q' : n.mu.put p m b = some u := q
      rw [Mu.put_ne hb] at q'
      obtain ⟨h1, h2⟩ := s.muts b u q'
      exact ⟨by rw [upd_ne hb]; exact h1, h2.ext e (upd_ne hb)⟩
  · have hb : b ≠ p := fun e => by rw [e, hp] at q; cases q
    rw [upd_ne hb, upd_ne hb]
    exact ⟨q, y⟩
/-- an object that changes is written -/
theorem Sit.mutate (s : Sit K n Hs H) {a : Addr} {o : HO} {m m' : MO} (ha : n.mu a = some m) (hm : MOk K Hs (upd H a o) a m') :
    Sit K ⟨n.n, n.mu.put a m'⟩ Hs (upd H a o) ∧ Go Hs H Hs (upd H a o) := by
  obtain ⟨hk, _⟩ := s.muts a m ha
  refine ⟨⟨fun b u q y => ?_, fun b q => ?_, s.mks, s.good, s.tabs, fun b u q => ?_⟩, ⟨.refl _, fun b u q y => ?_⟩⟩
  · have hb : b ≠ a := fun e => by rw [e, hk] at q; cases q; cases y
    rw [upd_ne hb]; exact s.subK b u q y
  · by_cases hb : b = a
    · subst hb; exact ⟨_, upd_same⟩
    · rw [upd_ne hb]; exact s.mkd b q
  · by_cases hb : b = a
    · subst hb
      have q' : n.mu.put b m' b = some u := q
      rw [Mu.put_same] at q'
      cases q'
      exact ⟨hk, hm⟩
    · have q' : n.mu.put a m' b = some u := q
      rw [Mu.put_ne hb] at q'
      obtain ⟨h1, h2⟩ := s.muts b u q'
      exact ⟨h1, h2.ext (.refl _) (upd_ne hb)⟩
  · have hb : b ≠ a := fun e => by rw [e, hk] at y; cases y
    rw [upd_ne hb]
    exact ⟨q, y⟩
/-- an object that changed changes no more -/
theorem Sit.freeze (s : Sit K n Hs H) {a : Addr} {o : HO} {m : MO} (ha : n.mu a = some m) (ho : H a = some o) (zk : isK o = false) (zm : isM o = false) :
    Sit K ⟨n.n, n.mu.del a⟩ (upd Hs a o) H ∧ Go Hs H (upd Hs a o) H ∧ Ext Hs (upd Hs a o) := by
  obtain ⟨hk, _⟩ := s.muts a m ha
  have e : Ext Hs (upd Hs a o) := fun b u q => by
    by_cases hb : b = a
    · subst hb
      rw [hk] at q
      have q' := Option.some.inj q
      subst q'
      exact ⟨fun z => (Bool.noConfusion z : _), fun z => (Bool.noConfusion z : _)⟩
    · rw [upd_ne hb]; exact ⟨fun _ => q, fun z => ⟨u, q, z⟩⟩
  have keep : ∀ b u, Hs b = some u → isK u = false → upd Hs a o b = some u := fun b u q y => by
    have hb : b ≠ a := fun e => by rw [e, hk] at q; cases q; cases y
    rw [upd_ne hb]; exact q
  refine ⟨⟨fun b u q y => ?_, fun b q => ?_, fun b u q y => ?_, fun b kvs q y => ?_, fun P q t => ?_, fun b u q => ?_⟩, ⟨e, fun b u q y => ?_⟩, e⟩
  · by_cases hb : b = a
    · subst hb; rw [upd_same] at q; cases q; exact ho
    · rw [upd_ne hb] at q; exact s.subK b u q y
  · by_cases hb : b = a
    · subst hb; exact ⟨_, ho⟩
    · rw [upd_ne hb] at q; exact s.mkd b q
  · by_cases hb : b = a
    · subst hb; rw [upd_same] at q; cases q; rw [zk] at y; cases y
    · rw [upd_ne hb] at q; exact s.mks b u q y
  · by_cases hb : b = a
    · subst hb; rw [upd_same] at q; cases q; rw [zm] at y; cases y
    · rw [upd_ne hb] at q
      exact (s.good b kvs q y).mono (Nat.le_refl _) e
  · obtain ⟨ps, t1, t2, t3⟩ := s.tabs P q t
    refine ⟨ps, keep _ _ t1 rfl, t2, fun pos cv hc => ?_⟩
    obtain ⟨c, c1, c2⟩ := t3 pos cv hc
    exact ⟨c, c1, keep _ _ c2 rfl⟩
  · have hb : b ≠ a := fun e => by
      have q' : n.mu.del a b = some u := q
      rw [e, Mu.del_same] at q'
      cases q'
    have q' : n.mu.del a b = some u := q
    rw [Mu.del_ne hb] at q'
    obtain ⟨h1, h2⟩ := s.muts b u q'
    exact ⟨by rw [upd_ne hb]; exact h1, h2.ext e rfl⟩
  · have hb : b ≠ a := fun e => by rw [e, hk] at y; cases y
    rw [upd_ne hb]
    exact ⟨q, y⟩
end
section
variable {Γ : Gam} {X : Cx} {W : WX} {a b c : Expr} {ta tb tc : Ev → Wp D} {pos : Pos}
/-- [..] that will change -/
def fNew (o : MO) : Wp D := fun n q _ => ∀ a, n.mu a = none → q (.mref a) ⟨n.n, n.mu.put a o⟩
def tmlst (t : Ev → Wp (List D)) : Ev → Wp D := fun ρ => Wp.bind (t ρ) fun ds => Wp.bind (Wp.ask (ds.length ≤ 1000000)) fun _ => fNew (.lst ds)
theorem d_mlst {es : List Expr} {t : Ev → Wp (List D)} {pos} (h : DA Γ X W es t) : DE Γ X W (.List es pos) (tmlst t) := by
  obtain ⟨ta, pa, fa⟩ := h
  refine ⟨_, pe_lst pa, fun σ H Hs ρ n q x Q s r hq k ke => ?_⟩
  refine fa σ H Hs ρ n _ x _ s r hq (fun vs H1 Hs1 ds n1 g1 s1 hv h1 => ⟨?_, fun p hp => ?_⟩) ke
  · rw [hv.length]; exact line_le h1.1
  · have hs := s1.free hp
    obtain ⟨s2, g2⟩ := s1.newMut (o := .lst vs) (m := .lst ds) hp ⟨vs, upd_same, hv.ext (mk_ext hs)⟩
    exact k _ _ _ _ _ (g1.trans g2) s2 (.mref p) (h1.2 p (s1.muFree hs))
/-- a value that is frozen, if it is a list that changes -/
def fFrz (d : D) : Wp D := match d with
  | .mref a => fun n q _ => (∃ l, n.mu a = some (.lst l) ∧ q (.lst l) ⟨n.n, n.mu.del a⟩) ∨ (n.mu a = some (.dic []) ∧ q (.dic []) ⟨n.n, n.mu.del a⟩) ∨ ∃ l, n.mu a = some (.dic l) ∧ (∀ p ∈ l, ∀ k, p.1 ≠ .str k) ∧ q (.dic l) ⟨n.n, n.mu.del a⟩
  | d => Wp.ret d
theorem frz_of {K : PySem.W.Frag} {n : S} {Hs H : Hp} {v : V} {d : D} {q : D → S → Prop} {x : Exn → S → Prop} (s : Sit K n Hs H) (hv : Dv K Hs v d) (h : fFrz d n q x) : ∃ Hs' n' d', Go Hs H Hs' H ∧ Sit K n' Hs' H ∧ Dv K Hs' v d' ∧ q d' n' := by
  cases d with
  | mref a =>
    cases hv
    have kvM : ∀ {kvs : List (Key × V)} {l : List (D × D)}, DvKv K Hs kvs l → (l = [] ∨ ∀ p ∈ l, ∀ k, p.1 ≠ .str k) → isM (.dK kvs) = false := fun {kvs l} g hl => by
      cases g with
      | nil => rfl
      | @cons k v vs d ds h g =>
        rcases hl with hl | hl
        · cases hl
        · cases k with
          | inr y => exact absurd rfl (hl _ List.mem_cons_self y)
          | inl i =>
            show decide ((((Sum.inl i : Key), v) :: vs).map Prod.fst = mKeys) = false
            refine decide_eq_false fun z => ?_
            rw [List.map_cons] at z
            unfold mKeys at z
            injection z with z1 z2
            cases z1
    rcases h with ⟨l, hm, h⟩ | ⟨hm, h⟩ | ⟨l, hm, hk, h⟩
    · obtain ⟨_, xs, hl, g⟩ := s.muts _ _ hm
      obtain ⟨s2, g2, e2⟩ := s.freeze hm hl rfl rfl
      exact ⟨_, _, _, g2, s2, .lst upd_same (g.ext e2), h⟩
    · obtain ⟨_, hl⟩ := s.muts _ _ hm
      rcases hl with ⟨kvs, hl, g⟩ | ⟨kvs, hl, g⟩
      · obtain ⟨s2, g2, e2⟩ := s.freeze hm hl rfl (kvM g (.inl rfl))
        exact ⟨_, _, _, g2, s2, .dic upd_same (kvM g (.inl rfl)) (g.ext e2), h⟩
      · obtain ⟨s2, g2, e2⟩ := s.freeze hm hl rfl rfl
        exact ⟨_, _, _, g2, s2, .dit upd_same (g.ext e2), h⟩
    · obtain ⟨_, hl⟩ := s.muts _ _ hm
      rcases hl with ⟨kvs, hl, g⟩ | ⟨kvs, hl, g⟩
      · obtain ⟨s2, g2, e2⟩ := s.freeze hm hl rfl (kvM g (.inr hk))
        exact ⟨_, _, _, g2, s2, .dic upd_same (kvM g (.inr hk)) (g.ext e2), h⟩
      · obtain ⟨s2, g2, e2⟩ := s.freeze hm hl rfl rfl
        exact ⟨_, _, _, g2, s2, .dit upd_same (g.ext e2), h⟩
  | _ => exact ⟨Hs, n, _, .refl _ _, s, hv, h⟩
theorem d_frz (ha : DE Γ X W a ta) : DE Γ X W a (tbind fFrz ta) := by
  obtain ⟨ea, pa, fa⟩ := ha
  refine ⟨_, pa, fun σ H Hs ρ n q x Q s r h k ke => fa σ H Hs ρ n _ x _ s r h (fun v H1 Hs1 d n1 g1 s1 hv h1 => ?_) ke⟩
  obtain ⟨Hs2, n2, d2, g2, s2, v2, h2⟩ := frz_of s1 hv h1
  exact k v H1 Hs2 d2 n2 (g1.trans g2) s2 v2 h2
/-- a slot is frozen ahead of what follows -/
def tfrz (i : Nat) (t : Ev → Wp Out) : Ev → Wp Out := fun ρ n q x => match ρ[i]? with
  | some (some d) => fFrz d n (fun d' n' => t (ρ.set i (some d')) n' q x) x
  | _ => t ρ n q x
theorem set_self {α : Type} {l : List α} {i : Nat} {a : α} (h : l[i]? = some a) : l.set i a = l := by
  refine List.ext_getElem? fun j => ?_
  by_cases hj : i = j
  · subst hj
    have hlt : i < l.length := by
      rcases Nat.lt_or_ge i l.length with z | z
      · exact z
      · rw [List.getElem?_eq_none z] at h; cases h
    rw [List.getElem?_set_self hlt, h]
  · rw [List.getElem?_set_ne hj]
theorem db_frz (i : Nat) {st : List Stmt} {t : Ev → Wp Out} (h : DB Γ X W st t) : DB Γ X W st (tfrz i t) := by
  obtain ⟨ts, p, f⟩ := h
  refine ⟨ts, p, fun σ H Hs ρ n q x E s r h k ke => ?_⟩
  unfold tfrz at h
  split at h
  · rename_i d e
    obtain ⟨v, h1, h2⟩ := r.at' i d e
    obtain ⟨Hs2, n2, d2, g2, s2, v2, h3⟩ := frz_of s h2 h
    have r2 := (r.ext g2.ext).set i v2
    rw [set_self h1] at r2
    exact f σ H Hs2 _ n2 q x E s2 r2 h3 (k.go g2) (ke.go g2)
  · exact f σ H Hs ρ n q x E s r h k ke
/-- x.append(e) -/
def fAppend (x d : D) : Wp D := match x with
  | .mref a => fun n q _ => ∃ l, n.mu a = some (.lst l) ∧ l.length < 1000000 ∧ q .non ⟨n.n, n.mu.put a (.lst (l ++ [d]))⟩
  | _ => Wp.stuck
def fExtend (x d : D) : Wp D := match x, d with
  | .mref a, .lst m => fun n q _ => ∃ l, n.mu a = some (.lst l) ∧ l.length + m.length ≤ 1000000 ∧ q .non ⟨n.n, n.mu.put a (.lst (l ++ m))⟩
  | _, _ => Wp.stuck
theorem tyL {K : PySem.W.Frag} {H : Hp} {a : Addr} {xs : List V} (h : H a = some (.lst xs)) : tyV K "list" (.ref a) H := Or.inl ⟨rfl, _, Or.inl (Or.inl h)⟩
def fIsL (x : D) : Wp Unit := match x with
  | .mref a => fun n q _ => (∃ l, n.mu a = some (.lst l)) ∧ q () n
  | _ => Wp.stuck
def tmeth (f : D → D → Wp D) (ta tb : Ev → Wp D) : Ev → Wp D := fun ρ => Wp.bind (ta ρ) fun x => Wp.bind (fIsL x) fun _ => Wp.bind (tb ρ) fun d => f x d
theorem meth_of {f : D → D → Wp D} {r : V → List V → Hp → VK → Prop} {ea eb : TE}
    (fa : ∀ (σ : St) (H Hs : Hp) (ρ : Ev) (n : S) (q : D → S → Prop) (x : Exn → S → Prop) (Q : VK), Sit X.K n Hs H → R X.K ρ σ Hs → ta ρ n q x → OkQ X.K Hs H q Q → OkE X.K Γ Hs H x (fun c d h => W c d σ h) → ea σ H Q)
    (fb : ∀ (σ : St) (H Hs : Hp) (ρ : Ev) (n : S) (q : D → S → Prop) (x : Exn → S → Prop) (Q : VK), Sit X.K n Hs H → R X.K ρ σ Hs → tb ρ n q x → OkQ X.K Hs H q Q → OkE X.K Γ Hs H x (fun c d h => W c d σ h) → eb σ H Q)
    (hf : ∀ (p : Addr) (w : V) (d : D) (H Hs : Hp) (n : S) (q : D → S → Prop) (e : Exn → S → Prop) (Q : VK), Sit X.K n Hs H → Dv X.K Hs w d → f (.mref p) d n q e → OkQ X.K Hs H q Q → r (.ref p) [w] H Q)
    (σ : St) (H Hs : Hp) (ρ : Ev) (n : S) (q : D → S → Prop) (x : Exn → S → Prop) (Q : VK) (s : Sit X.K n Hs H) (rr : R X.K ρ σ Hs) (h : tmeth f ta tb ρ n q x) (k : OkQ X.K Hs H q Q) (ke : OkE X.K Γ Hs H x (fun c d h => W c d σ h)) :
    tBM X.K "list" r ea (fun σ H Q => eb σ H fun v H' => Q [v] H') σ H Q := by
  refine fa σ H Hs ρ n _ x _ s rr h (fun v H1 Hs1 d n1 g1 s1 hv h1 => ?_) ke
  cases hv with
  | mref p =>
    obtain ⟨⟨l, hm⟩, h1⟩ := h1
    obtain ⟨_, xs, hl, g⟩ := s1.muts _ _ hm
    refine ⟨tyL hl, fb σ H1 Hs1 ρ n1 _ x _ s1 (rr.ext g1.ext) h1 (fun w H2 Hs2 d2 n2 g2 s2 hw h2 => ?_) (ke.go g1)⟩
    exact hf p w d2 H2 Hs2 n2 q x Q s2 hw h2 (k.go (g1.trans g2))
  | _ => exact (show False from h1).elim
theorem pa_1 {eb : TE} (pb : PE X b eb) (hs : starEach [b] X.env = (false, eval b X.env) :: starEach [] X.env) : PA X [b] (fun σ H Q => eb σ H fun v H' => Q [v] H') := pa_cons pb pa_nil hs
theorem d_append {ap : Pos} (ha : DE Γ X W a ta) (hb : DE Γ X W b tb) (hbase : attributeBase a "append" X.env (eval a X.env) = eval a X.env := by rfl)
    (hfew : ((backTo pos (starEach [b] X.env)).all (fun x => !x.1) && (backToKw pos (keywordEach [] X.env)).all (fun x => x.1.isSome) && decide ([b].length + ([] : List Keyword).length + (if ([] : List Keyword).isEmpty then 0 else 1) < 30)) = true := by rfl)
    (hline : (ap.endLine == pos.line) = true := by rfl) (hs : starEach [b] X.env = (false, eval b X.env) :: starEach [] X.env := by rfl) (hpl : (backTo pos (starEach [] X.env)).any (·.1) = false := by rfl) :
    DE Γ X W (.Call (.Attribute a "append" ap) [b] [] pos) (tmeth fAppend ta tb) := by
  obtain ⟨ea, pa, fa⟩ := ha
  obtain ⟨eb, pb, fb⟩ := hb
  refine ⟨_, pe_bm PySem.F.plainAttrs_list PySem.F.slot_list_append PySem.F.type_list_append mt_append pa (pa_1 pb hs) hbase hfew hline hs hpl, meth_of fa fb fun p w d H Hs n q e Q s hw h k => ?_⟩
  obtain ⟨l, hm, hl, h⟩ := h
  obtain ⟨_, xs, hx, g⟩ := s.muts _ _ hm
  obtain ⟨s2, g2⟩ := s.mutate (o := .lst (xs ++ [w])) (m' := .lst (l ++ [d])) hm ⟨_, upd_same, g.append (.cons hw .nil)⟩
  exact ⟨p, xs, w, rfl, rfl, hx, by rw [g.length, sizeLine_eq]; omega, k _ _ _ _ _ g2 s2 .non h⟩
theorem d_extend {ap : Pos} (ha : DE Γ X W a ta) (hb : DE Γ X W b tb) (hbase : attributeBase a "extend" X.env (eval a X.env) = eval a X.env := by rfl)
    (hfew : ((backTo pos (starEach [b] X.env)).all (fun x => !x.1) && (backToKw pos (keywordEach [] X.env)).all (fun x => x.1.isSome) && decide ([b].length + ([] : List Keyword).length + (if ([] : List Keyword).isEmpty then 0 else 1) < 30)) = true := by rfl)
    (hline : (ap.endLine == pos.line) = true := by rfl) (hs : starEach [b] X.env = (false, eval b X.env) :: starEach [] X.env := by rfl) (hpl : (backTo pos (starEach [] X.env)).any (·.1) = false := by rfl) :
    DE Γ X W (.Call (.Attribute a "extend" ap) [b] [] pos) (tmeth fExtend ta tb) := by
  obtain ⟨ea, pa, fa⟩ := ha
  obtain ⟨eb, pb, fb⟩ := hb
  refine ⟨_, pe_bm PySem.F.plainAttrs_list PySem.F.slot_list_extend PySem.F.type_list_extend mt_extend pa (pa_1 pb hs) hbase hfew hline hs hpl, meth_of fa fb fun p w d H Hs n q e Q s hw h k => ?_⟩
  cases hw with
  | @lst b ys ds h1 g1 =>
    obtain ⟨l, hm, hl, h⟩ := h
    obtain ⟨_, xs, hx, g⟩ := s.muts _ _ hm
    obtain ⟨s2, g2⟩ := s.mutate (o := .lst (xs ++ ys)) (m' := .lst (l ++ ds)) hm ⟨_, upd_same, g.append g1⟩
    exact ⟨p, b, xs, ys, rfl, rfl, hx, s.sub _ _ h1, by rw [g.length, g1.length, sizeLine_eq]; omega, k _ _ _ _ _ g2 s2 .non h⟩
  | _ => exact (show False from h).elim
end
end OE

namespace OE
open PySem PySem.Spec L2
variable [TN]
/-! ### comprehensions of two clauses -/
def wiD (Γ : Gam) (K : PySem.W.Frag) (W : WX) (t : Ev → Wp (List D)) : TI := fun σ H Q => ∃ (n : S) (Hs : Hp) (ρ : Ev) (q : List D → S → Prop) (x : Exn → S → Prop), Sit K n Hs H ∧ R K ρ σ Hs ∧ t ρ n q x ∧ (∀ J H' Hs' ds n', Go Hs H Hs' H' → Sit K n' Hs' H' → WalkD K J Hs' ds → q ds n' → Q J H') ∧ OkE K Γ Hs H x (fun c d h => W c d σ h)
theorem DI.pi {Γ : Gam} {X : Cx} {W : WX} {tg it : Expr} {t : Ev → Wp (List D)} (h : DI Γ X W tg it t) : PI X tg it (wiD Γ X.K W t) := by
  obtain ⟨te, p, f⟩ := h
  exact ⟨fun pins s σ H Q I ⟨n, Hs, ρ, q, x, h1, h2, h3, h4, h5⟩ => p.run pins s σ H Q I (f σ H Hs ρ n q x Q h1 h2 h3 h4 h5)⟩
def lc2W (g : D → Ev → Wp Ev) (tt : Ev → Wp Bool) (ti1 : Ev → Wp (List D)) (g1 : D → Ev → Wp Ev) (tt1 : Ev → Wp Bool) (te : Ev → Wp D) (vs1 : List Nat) (ρ : Ev) : Nat → List D → Wp (List D)
  | _, [] => Wp.ret []
  | c, d :: ds => Wp.bind (g d ρ) fun ρ1 => Wp.bind (tt ρ1) fun b => if b = true then Wp.bind (ti1 ρ1) fun ds1 => Wp.bind (Wp.ask (c + ds1.length ≤ 1000000)) fun _ => Wp.bind (lcW g1 tt1 te (wipeE ρ1 vs1) ds1) fun ys =>
      Wp.bind (lc2W g tt ti1 g1 tt1 te vs1 ρ (c + ys.length) ds) fun zs => Wp.ret (ys ++ zs) else lc2W g tt ti1 g1 tt1 te vs1 ρ c ds
def tlc2 (ti : Ev → Wp (List D)) (g : D → Ev → Wp Ev) (tt : Ev → Wp Bool) (ti1 : Ev → Wp (List D)) (g1 : D → Ev → Wp Ev) (tt1 : Ev → Wp Bool) (te : Ev → Wp D) (vs vs1 : List Nat) : Ev → Wp D := fun ρ => Wp.bind (ti ρ) fun ds =>
  Wp.bind (Wp.calm (lc2W g tt ti1 g1 tt1 te vs1 (wipeE ρ vs) 0 ds)) fun ys => Wp.ret (.lst ys)
theorem wipe_wipe (τ : St) (us : List Nat) : wipe (wipe τ us) us = wipe τ us := by
  have aux : ∀ (us' : List Nat), (∀ i ∈ us', i ∈ us) → wipe (wipe τ us') us = wipe τ us := by
    intro us'
    induction us' with
    | nil => intro _; rfl
    | cons u us'' ih =>
      intro hh
      show wipe ((wipe τ us'').set u none) us = _
      rw [wipe_set (hh u List.mem_cons_self)]
      exact ih fun i hi => hh i (List.mem_cons_of_mem _ hi)
  exact aux us fun _ z => z
theorem lc2_read {Γ : Gam} {K : PySem.W.Frag} {is vs is1 vs1 : List Nat} {g g1 : D → Ev → Wp Ev} {tt tt1 : Ev → Wp Bool} {ti1 : Ev → Wp (List D)} {te : Ev → Wp D} (his : ∀ i ∈ is, i ∈ vs) (his1 : ∀ i ∈ is1, i ∈ vs1) {J : It} {H1 Hs1 : Hp} {ds : List D} {n1 : S} {σ : St} {ρ : Ev} {q : D → S → Prop} {Q : VK}
    (s1 : Sit K n1 Hs1 H1) (wd : WalkD K J Hs1 ds) (r : R K ρ σ Hs1) (h : lc2W g tt ti1 g1 tt1 te vs1 (wipeE ρ vs) 0 ds n1 (fun ys n => q (.lst ys) n) (fun _ _ => False)) (k : OkQ K Hs1 H1 q Q) (A : Addr) (hA : H1 A = none) :
    ∃ W : Nat → Nat → Hp → Prop, (∃ m, W 0 m (upd H1 A (.lst []))) ∧ ∀ i m H, W i m H → (J.stop i H ∧ Q (.ref A) H) ∨ (J.go i H ∧ ∃ Nx : Hp → Prop, (∀ H', Nx H' → ∃ m', m' < m ∧ W (i + 1) m' H') ∧
      ∀ x H', J.yld i H x H' → tgD K is g x (wipe σ vs) H' fun σ2 H2 => wipe σ2 vs = wipe σ vs ∧ ttD Γ K W0 tt σ2 H2 fun b H3 =>
        if b = true then wiD Γ K W0 ti1 σ2 H3 fun J1 H4 => ∃ W1 : Nat → Nat → Hp → Prop, (∃ m, W1 0 m H4) ∧ ∀ j k H, W1 j k H →
          (J1.stop j H ∧ Nx H) ∨ (J1.go j H ∧ ∃ Nx1 : Hp → Prop, (∀ H', Nx1 H' → ∃ k', k' < k ∧ W1 (j + 1) k' H') ∧ ∀ x H', J1.yld j H x H' → tgD K is1 g1 x (wipe σ2 vs1) H' fun σ3 H5 => wipe σ3 vs1 = wipe σ2 vs1 ∧ ttD Γ K W0 tt1 σ3 H5 fun b H6 =>
            if b = true then teD Γ K W0 te σ3 H6 fun y H7 => ∃ acc, H7 A = some (.lst acc) ∧ acc.length < sizeLine ∧ Nx1 (upd H7 A (.lst (acc ++ [y]))) else Nx1 H6)
        else Nx H3) := by
  have hAs := s1.free hA
  obtain ⟨P, hP⟩ : ∃ P : Nat → Hp → Prop, P = fun i H => ∃ (Hs : Hp) (n : S) (acc : List V) (ad : List D), i ≤ ds.length ∧ Ext Hs1 Hs ∧ Sit K n Hs H ∧ (∀ a o, H1 a = some o → Hs1 a = none → H a = some o ∧ Hs a = none) ∧ H A = some (.lst acc) ∧ Hs A = none ∧ DvAll K Hs acc ad ∧
      lc2W g tt ti1 g1 tt1 te vs1 (wipeE ρ vs) ad.length (ds.drop i) n (fun ys n => q (.lst (ad ++ ys)) n) (fun _ _ => False) := ⟨_, rfl⟩
  have put : ∀ {H : Hp} {Hs : Hp} {n : S} {o : HO}, Sit K n Hs H → Hs A = none → Sit K n Hs (upd H A o) := fun {H Hs n o} s e => s.own fun b u z => upd_ne (ne_of_none z e)
  refine ⟨fun i m H => m = ds.length - i ∧ P i H, ⟨_, rfl, ?_⟩, ?_⟩
  · rw [hP]
    refine ⟨Hs1, n1, [], [], Nat.zero_le _, .refl _, put s1 hAs, fun a o e1 e2 => ⟨?_, e2⟩, upd_same, hAs, .nil, h⟩
    rw [upd_ne (ne_of_none e1 hA)]; exact e1
  · rintro i m H ⟨rfl, hPi⟩
    rw [hP] at hPi
    obtain ⟨Hs, n, acc, ad, hi, he, s, own, hAl, hAn, g1', h⟩ := hPi
    by_cases hlt : i < ds.length
    · refine .inr ⟨wd.go i n Hs H he s hlt, P (i + 1), fun H' p => ⟨ds.length - (i + 1), by omega, rfl, p⟩, fun x H' hy => ?_⟩
      obtain ⟨Hs', d, hd, g2, s2, hv⟩ := wd.yld i n Hs H x H' he s hlt hy
      rw [drop_cons hd] at h
      obtain ⟨hAl2, hAn2⟩ := g2.own A _ hAl hAn
      refine ⟨n, Hs', wipeE ρ vs, d, _, _, s2, (r.ext (he.trans g2.ext)).wipe vs, hv, h, fun ρ3 σ3 r3 z3 h3 => ⟨?_, ?_⟩⟩
      · rw [z3 vs his]; exact wipe_wipe σ vs
      · refine ⟨n, Hs', ρ3, _, _, s2, r3, h3, fun b H3 Hs3 n3 g3 s3 h4 => ?_, fun _ _ _ _ _ _ _ _ _ z => z⟩
        obtain ⟨hAl3, hAn3⟩ := g3.own A _ hAl2 hAn2
        have ownN : ∀ {H4 Hs4 : Hp}, Go Hs3 H3 Hs4 H4 → ∀ a o, H1 a = some o → Hs1 a = none → H4 a = some o ∧ Hs4 a = none := fun {H4 Hs4} g4 a o e1 e2 => by
          obtain ⟨f1, f2⟩ := own a o e1 e2
          exact (g2.trans (g3.trans g4)).own a o f1 f2
        cases b with
        | false =>
          rw [if_neg Bool.false_ne_true, hP]
          have E3 := g2.ext.trans g3.ext
          exact ⟨Hs3, n3, acc, ad, hlt, he.trans E3, s3, ownN (.refl _ _), hAl3, hAn3, g1'.ext E3, h4⟩
        | true =>
          rw [if_pos rfl]
          refine ⟨n3, Hs3, ρ3, _, _, s3, r3.ext g3.ext, h4, fun J1 H4 Hs4 ds1 n4 g4 s4 wd1 h5 => ?_, fun _ _ _ _ _ _ _ _ _ z => z⟩
          obtain ⟨hAl4, hAn4⟩ := g4.own A _ hAl3 hAn3
          obtain ⟨hc, h5⟩ := h5
          have E4 := he.trans (g2.ext.trans (g3.ext.trans g4.ext))
          have r4 : R K ρ3 σ3 Hs4 := r3.ext (g3.ext.trans g4.ext)
          obtain ⟨P1, hP1⟩ : ∃ P1 : Nat → Hp → Prop, P1 = fun j H => ∃ (Hs : Hp) (n : S) (acc' : List V) (yd : List D), j ≤ ds1.length ∧ yd.length ≤ j ∧ Ext Hs4 Hs ∧ Sit K n Hs H ∧ (∀ a o, H1 a = some o → Hs1 a = none → H a = some o ∧ Hs a = none) ∧ H A = some (.lst acc') ∧ Hs A = none ∧ DvAll K Hs acc' (ad ++ yd) ∧
              lcW g1 tt1 te (wipeE ρ3 vs1) (ds1.drop j) n (fun ys n => lc2W g tt ti1 g1 tt1 te vs1 (wipeE ρ vs) (ad.length + (yd ++ ys).length) (ds.drop (i + 1)) n (fun zs n => q (.lst (ad ++ ((yd ++ ys) ++ zs))) n) (fun _ _ => False)) (fun _ _ => False) := ⟨_, rfl⟩
          refine ⟨fun j m H => m = ds1.length - j ∧ P1 j H, ⟨_, rfl, ?_⟩, ?_⟩
          · rw [hP1]
            exact ⟨Hs4, n4, acc, [], Nat.zero_le _, Nat.le_refl _, .refl _, s4, ownN g4, hAl4, hAn4, by rw [List.append_nil]; exact g1'.ext (g2.ext.trans (g3.ext.trans g4.ext)), h5⟩
          · rintro j m H ⟨rfl, hPj⟩
            rw [hP1] at hPj
            obtain ⟨Hs5, n5, acc5, yd, hj, hyl, e5, s5, own5, hAl5, hAn5, g5, h6⟩ := hPj
            by_cases hlj : j < ds1.length
            · refine .inr ⟨wd1.go j n5 Hs5 H e5 s5 hlj, P1 (j + 1), fun H' p => ⟨ds1.length - (j + 1), by omega, rfl, p⟩, fun x H' hy => ?_⟩
              obtain ⟨Hs6, d6, hd6, g6, s6, hv6⟩ := wd1.yld j n5 Hs5 H x H' e5 s5 hlj hy
              rw [drop_cons hd6] at h6
              obtain ⟨hAl6, hAn6⟩ := g6.own A _ hAl5 hAn5
              refine ⟨n5, Hs6, wipeE ρ3 vs1, d6, _, _, s6, (r4.ext (e5.trans g6.ext)).wipe vs1, hv6, h6, fun ρ7 σ7 r7 z7 h7 => ⟨?_, ?_⟩⟩
              · rw [z7 vs1 his1]; exact wipe_wipe σ3 vs1
              · refine ⟨n5, Hs6, ρ7, _, _, s6, r7, h7, fun b H8 Hs8 n8 g8 s8 h8 => ?_, fun _ _ _ _ _ _ _ _ _ z => z⟩
                obtain ⟨hAl8, hAn8⟩ := g8.own A _ hAl6 hAn6
                have ownM : ∀ {H9 Hs9 : Hp}, Go Hs8 H8 Hs9 H9 → ∀ a o, H1 a = some o → Hs1 a = none → H9 a = some o ∧ Hs9 a = none := fun {H9 Hs9} g9 a o e1 e2 => by
                  obtain ⟨f1, f2⟩ := own5 a o e1 e2
                  exact (g6.trans (g8.trans g9)).own a o f1 f2
                cases b with
                | false =>
                  rw [if_neg Bool.false_ne_true, hP1]
                  have E8 := g6.ext.trans g8.ext
                  exact ⟨Hs8, n8, acc5, yd, hlj, Nat.le_succ_of_le hyl, e5.trans E8, s8, ownM (.refl _ _), hAl8, hAn8, g5.ext E8, h8⟩
                | true =>
                  rw [if_pos rfl]
                  refine ⟨n8, Hs8, ρ7, _, _, s8, r7.ext g8.ext, h8, fun y H9 Hs9 e9 n9 g9 s9 hy9 h9 => ?_, fun _ _ _ _ _ _ _ _ _ z => z⟩
                  obtain ⟨hAl9, hAn9⟩ := g9.own A _ hAl8 hAn8
                  have len5 : acc5.length = ad.length + yd.length := by rw [g5.length, List.length_append]
                  refine ⟨acc5, hAl9, by rw [len5, sizeLine_eq]; omega, ?_⟩
                  rw [hP1]
                  have E9 := g6.ext.trans (g8.ext.trans g9.ext)
                  refine ⟨Hs9, n9, acc5 ++ [y], yd ++ [e9], hlj, by rw [List.length_append]; exact Nat.succ_le_succ hyl, e5.trans E9, put s9 hAn9, fun a o e1 e2 => ?_, upd_same, hAn9, by rw [← List.append_assoc]; exact (g5.ext E9).append (.cons hy9 .nil), ?_⟩
                  · obtain ⟨f1, f2⟩ := ownM g9 a o e1 e2
                    rw [upd_ne (ne_of_none e1 hA)]; exact ⟨f1, f2⟩
                  · have ee : ∀ ys : List D, yd ++ [e9] ++ ys = yd ++ e9 :: ys := fun ys => by rw [List.append_assoc]; rfl
                    simp only [ee]
                    exact h9
            · have e : j = ds1.length := by omega
              subst e
              rw [List.drop_length] at h6
              refine .inl ⟨wd1.stop n5 Hs5 H e5 s5, ?_⟩
              have h6' : lc2W g tt ti1 g1 tt1 te vs1 (wipeE ρ vs) (ad.length + (yd ++ []).length) (ds.drop (i + 1)) n5 (fun zs n => q (.lst (ad ++ ((yd ++ []) ++ zs))) n) (fun _ _ => False) := h6
              rw [List.append_nil] at h6'
              rw [hP]
              refine ⟨Hs5, n5, acc5, ad ++ yd, hlt, E4.trans e5, s5, own5, hAl5, hAn5, g5, ?_⟩
              have ee : ∀ zs : List D, ad ++ yd ++ zs = ad ++ (yd ++ zs) := fun zs => List.append_assoc ..
              rw [List.length_append]
              simp only [ee]
              exact h6'
    · have e : i = ds.length := by omega
      subst e
      rw [List.drop_length] at h
      refine .inl ⟨wd.stop n Hs H he s, ?_⟩
      have hs : Ext Hs (upd Hs A (.lst acc)) := Ext.of_same fun b u z => by
        rw [upd_ne (ne_of_none z hAn)]; exact z
      have sA : Sit K n (upd Hs A (.lst acc)) H := by
        have z := (s.put (o := .lst acc) hAn rfl rfl).1
        rwa [upd_id hAl] at z
      refine k _ H (upd Hs A (.lst acc)) (.lst ad) n ⟨he.trans hs, fun a o e1 e2 => ?_⟩ sA (.lst upd_same (g1'.ext hs)) ?_
      · obtain ⟨f1, f2⟩ := own a o e1 e2
        rw [upd_ne (ne_of_none e1 hA)]; exact ⟨f1, f2⟩
      · have h' : q (.lst (ad ++ [])) n := h
        rw [List.append_nil] at h'; exact h'
section
variable {Γ : Gam} {X : Cx} {W : WX} {tg tg1 : Expr} {pos : Pos}
theorem d_lc2 {elt it it1 : Expr} {ifs ifs1 : List Expr} {scope : Scope} {own : List (Str × Nat)} {ti ti1 : Ev → Wp (List D)} {g g1 : D → Ev → Wp Ev} {tt tt1 : Ev → Wp Bool} {te : Ev → Wp D} {is is1 : List Nat} (vs1 : List Nat) (hN : X.N.Nodup) (ok : BlkOk X.N X.env.scope scope own) (hi : DI Γ X W tg it ti)
    (hg : ∀ (s : Shared) (H : Hp) (C : Addr) (cl : List (Str × Addr)) (fp : List Addr), DG (X.blk s H scope (compEnvC scope cl C X.env) fp) tg is g)
    (ht : ∀ (s : Shared) (H : Hp) (C : Addr) (cl : List (Str × Addr)) (fp : List Addr), DTs Γ (X.blk s H scope (compEnvC scope cl C X.env) fp) W0 ifs tt)
    (hi1 : ∀ (s : Shared) (H : Hp) (C : Addr) (cl : List (Str × Addr)) (fp : List Addr), DI Γ (X.blk s H scope (compEnvC scope cl C X.env) fp) W0 tg1 it1 ti1)
    (hg1 : ∀ (s : Shared) (H : Hp) (C : Addr) (cl : List (Str × Addr)) (fp : List Addr), DG (X.blk s H scope (compEnvC scope cl C X.env) fp) tg1 is1 g1)
    (ht1 : ∀ (s : Shared) (H : Hp) (C : Addr) (cl : List (Str × Addr)) (fp : List Addr), DTs Γ (X.blk s H scope (compEnvC scope cl C X.env) fp) W0 ifs1 tt1)
    (he : ∀ (s : Shared) (H : Hp) (C : Addr) (cl : List (Str × Addr)) (fp : List Addr), DE Γ (X.blk s H scope (compEnvC scope cl C X.env) fp) W0 elt te)
    (hv : ∀ i ∈ vs1, i ∈ own.map (·.2) := by decide) (his : ∀ i ∈ is, i ∈ own.map (·.2) := by decide) (his1 : ∀ i ∈ is1, i ∈ vs1 := by decide) (hc : X.calm = true := by rfl) (hs : ∀ x, foldedSetIterable it X.env x = pure x := by intro _; rfl) (hs1 : ∀ env x, foldedSetIterable it1 env x = pure x := by intro _ _; rfl) :
    DE Γ X W (.ListComp elt [⟨tg, it, ifs, 0⟩, ⟨tg1, it1, ifs1, 0⟩] scope pos) (tlc2 ti g tt ti1 g1 tt1 te (own.map (·.2)) vs1) := by
  obtain ⟨wi, pi, fi⟩ := hi
  refine ⟨_, pe_lc2 (g := tgD X.K is g) (tt := ttD Γ X.K W0 tt) (wi1 := wiD Γ X.K W0 ti1) (g1 := tgD X.K is1 g1) (tt1 := ttD Γ X.K W0 tt1) (te := teD Γ X.K W0 te) hc hN pi ok hv (fun s H C cl fp => (hg s H C cl fp).pg) (fun s H C cl fp => ht s H C cl fp) (fun s H C cl fp => (hi1 s H C cl fp).pi) (fun s H C cl fp => (hg1 s H C cl fp).pg) (fun s H C cl fp => ht1 s H C cl fp) (fun s H C cl fp => (he s H C cl fp).pe) hs hs1, fun σ H Hs ρ n q x Q s r h k ke => fi σ H Hs ρ n _ x _ s r h (fun J H1 Hs1 ds n1 g1 s1 wd h1 => ?_) ke⟩
  intro A hA
  exact lc2_read (q := q) his his1 s1 wd (r.ext g1.ext) h1 (k.go g1) A hA
theorem ds_setLc2 (i : Nat) {y : Str} {py spos : Pos} {elt it it1 : Expr} {ifs ifs1 : List Expr} {scope : Scope} {own : List (Str × Nat)} {ti ti1 : Ev → Wp (List D)} {g g1 : D → Ev → Wp Ev} {tt tt1 : Ev → Wp Bool} {te : Ev → Wp D} {is is1 : List Nat} (vs1 : List Nat) (hN : X.N.Nodup) (ok : BlkOk X.N X.env.scope scope own) (hi : DI Γ X W tg it ti)
    (hg : ∀ (s : Shared) (H : Hp) (C : Addr) (cl : List (Str × Addr)) (fp : List Addr), DG (X.blk s H scope (compEnvC scope cl C X.env) fp) tg is g)
    (ht : ∀ (s : Shared) (H : Hp) (C : Addr) (cl : List (Str × Addr)) (fp : List Addr), DTs Γ (X.blk s H scope (compEnvC scope cl C X.env) fp) W0 ifs tt)
    (hi1 : ∀ (s : Shared) (H : Hp) (C : Addr) (cl : List (Str × Addr)) (fp : List Addr), DI Γ (X.blk s H scope (compEnvC scope cl C X.env) fp) W0 tg1 it1 ti1)
    (hg1 : ∀ (s : Shared) (H : Hp) (C : Addr) (cl : List (Str × Addr)) (fp : List Addr), DG (X.blk s H scope (compEnvC scope cl C X.env) fp) tg1 is1 g1)
    (ht1 : ∀ (s : Shared) (H : Hp) (C : Addr) (cl : List (Str × Addr)) (fp : List Addr), DTs Γ (X.blk s H scope (compEnvC scope cl C X.env) fp) W0 ifs1 tt1)
    (he : ∀ (s : Shared) (H : Hp) (C : Addr) (cl : List (Str × Addr)) (fp : List Addr), DE Γ (X.blk s H scope (compEnvC scope cl C X.env) fp) W0 elt te)
    (hsw : swapsWith (.ListComp elt [⟨tg, it, ifs, 0⟩, ⟨tg1, it1, ifs1, 0⟩] scope pos) (some (.Name y py)) spos.line X.env = pure true) (hy : X.N[i]? = some y := by rfl) (hyl : X.env.scope.names.lookup y = some .local := by rfl)
    (hv : ∀ i ∈ vs1, i ∈ own.map (·.2) := by decide) (his : ∀ i ∈ is, i ∈ own.map (·.2) := by decide) (his1 : ∀ i ∈ is1, i ∈ vs1 := by decide) (hc : X.calm = true := by rfl) (hs : ∀ x, foldedSetIterable it X.env x = pure x := by intro _; rfl) (hs1 : ∀ env x, foldedSetIterable it1 env x = pure x := by intro _ _; rfl) :
    DS Γ X W (.Assign [.Name y py] (.ListComp elt [⟨tg, it, ifs, 0⟩, ⟨tg1, it1, ifs1, 0⟩] scope pos) spos) (tset i (tlc2 ti g tt ti1 g1 tt1 te (own.map (·.2)) vs1)) := by
  obtain ⟨wi, pi, fi⟩ := hi
  refine ⟨_, ps_setLc2 (g := tgD X.K is g) (tt := ttD Γ X.K W0 tt) (wi1 := wiD Γ X.K W0 ti1) (g1 := tgD X.K is1 g1) (tt1 := ttD Γ X.K W0 tt1) (te := teD Γ X.K W0 te) hc hN hy hyl hsw pi ok hv (fun s H C cl fp => (hg s H C cl fp).pg) (fun s H C cl fp => ht s H C cl fp) (fun s H C cl fp => (hi1 s H C cl fp).pi) (fun s H C cl fp => (hg1 s H C cl fp).pg) (fun s H C cl fp => ht1 s H C cl fp) (fun s H C cl fp => (he s H C cl fp).pe) hs hs1, fun σ H Hs ρ n q x E s r h k ke => fi σ H Hs ρ n _ x _ s r h (fun J H1 Hs1 ds n1 g1 s1 wd h1 => ?_) (ke σ)⟩
  intro A hA
  exact lc2_read (q := fun d n => q (.nx (ρ.set i (some d))) n) his his1 s1 wd (r.ext g1.ext) h1 (fun v H2 Hs2 d n2 g2 s2 hv h2 => k (.nx _) n2 H2 Hs2 (g1.trans g2) s2 h2 _ ((r.ext (g1.trans g2).ext).set i hv)) A hA
end
end OE

/-! sorted: tuples, the first of them empty -/
namespace PySem.W
open PySem PySem.Calls PySem.SeqAt PyProof.Rows
section
variable {prog : Program} {w : World} {A : Around} {E : Value → Shared → Prop} {s : Shared}
theorem call_tuple_lt {Q : Value → Shared → Prop} {l b : Addr} {items items2 : Array Value} {e r : Nat → Bool} (hl : s.heap.IsTuple l items) (hb : s.heap.IsTuple b items2)
    (he : ∀ j (h1 : j < items.size) (h2 : j < items2.size), EqAt A.in1 s items[j] items2[j] (e j)) (hr : ∀ j (h1 : j < items.size) (h2 : j < items2.size), e j = false → RcLt A.in1 s items[j] items2[j] (r j))
    (h : Q (.bool (firstLt e r (decide (items.size < items2.size)) (List.range (min items.size items2.size)))) s) : wpAny (model prog w) A (call (.builtin "tuple.__lt__") [.ref l, .ref b]) Q E s := by
  obtain ⟨⟨cls, dd, data, sl⟩, ho, hc, n, hd⟩ := id hl
  obtain ⟨⟨cls2, dd2, data2, sl2⟩, ho2, hc2, n2, hd2⟩ := id hb
  simp only at hc hd hc2 hd2
  subst hc hd hc2 hd2
  exact call_meets F.slot_tuple_lt ⟨_, ho, rfl⟩ F.entry_tuple_lt (F.args_tuple_lt_2 _ _) (tuple_ltAt l b items items2 n n2 dd dd2 sl sl2 e r) ⟨ho, ho2, he, hr, h⟩
theorem oneLt_tuple {xs ys : List PyData} {a b : Value} {as bs : List Addr} {Q : Bool → Shared → Prop} (ra : Reads s.heap a (.tuple xs) as) (rb : Reads s.heap b (.tuple ys) bs) (h : alike (.tuple xs) (.tuple ys) = true)
    (hu : A.units + min (PyData.tuple xs).depth (PyData.tuple ys).depth < cLine) (hq : Q (dataLt (.tuple xs) (.tuple ys)) s) : wpAny (model prog w) A (oneLt' true a b) Q E s := by
  have hal : alikeAll xs ys = true := by simpa [alike] using h
  cases ra with
  | @tuple l o vs n _ as₁ h1 h2 h3 h4 =>
    cases rb with
    | @tuple l' o' vs' n' _ bs₁ k1 k2 k3 k4 =>
      have n1 : vs.size = xs.length := by simpa using ReadsAll.length _ _ _ h4
      have n2 : vs'.size = ys.length := by simpa using ReadsAll.length _ _ _ k4
      rw [dataLt_tuple, ← firstLt_toks xs ys hal, ← n1, ← n2] at hq
      rw [oneLt'_eq]
      simp only [if_true]
      refine wpAny_bind (wpAny_cRoomFor (room_here hu) ?_)
      refine wpAny_bind (wpAny_callSpecialIfBound?_slot (T := "tuple") ⟨_, h1, h2⟩ F.slot_tuple_lt (call_tuple_lt (e := pairEq xs ys) (r := fun j => dataLt (xs.getD j .none) (ys.getD j .none)) ⟨_, h1, h2, _, h3⟩ ⟨_, k1, k2, _, k3⟩ (fun j j1 j2 => ?_) (fun j j1 j2 hj => ?_) ?_))
      · have := eqAt_alikeAll xs ys A.in1 s vs.toList vs'.toList _ _ h4 k4 hal (room_in hu) j (by simpa using j1) (by simpa using j2)
        simpa using this
      · have := rcLt_alikeAll xs ys A.in1 s vs.toList vs'.toList _ _ h4 k4 hal (room_in hu) j (by simpa using j1) (by simpa using j2) hj
        simpa using this
      · exact wpAny_truthy_bool hq
theorem firsts_run {M : Model} : ∀ {vs : List Value} {ds : List PyData}, EachIs (fun v d => ∃ as, Reads s.heap v d as) vs ds → (∀ d, d ∈ ds → ∃ xs, d = .tuple xs) →
    ∃ os : List (Option Value), (∀ ds', ds = .tuple [] :: ds' → ∃ os', os = none :: os') ∧ ∀ {Q : List (Option Value) → Shared → Prop}, Q os s → wpAny M A (vs.mapM firstOfTuple') Q E s
  | _, _, .nil, _ => by
    refine ⟨[], ?_, ?_⟩
    · intro ds' h; cases h
    · intro Q h; rw [List.mapM_nil]; exact wpAny_pure h
  | _, _, .cons (b := d) ⟨as, r⟩ t, ht => by
    obtain ⟨os, _, h2⟩ := firsts_run (M := M) t fun d hd => ht d (List.mem_cons_of_mem _ hd)
    obtain ⟨xs, rfl⟩ := ht d (List.mem_cons_self ..)
    cases r with
    | @tuple a o us n _ _ ho hc hd hr =>
      refine ⟨us[0]? :: os, fun ds' e => ?_, fun {Q} h => ?_⟩
      · injection e with e1 e2
        injection e1 with e1
        subst e1
        have z : us.toList = [] := by cases h : us.toList with
          | nil => rfl
          | cons x y => rw [h] at hr; cases hr
        have z' : us = #[] := Array.toList_inj.mp (by rw [z])
        exact ⟨os, by rw [z']; rfl⟩
      · rw [List.mapM_cons]
        refine wpAny_bind ?_
        rw [kas_first_eq]
        refine wpAny_bind (Looks.here (show Looks M s.heap (typeOf (.ref a)) o.cls from (Looks.ld ho).andThen .now) ?_)
        rw [hc, if_neg (by first | decide | simp)]
        refine wpAny_bind (listItems_at ho hd (wpAny_pure ?_))
        exact wpAny_bind (h2 (Q := fun bs s' => wpAny M A (pure (us[0]? :: bs)) Q E s') (wpAny_pure h))
theorem SortsAt.data2 {vs : List Value} {ds ds' : List PyData} (e : EachIs (fun v d => ∃ as, Reads s.heap v d as) vs ds) (hal : AllAlike ds) (h0 : ds = .tuple [] :: ds') (ht : ∀ d, d ∈ ds → ∃ xs, d = .tuple xs) (hu : ∀ d, d ∈ ds → A.units + d.depth < cLine) : SortsAt prog w A s (dataKind s.heap ds) vs := by
  have room : ∀ {d d' : PyData}, d ∈ ds → A.units + min d.depth d'.depth < cLine := fun {d d'} hd => Nat.lt_of_le_of_lt (Nat.add_le_add_left (Nat.min_le_left _ _) _) (hu d hd)
  refine ⟨fun v hv => ?_, oneType', ?_, fun h2 E Q hq => ?_⟩
  · obtain ⟨d, hd, as, r⟩ := e.left v hv
    exact ⟨_, dataKind_some hal hd r⟩
  · intro E x y a b Q ha hb hq
    obtain ⟨d, as, hd, ra, rfl⟩ := dataKind_inv ha
    obtain ⟨d', as', hd', rb, rfl⟩ := dataKind_inv hb
    rw [keyLt'_oneType]
    obtain ⟨xs, rfl⟩ := ht d hd
    obtain ⟨ys, rfl⟩ := ht d' hd'
    exact oneLt_tuple ra rb (hal _ hd _ hd') (room hd) hq
  · obtain ⟨os, h1, run⟩ := firsts_run (M := model prog w) (A := A) (E := E) e ht
    obtain ⟨os', rfl⟩ := h1 _ h0
    obtain ⟨v₁, v₂, rest, rfl⟩ : ∃ v₁ v₂ rest, vs = v₁ :: v₂ :: rest := by
      match vs, h2 with
      | [], h2 => simp at h2
      | [_], h2 => simp at h2
      | v₁ :: v₂ :: rest, _ => exact ⟨v₁, v₂, rest, rfl⟩
    rw [keyKind'_eq, List.mapM_toArray, map_eq_pure_bind]
    refine wpAny_bind (wpAny_bind (run (wpAny_pure ?_)))
    rw [if_neg (by simp), if_neg (by simp)]
    rw [oneTypeOnly'_eq, List.mapM_toArray, map_eq_pure_bind]
    have hT : ∀ v ∈ v₁ :: v₂ :: rest, Looks (model prog w) s.heap (typeOf v) (Value.type "tuple") := fun v hv => by
      obtain ⟨d, hd, as, r⟩ := e.left v hv
      obtain ⟨xs, rfl⟩ := ht d hd
      exact looks_reads r
    refine wpAny_bind (wpAny_bind (wpAny_bind (kas_mapM (r := Value.type "tuple") _ (fun v hv Q' hq => (hT v hv).here hq) (wpAny_pure ?_))))
    have hall : ((List.map (fun _ => Value.type "tuple") (v₁ :: v₂ :: rest)).toArray.all fun x => x == Value.type "tuple") = true := by
      simp only [List.all_toArray, List.all_map, List.all_eq_true]
      intro _ _
      rfl
    have h0' : (List.map (fun _ => Value.type "tuple") (v₁ :: v₂ :: rest)).toArray[0]? = some (Value.type "tuple") := by simp
    rw [h0']
    simp only [hall, if_true]
    exact wpAny_pure (wpAny_pure hq)
def Sortable2 (ds : List PyData) : Prop := Sortable ds ∨ (∃ ds', ds = .tuple [] :: ds') ∧ ∀ d, d ∈ ds → ∃ xs, d = .tuple xs
theorem sorted_data2 {β : Type} {vs : List Value} {bs : List β} {enc : β → PyData} {R : Value → β → Prop} {l : Addr} {Q : Value → Shared → Prop} (hl : s.heap.IsList l vs.toArray) (e : EachIs R vs bs) (er : EachIs (fun v b => ∃ as, Reads s.heap v (enc b) as) vs bs) (hal : AllAlike (bs.map enc)) (hk : Sortable2 (bs.map enc)) (hL : bs.length ≤ sizeLine)
    (hu : ∀ b, b ∈ bs → A.units + 2 + (enc b).depth < cLine) (h : ∀ out, out.length = bs.length → EachIs R out (bs.mergeSort (dataLe false enc)) → Q (.ref (s.heap.objs.size + 1)) { s with heap := sortedAll s.heap vs (List.toArray out) }) :
    wpAny (model prog w) A (call (.builtin "sorted") [.ref l]) Q E s := by
  rcases hk with hk | ⟨⟨ds', h0⟩, ht⟩
  · exact sorted_data hl e er hal hk hL hu h
  · have er' : EachIs (fun v b => ∃ as, Reads (sortingHeap (copyHeap s.heap vs) (s.heap.objs.size + 1) vs) v (enc b) as) vs bs := er.mono fun _ _ ⟨as, r⟩ => ⟨as, PyProof.Rows.Reads.keeps (fun _ _ => sorting_copy_old) r⟩
    exact sorted_vals hl (SortsAt.data2 (s := { s with heap := sortingHeap (copyHeap s.heap vs) (s.heap.objs.size + 1) vs }) (each_map (R := fun v d => ∃ as, Reads (sortingHeap (copyHeap s.heap vs) (s.heap.objs.size + 1) vs) v d as) enc er') hal h0 ht (bound_map hu)) (by rw [e.length]; exact hL)
      (h _ (by rw [sortVals_length false rfl]; exact e.length) (sortVals_data false e er' hal))
end
end PySem.W
namespace OE
open PySem PySem.Spec L2
variable [TN]
/-- the sorted list -/
def leD (a b : D) : Bool := !PySem.W.dataLt b.py a.py
def sortD (l : List D) : List D := l.mergeSort leD
def SortOk (l : List D) : Prop := (∀ d ∈ l, d.plain = true ∧ d.py.depth ≤ 60) ∧ PySem.W.AllAlike (l.map D.py) ∧ PySem.W.Sortable2 (l.map D.py)
def fSorted : List D → Wp D
  | [.lst l] => Wp.bind (Wp.ask (SortOk l)) fun _ => Wp.ret (.lst (sortD l))
  | _ => Wp.stuck
def rSortD (K : PySem.W.Frag) : List V → Hp → VK → Prop := fun xs H Q => ∃ (p : Addr) (vs : List V) (ds : List D) (Hs : Hp) (n : S), xs = [.ref p] ∧ Sit K n Hs H ∧ SqL K H p vs ∧ DvAll K Hs vs ds ∧ SortOk ds ∧
  ∀ ys q, DvAll K Hs ys (sortD ds) → H q = none → Q (.ref q) (upd H q (.lst ys))
theorem each_of {X : Cx} {pins : List (Addr × Obj)} {σ : L2.St} {H Hs : Hp} {s : Shared} (I : Inv X pins σ H s) (sub : SameK Hs H) : ∀ {vs : List V} {ds : List D} {us : List Value}, DvAll X.K Hs vs ds → Vals vs us → (∀ d ∈ ds, d.plain = true) →
    PySem.W.EachIs (fun u (p : V × D) => RelV p.1 u ∧ Dv X.K Hs p.1 p.2) us (vs.zip ds) ∧ PySem.W.EachIs (fun u (p : V × D) => ∃ as, Reads s.heap u p.2.py as) us (vs.zip ds)
  | _, _, _, .nil, .nil, _ => ⟨.nil, .nil⟩
  | _, _, _, .cons h g, .cons r rr, hp => by
    obtain ⟨e1, e2⟩ := each_of I sub g rr fun d hd => hp d (List.mem_cons_of_mem _ hd)
    exact ⟨.cons ⟨r, h⟩ e1, .cons (h.rs I sub r (hp _ List.mem_cons_self)).reads e2⟩
theorem zip_snd {α β : Type} : ∀ {l : List α} {m : List β}, l.length = m.length → (l.zip m).map Prod.snd = m
  | [], [], _ => rfl
  | _ :: _, [], h => by cases h
  | [], _ :: _, h => by cases h
  | a :: l, b :: m, h => by rw [List.zip_cons_cons, List.map_cons, zip_snd (by simpa using h)]
theorem each_back {K : PySem.W.Frag} {Hs : Hp} : ∀ {us : List Value} {zs : List (V × D)}, PySem.W.EachIs (fun u (p : V × D) => RelV p.1 u ∧ Dv K Hs p.1 p.2) us zs → Vals (zs.map Prod.fst) us ∧ DvAll K Hs (zs.map Prod.fst) (zs.map Prod.snd)
  | _, _, .nil => ⟨.nil, .nil⟩
  | _, _, .cons h t => by
    obtain ⟨a, b⟩ := each_back t
    exact ⟨.cons h.1 a, .cons h.2 b⟩
theorem call_sortD {X : Cx} (hu : X.A.units + 64 < cLine) : CallR X (.builtin "sorted") (rSortD X.K) := by
  intro pins s σ H xs us Q I r h
  obtain ⟨p, vs, ds, Hs, n, rfl, st, sq, hv, ⟨ok1, ok2, ok3⟩, q⟩ := h
  obtain ⟨u, rfl, ru⟩ := vals1 r
  obtain rfl : u = Value.ref p := ru
  obtain ⟨its, rv, hl, hz⟩ := I.list sq
  obtain ⟨e1, e2⟩ := each_of I st.subK hv rv fun d hd => (ok1 d hd).1
  have hzip : (vs.zip ds).map Prod.snd = ds := zip_snd hv.length
  have henc : (vs.zip ds).map (fun p => p.2.py) = ds.map D.py := by
    have e : (fun p : V × D => p.2.py) = D.py ∘ Prod.snd := rfl
    rw [e, ← List.map_map, hzip]
  have hlen : (vs.zip ds).length = vs.length := by rw [List.length_zip, hv.length, Nat.min_self]
  refine PySem.W.sorted_data2 (enc := fun p : V × D => p.2.py) hl.isList e1 e2 (by rw [henc]; exact ok2) (by rw [henc]; exact ok3) (by rw [hlen]; exact hz) (fun b hb => ?_) fun out ho eo => ?_
  · have hm : b.2 ∈ ds := by rw [← hzip]; exact List.mem_map.mpr ⟨b, hb, rfl⟩
    have := (ok1 _ hm).2
    omega
  · obtain ⟨b1, b2⟩ := each_back eo
    have es : ((vs.zip ds).mergeSort (PySem.W.dataLe false fun p : V × D => p.2.py)).map Prod.snd = sortD ds := by
      have z := PySem.W.sort_maps (r := PySem.W.dataLe false fun p : V × D => p.2.py) (s := leD) Prod.snd (l := vs.zip ds) (fun a _ b _ => rfl)
      rw [z, hzip]
      rfl
    rw [es] at b2
    obtain ⟨e, he⟩ := PyProof.Rows.sortedAll_at s.heap its (List.toArray out)
    refine ⟨.ref (s.heap.objs.size + 1), upd H (s.heap.objs.size + 1) (.lst _), I.laid (t' := s.toks) (fun b o hb => PyProof.Rows.sortedAll_old hb) (Nat.le_succ _) (show ObjOk X.prog X.w _ _ _ (.lst _) from ⟨?_, out, e, b1, he⟩), rfl, q _ _ b2 (I.hok.fresh (Nat.le_succ _))⟩
    rw [b1.length, ho, hlen]
    exact hz
theorem cd_sorted {K : PySem.W.Frag} : CD K (rSortD K) fSorted := by
  intro xs ds H Hs n q e Q s hx h k
  cases hx with
  | nil => exact (show False from h).elim
  | @cons v vs d ds hv g =>
   cases g with
   | cons _ _ => cases d <;> exact (show False from h).elim
   | nil =>
    cases hv with
    | @lst p vs ds h1 g1 =>
      refine ⟨p, vs, ds, Hs, n, rfl, s, SqL.of (s.sub _ _ h1), g1, h.1, fun ys q' hy hq => ?_⟩
      obtain ⟨s4, g4, v4⟩ := new_lst s hq hy
      exact k _ _ _ _ n g4 s4 v4 h.2
    | _ => exact (show False from h).elim
section
variable {Γ : Gam} {X : Cx} {W : WX} {a : Expr} {pos : Pos}
theorem d_sorted {p : Pos} {t : Ev → Wp (List D)} (hu : X.A.units + 64 < cLine) (hm : X.mg "sorted" = none) (ha : DA Γ X W [a] t) (hg : Gl X "sorted" := by rfl) (he : starEach [a] X.env = (false, eval a X.env) :: starEach [] X.env := by rfl) (hpl : (backTo pos (starEach [] X.env)).any (·.1) = false := by rfl) :
    DE Γ X W (.Call (.Name "sorted" p) [a] [] pos) (tcall fSorted t) := d_callB (call_sortD hu) cd_sorted hg hm (by decide +kernel) ha (by decide) (by decide) he hpl
end
end OE

namespace OE
open PySem PySem.Spec L2
variable [TN]
section
variable {n : S} {x : Exn → S → Prop} {ρ : Ev} {d : D} {i j l : Nat} {f : D → D → Wp D} {ta tb tc : Ev → Wp D} {tl : Ev → Wp (List D)} {c c' : Ev → Wp Bool} {t u : Ev → Wp Out} {q : D → S → Prop} {qo : Out → S → Prop} {qb : Bool → S → Prop} {ql : List D → S → Prop}
theorem f_all {l : List D} : fAll [.lst l] n q x = ∃ bs, boolsOf l = some bs ∧ q (.bl (bs.all id)) n := rfl
theorem f_any {l : List D} : fAny [.lst l] n q x = ∃ bs, boolsOf l = some bs ∧ q (.bl (bs.any id)) n := rfl
theorem f_sum {l : List D} : fSum [.lst l] n q x = ∃ bs, intsOf l = some bs ∧ q (.int bs.sum) n := rfl
def kFz (i : Nat) (t : Ev → Wp Out) (ρ : Ev) (q : Out → S → Prop) (x : Exn → S → Prop) (d : D) (n : S) : Prop := t (ρ.set i (some d)) n q x
def kFrz (i : Nat) (t : Ev → Wp Out) (ρ : Ev) (q : Out → S → Prop) (x : Exn → S → Prop) (o : Option (Option D)) (n : S) : Prop := match o with
  | some (some d) => fFrz d n (kFz i t ρ q x) x
  | _ => t ρ n q x
theorem s_frz : tfrz i t ρ n qo x = kFrz i t ρ qo x ρ[i]? n := by
  unfold tfrz kFrz
  cases h : ρ[i]? with
  | none => rfl
  | some o => cases o <;> rfl
theorem k_frzS : kFrz i t ρ qo x (some (some d)) n = fFrz d n (kFz i t ρ qo x) x := rfl
theorem k_fz : kFz i t ρ qo x d n = t (ρ.set i (some d)) n qo x := rfl
theorem f_frzLs {l : List D} : fFrz (.lst l) n q x = q (.lst l) n := rfl
theorem f_frzT {l : List D} : fFrz (.tup l) n q x = q (.tup l) n := rfl
theorem f_frzI {z : Int} : fFrz (.int z) n q x = q (.int z) n := rfl
theorem f_frzN : fFrz .non n q x = q .non n := rfl
def kMl (q : D → S → Prop) (ds : List D) (n : S) : Prop := ds.length ≤ 1000000 ∧ ∀ a, n.mu a = none → q (.mref a) ⟨n.n, n.mu.put a (.lst ds)⟩
theorem s_mlst : tmlst tl ρ n q x = tl ρ n (kMl q) x := rfl
theorem k_ml {ds : List D} : kMl q ds n = (ds.length ≤ 1000000 ∧ ∀ a, n.mu a = none → q (.mref a) ⟨n.n, n.mu.put a (.lst ds)⟩) := rfl
def kMe (f : D → D → Wp D) (tb : Ev → Wp D) (ρ : Ev) (q : D → S → Prop) (x : Exn → S → Prop) (d : D) (n : S) : Prop := fIsL d n (fun _ m => tb ρ m (kBin2 f d q x) x) x
theorem s_meth : tmeth f ta tb ρ n q x = ta ρ n (kMe f tb ρ q x) x := rfl
theorem k_me {a : Addr} : kMe f tb ρ q x (.mref a) n = ((∃ l, n.mu a = some (.lst l)) ∧ tb ρ n (kBin2 f (.mref a) q x) x) := rfl
theorem f_app {a : Addr} : fAppend (.mref a) d n q x = ∃ l, n.mu a = some (.lst l) ∧ l.length < 1000000 ∧ q .non ⟨n.n, n.mu.put a (.lst (l ++ [d]))⟩ := rfl
theorem f_extd {a : Addr} {m : List D} : fExtend (.mref a) (.lst m) n q x = ∃ l, n.mu a = some (.lst l) ∧ l.length + m.length ≤ 1000000 ∧ q .non ⟨n.n, n.mu.put a (.lst (l ++ m))⟩ := rfl
theorem f_sorted {l : List D} : fSorted [.lst l] n q x = (SortOk l ∧ q (.lst (sortD l)) n) := rfl
def kLcc (g : D → Ev → Wp Ev) (c : Ev → Wp Bool) (ti1 : Ev → Wp (List D)) (g1 : D → Ev → Wp Ev) (c1 : Ev → Wp Bool) (te : Ev → Wp D) (vs vs1 : List Nat) (ρ : Ev) (q : D → S → Prop) (ds : List D) (n : S) : Prop := lc2W g c ti1 g1 c1 te vs1 (wipeE ρ vs) 0 ds n (fun ys m => q (.lst ys) m) (fun _ _ => False)
theorem s_lc2 {g g1 : D → Ev → Wp Ev} {ti1 : Ev → Wp (List D)} {vs vs1 : List Nat} : tlc2 tl g c ti1 g1 c' ta vs vs1 ρ n q x = tl ρ n (kLcc g c ti1 g1 c' ta vs vs1 ρ q) x := rfl
theorem k_lcc {g g1 : D → Ev → Wp Ev} {ti1 : Ev → Wp (List D)} {vs vs1 : List Nat} {ds : List D} : kLcc g c ti1 g1 c' ta vs vs1 ρ q ds n = lc2W g c ti1 g1 c' ta vs1 (wipeE ρ vs) 0 ds n (fun ys m => q (.lst ys) m) (fun _ _ => False) := rfl
end
section
variable {n : S} {x : Exn → S → Prop} {q : D → S → Prop} {ρ : Ev} {c c' : Ev → Wp Bool} {ta : Ev → Wp D}
theorem f_frzL {a : Addr} {l : List D} (h : n.mu a = some (.lst l)) (hq : q (.lst l) ⟨n.n, n.mu.del a⟩) : fFrz (.mref a) n q x := .inl ⟨l, h, hq⟩
/-- a comprehension that maps -/
theorem lc_map {g : D → Ev → Wp Ev} {f : D → D} {ds : List D} {ql : List D → S → Prop} (hp : ∀ d ∈ ds, ∀ (n : S) (k : Option D → S → Prop), k (some (f d)) n → lc1 g c ta ρ d n k) (h : ql (ds.map f) n) : lcW g c ta ρ ds n ql (fun _ _ => False) :=
  lc_pure (f := fun d => some (f d)) hp (by rw [List.filterMap_eq_map']; exact h)
theorem bools_map {α : Type} (p : α → Bool) : ∀ l : List α, boolsOf (l.map fun a => D.bl (p a)) = some (l.map p)
  | [] => rfl
  | a :: l => by rw [List.map_cons, boolsOf, bools_map p l]; rfl
theorem ints_map {α : Type} (p : α → Int) : ∀ l : List α, intsOf (l.map fun a => D.int (p a)) = some (l.map p)
  | [] => rfl
  | a :: l => by rw [List.map_cons, intsOf, ints_map p l]; rfl
/-- one turn of the outer clause -/
def lc21 (g : D → Ev → Wp Ev) (c : Ev → Wp Bool) (ti1 : Ev → Wp (List D)) (ρ : Ev) (d : D) (n : S) (k : Option (Ev × List D) → S → Prop) : Prop :=
  g d ρ n (fun ρ1 m => c ρ1 m (fun b r => if b = true then ti1 ρ1 r (fun ds1 s => k (some (ρ1, ds1)) s) (fun _ _ => False) else k none r) (fun _ _ => False)) (fun _ _ => False)
/-- two clauses that neither draw nor fail -/
theorem lc2_map {g g1 : D → Ev → Wp Ev} {ti1 : Ev → Wp (List D)} {vs1 : List Nat} {f : D → List D} {M : Nat}
    : ∀ {ds : List D} {n : S} {ql : List D → S → Prop} {k0 : Nat}, (∀ d ∈ ds, ∀ (n : S) (cc : Nat) (k : List D → S → Prop), cc + M ≤ 1000000 → k (f d) n →
        g d ρ n (fun ρ1 m => c ρ1 m (fun b r => if b = true then ti1 ρ1 r (fun ds1 s => cc + ds1.length ≤ 1000000 ∧ lcW g1 c' ta (wipeE ρ1 vs1) ds1 s k (fun _ _ => False)) (fun _ _ => False) else k [] r) (fun _ _ => False)) (fun _ _ => False)) →
      (∀ d ∈ ds, (f d).length ≤ M) → k0 + (ds.length + 1) * M ≤ 1000000 → ql (ds.flatMap f) n → lc2W g c ti1 g1 c' ta vs1 ρ k0 ds n ql (fun _ _ => False)
  | [], _, _, _, _, _, _, h => h
  | d :: ds, n, ql, k0, hp, hm, hk, h => by
    have hmd := hm d List.mem_cons_self
    have e : (ds.length + 1 + 1) * M = (ds.length + 1) * M + M := by rw [Nat.add_mul, Nat.one_mul]
    rw [List.length_cons] at hk
    have rc : lc2W g c ti1 g1 c' ta vs1 ρ (k0 + (f d).length) ds n (fun zs m => ql (f d ++ zs) m) (fun _ _ => False) :=
      lc2_map (fun d' h' => hp d' (List.mem_cons_of_mem _ h')) (fun d' h' => hm d' (List.mem_cons_of_mem _ h')) (by omega) (by rw [List.flatMap_cons] at h; exact h)
    have z := hp d List.mem_cons_self n k0 (fun ys m => lc2W g c ti1 g1 c' ta vs1 ρ (k0 + ys.length) ds m (fun zs r => ql (ys ++ zs) r) (fun _ _ => False)) (by
      have : M ≤ (ds.length + 1) * M := Nat.le_mul_of_pos_left _ (by omega)
      omega) rc
    refine Eq.mp ?_ z
    refine congrArg (fun k => g d ρ n k (fun _ _ => False)) (funext fun ρ1 => funext fun m => congrArg (fun k => c ρ1 m k (fun _ _ => False)) (funext fun b => funext fun r => ?_))
    cases b <;> rfl
end
end OE

namespace OE
open PySem PySem.Spec L2 PyProof.Rows
variable [TN]
/-! ### is, is not of bools -/
def fIsB (neg : Bool) : D → D → Wp D := fun x y n q _ => ∃ a b : Bool, x = .bl a ∧ y = .bl b ∧ q (.bl (neg.xor (decide (a = b)))) n
theorem r2_isB {K : PySem.W.Frag} : R2D K rIsB (fIsB false) := by
  intro x y a b H Hs n q e Q s hx hy h k
  obtain ⟨u, v, rfl, rfl, h⟩ := h
  cases hx
  cases hy
  rw [Bool.false_xor] at h
  exact ⟨u, v, rfl, rfl, k _ H Hs _ n (.refl _ _) s (.bl _) h⟩
theorem r2_notB {K : PySem.W.Frag} : R2D K rNotB (fIsB true) := by
  intro x y a b H Hs n q e Q s hx hy h k
  obtain ⟨u, v, rfl, rfl, h⟩ := h
  cases hx
  cases hy
  rw [Bool.true_xor] at h
  exact ⟨u, v, rfl, rfl, k _ H Hs _ n (.refl _ _) s (.bl _) h⟩
section
variable {Γ : Gam} {X : Cx} {W : WX} {a b c : Expr} {ta tb tc : Ev → Wp D} {pos : Pos}
theorem d_isB (ha : DE Γ X W a ta) (hb : DE Γ X W b tb) (hm : behindInMarks .Is b = false := by rfl) : DE Γ X W (.Compare a [.Is] [b] pos) (tbin (fIsB false) ta tb) := d_cmp op_isBl r2_isB ha hb hm
theorem d_notB (ha : DE Γ X W a ta) (hb : DE Γ X W b tb) (hm : behindInMarks .IsNot b = false := by rfl) : DE Γ X W (.Compare a [.IsNot] [b] pos) (tbin (fIsB true) ta tb) := d_cmp op_notBl r2_notB ha hb hm
theorem dt_isB (ha : DE Γ X W a ta) (hb : DE Γ X W b tb) (hm : behindInMarks .Is b = false := by rfl) : DT Γ X W (.Compare a [.Is] [b] pos) (ttest (tbin (fIsB false) ta tb)) := dt_cmp op_isBl r2_isB ha hb hm
theorem dt_notB (ha : DE Γ X W a ta) (hb : DE Γ X W b tb) (hm : behindInMarks .IsNot b = false := by rfl) : DT Γ X W (.Compare a [.IsNot] [b] pos) (ttest (tbin (fIsB true) ta tb)) := dt_cmp op_notBl r2_notB ha hb hm
/-! ### isinstance(d, (T, U)) -/
def tisi2 (T U : String) (t : Ev → Wp D) : Ev → Wp D := fun ρ => Wp.bind (t ρ) fun d => Wp.bind (Wp.ask (d.isE = false)) fun _ => Wp.ret (.bl (isiB T d || isiB U d))
theorem kit_two {K : PySem.W.Frag} {T U : String} (hT : isiT T) (hU : isiT U) (d : D) : PySem.W.kitAny K (.type (tyName d)) [.type T, .type U] = some (isiB T d || isiB U d) := by
  unfold PySem.W.kitAny
  rw [kit_ty (kit_of_ty hT d)]
  cases isiB T d with
  | true => rfl
  | false =>
    unfold PySem.W.kitAny
    rw [kit_ty (kit_of_ty hU d)]
    cases isiB U d <;> rfl
theorem d_isi2 {y z : Str} {T U : String} {p p2 p3 p4 : Pos} {kt : Nat} (hT : isiT T) (hU : isiT U) (hm : X.mg "isinstance" = none) (hmT : X.mg y = none) (hmU : X.mg z = none) (hv : bootBuiltins y = some (.type T)) (hvU : bootBuiltins z = some (.type U)) (ha : DE Γ X W a ta) (hg : Gl X "isinstance" := by rfl) (hgT : Gl X y := by rfl) (hgU : Gl X z := by rfl)
    (hn : y ≠ "__name__" := by decide) (hd : (y == ("__debug__" : Str)) = false := by decide) (hn2 : z ≠ "__name__" := by decide) (hd2 : (z == ("__debug__" : Str)) = false := by decide)
    (he : starEach [a, .Tuple [.Name y p2, .Name z p3] kt p4] X.env = (false, eval a X.env) :: starEach [.Tuple [.Name y p2, .Name z p3] kt p4] X.env := by rfl) (he2 : starEach [.Tuple [.Name y p2, .Name z p3] kt p4] X.env = (false, eval (.Tuple [.Name y p2, .Name z p3] kt p4) X.env) :: starEach [] X.env := by rfl)
    (he3 : starEach [.Name y p2, .Name z p3] X.env = (false, eval (.Name y p2) X.env) :: starEach [.Name z p3] X.env := by rfl) (he4 : starEach [.Name z p3] X.env = (false, eval (.Name z p3) X.env) :: starEach [] X.env := by rfl)
    (hpl : (backTo pos (starEach [.Tuple [.Name y p2, .Name z p3] kt p4] X.env)).any (·.1) = false := by rfl) : DE Γ X W (.Call (.Name "isinstance" p) [a, .Tuple [.Name y p2, .Name z p3] kt p4] [] pos) (tisi2 T U ta) := by
  obtain ⟨ea, pa, fa⟩ := ha
  have pT : PE X (.Name y p2) (tC (.ty T)) := pe_bltn hgT hmT hv rfl hn hd
  have pU : PE X (.Name z p3) (tC (.ty U)) := pe_bltn hgU hmU hvU rfl hn2 hd2
  refine ⟨_, pe_callB call_isiT hg hm PyProof.Rows.boot_isinstance (pa_cons pa (pa_cons (pe_tup (pa_cons pT (pa_cons pU pa_nil he4) he3)) pa_nil he2) he) (by decide) (by decide) he hpl, fun σ H Hs ρ n q x Q s r h k ke => fa σ H Hs ρ n _ x _ s r h (fun v H1 Hs1 d n1 g1 s1 hv h1 => ⟨show 2 ≤ sizeLine by decide, fun t ht => ?_⟩) ke⟩
  obtain ⟨s2, g2⟩ := s1.new ht (o := .tup [.ty T, .ty U]) rfl
  exact ⟨v, t, _, _, _, _, rfl, upd_same, .cons (.ty T) (.cons (.ty U) .nil), ty_of s2 (hv.ext g2.ext) h1.1, kit_two hT hU d, k _ _ _ _ n1 (g1.trans g2) s2 (.bl _) h1.2⟩
/-! ### sorted(set(t)), t a tuple of ints -/
def tSortS (K : PySem.W.Frag) (ta : TE) : TE := fun σ H Q => ta σ H fun x H1 => ∃ (p : Addr) (ns : List Int), x = .ref p ∧ SqT K H1 p (ns.map V.int) ∧ ns.length < 64 ∧ ∀ (out : List Int) (l : Addr), out.Pairwise (· < ·) → (∀ k, k ∈ out ↔ k ∈ ns) → H1 l = none → Q (.ref l) (upd H1 l (.lst (out.map V.int)))
theorem pe_sortS {ea : TE} {p p2 p3 : Pos} (hc : X.calm = true) (hg : Gl X "sorted") (hm : X.mg "sorted" = none) (hg2 : Gl X "set") (hm2 : X.mg "set" = none) (ha : PE X a ea)
    (na : starEach [a] X.env = (false, eval a X.env) :: starEach [] X.env := by rfl) : PE X (.Call (.Name "sorted" p) [.Call (.Name "set" p2) [a] [] p3] [] pos) (tSortS X.K ea) := by
  refine ⟨fun pins s σ H Q I h => ?_⟩
  refine Call_ (ld_blt I hg hm (by decide +kernel : bootBuiltins "sorted" = some (.builtin "sorted")) ?_)
  refine PyProof.Rows.callWith_builtin1 (PyProof.Rows.args_cons ?_ rfl) rfl rfl
  refine Call_ (ld_blt I hg2 hm2 PyProof.Rows.boot_set ?_)
  refine PyProof.Rows.callWith_type1 (PyProof.Rows.args_cons (thn (ha.run pins s σ H _ I h) fun v s1 ⟨x, H1, I1, r1, q1⟩ => PyProof.Rows.args_nil ?_) na) na rfl
  obtain ⟨t, ns, rfl, hq, h64, q⟩ := q1
  cases r1
  obtain ⟨its, rv, pt, hz⟩ := I1.tuple hq
  have hi : IntsAre its.toArray.toList ns := ints_of_vals rv
  have hd := I1.ok.hd hc
  refine call_set_tupI ns hd (show s1.heap.IsTuple t its.toArray from pt) hi (by unfold scanBound; omega) fun h' tk c R1 hcn k => ?_
  refine PyProof.Rows.args_nil ?_
  have I2 : Inv X pins σ H1 { s1 with heap := h', toks := tk } := I1.kept fun b o e => k b o e
  refine sorted_set R1 (I2.ok.hd hc) (by omega) fun s' l out c' zs k2 g2 o2 hl hgl hiz hs hmem hlen => ?_
  have hlen2 : (zs.map V.int).length ≤ sizeLine := by rw [List.length_map, hlen, sizeLine_eq]; omega
  have hn : H1 l = none := I2.hok.fresh hl
  have J : Inv X pins σ (upd H1 l (.lst (zs.map V.int))) { ({ s1 with heap := h', toks := tk } : Shared) with heap := s'.heap, gens := s'.gens, drawn := s'.drawn, toks := s'.toks } :=
    I2.call (ch := []) (Un.laid k2 hl hn) (I2.hok.laid k2 hl ⟨hlen2, out.toList, c', vals_of_ints hiz, hgl⟩) (by rw [g2]; exact I2.bare) (fun _ z => nomatch z)
  have e : s' = { s1 with heap := s'.heap, gens := s'.gens, drawn := s'.drawn, toks := s'.toks } := by
    cases s'
    cases s1
    cases o2
    rfl
  rw [e]
  exact ⟨.ref l, _, J, rfl, q zs l hs (fun j => by rw [hmem]; exact decide_eq_true_iff) hn⟩
def fSortS : D → Wp D := fun d n q _ => ∃ ns : List Int, d = .tup (ns.map D.int) ∧ ns.length < 64 ∧ ∀ out : List Int, out.Pairwise (· < ·) → (∀ k, k ∈ out ↔ k ∈ ns) → q (.lst (out.map D.int)) n
theorem dv_ints {K : PySem.W.Frag} {H : Hp} : ∀ {ns : List Int} {xs : List V}, DvAll K H xs (ns.map D.int) → xs = ns.map V.int
  | [], _, .nil => rfl
  | n :: ns, _, .cons h g => by cases h; rw [dv_ints g]; rfl
theorem ints_dv {K : PySem.W.Frag} {H : Hp} : ∀ ns : List Int, DvAll K H (ns.map V.int) (ns.map D.int)
  | [] => .nil
  | n :: ns => .cons (.int n) (ints_dv ns)
theorem d_sortS {p p2 p3 : Pos} (hm : X.mg "sorted" = none) (hm2 : X.mg "set" = none) (ha : DE Γ X W a ta) (hc : X.calm = true := by rfl) (hg : Gl X "sorted" := by rfl) (hg2 : Gl X "set" := by rfl)
    (na : starEach [a] X.env = (false, eval a X.env) :: starEach [] X.env := by rfl) : DE Γ X W (.Call (.Name "sorted" p) [.Call (.Name "set" p2) [a] [] p3] [] pos) (tbind fSortS ta) := by
  obtain ⟨ea, pa, fa⟩ := ha
  refine ⟨_, pe_sortS hc hg hm hg2 hm2 pa na, fun σ H Hs ρ n q x Q s r h k ke => fa σ H Hs ρ n _ x _ s r h (fun v H1 Hs1 d n1 g1 s1 hv h1 => ?_) ke⟩
  obtain ⟨ns, rfl, hl, h⟩ := h1
  cases hv with
  | @tup t xs ds ht g =>
    have e := dv_ints g
    subst e
    refine ⟨t, ns, rfl, s1.same.tup ht, hl, fun out l hp hmem hn => ?_⟩
    obtain ⟨s2, g2, v2⟩ := new_lst s1 hn (ints_dv out)
    exact k _ _ _ _ n1 (g1.trans g2) s2 v2 (h out hp hmem)
/-! ### name op= e, ints -/
def taug (i : Nat) (f : Int → Int → Int) (ta : Ev → Wp D) : Ev → Wp Out := fun ρ n q x => ∃ u : Int, ρ[i]? = some (some (.int u)) ∧ ta ρ n (fun d n' => ∃ v : Int, d = .int v ∧ q (.nx (ρ.set i (some (.int (f u v))))) n') x
theorem ds_aug (i : Nat) {y : Str} {py : Pos} {op : Operator} {f : Int → Int → Int} (ho : PIp X op (ipI f)) (hN : X.N.Nodup) (ha : DE Γ X W a ta) (hi : X.N[i]? = some y := by rfl) (hx : Loc X.env.scope y := by first | exact Or.inl rfl | exact Or.inr rfl)
    (hf : X.fn y = true ∨ X.env.scope.names.lookup y = some .local := by first | exact .inl rfl | exact .inr rfl) : DS Γ X W (.AugAssign (.Name y py) op a pos) (taug i f ta) := by
  obtain ⟨ea, pa, fa⟩ := ha
  refine ⟨_, ps_aug hN hi hx pa ho hf, fun σ H Hs ρ n q x E s r h k ke => ?_⟩
  obtain ⟨u, hu, h⟩ := h
  obtain ⟨w, hw, dw⟩ := r.2 i _ hu
  cases dw
  refine ⟨_, hw, fa σ H Hs ρ n _ x _ s r h (fun v H1 Hs1 d n1 g1 s1 hv h1 => ?_) (ke σ)⟩
  obtain ⟨z, rfl, h1⟩ := h1
  cases hv
  exact ⟨u, z, rfl, rfl, k (.nx (ρ.set i (some (.int (f u z))))) n1 H1 Hs1 g1 s1 h1 _ ((r.ext g1.ext).set i (.int _))⟩
/-! ### chains -/
theorem d_lelt (ha : DE Γ X W a ta) (hb : DE Γ X W b tb) (hc : DE Γ X W c tc) (hm : lastMarks [.LtE, .Lt] [b, c] = false := by with_unfolding_all rfl) : DE Γ X W (.Compare a [.LtE, .Lt] [b, c] pos) (tchain fLe fLt ta tb tc) :=
  d_chain op_le (r2_i0 fun _ _ _ => .bl _) op_lt (r2_i0 fun _ _ _ => .bl _) ha hb hc hm
theorem dt_lelt (ha : DE Γ X W a ta) (hb : DE Γ X W b tb) (hc : DE Γ X W c tc) (hm : lastMarks [.LtE, .Lt] [b, c] = false := by with_unfolding_all rfl) : DT Γ X W (.Compare a [.LtE, .Lt] [b, c] pos) (ttest (tchain fLe fLt ta tb tc)) :=
  dt_chain op_le (r2_i0 fun _ _ _ => .bl _) op_lt (r2_i0 fun _ _ _ => .bl _) ha hb hc hm
theorem d_ltle (ha : DE Γ X W a ta) (hb : DE Γ X W b tb) (hc : DE Γ X W c tc) (hm : lastMarks [.Lt, .LtE] [b, c] = false := by with_unfolding_all rfl) : DE Γ X W (.Compare a [.Lt, .LtE] [b, c] pos) (tchain fLt fLe ta tb tc) :=
  d_chain op_lt (r2_i0 fun _ _ _ => .bl _) op_le (r2_i0 fun _ _ _ => .bl _) ha hb hc hm
theorem dt_ltle (ha : DE Γ X W a ta) (hb : DE Γ X W b tb) (hc : DE Γ X W c tc) (hm : lastMarks [.Lt, .LtE] [b, c] = false := by with_unfolding_all rfl) : DT Γ X W (.Compare a [.Lt, .LtE] [b, c] pos) (ttest (tchain fLt fLe ta tb tc)) :=
  dt_chain op_lt (r2_i0 fun _ _ _ => .bl _) op_le (r2_i0 fun _ _ _ => .bl _) ha hb hc hm
theorem d_ltlt (ha : DE Γ X W a ta) (hb : DE Γ X W b tb) (hc : DE Γ X W c tc) (hm : lastMarks [.Lt, .Lt] [b, c] = false := by with_unfolding_all rfl) : DE Γ X W (.Compare a [.Lt, .Lt] [b, c] pos) (tchain fLt fLt ta tb tc) :=
  d_chain op_lt (r2_i0 fun _ _ _ => .bl _) op_lt (r2_i0 fun _ _ _ => .bl _) ha hb hc hm
theorem dt_ltlt (ha : DE Γ X W a ta) (hb : DE Γ X W b tb) (hc : DE Γ X W c tc) (hm : lastMarks [.Lt, .Lt] [b, c] = false := by with_unfolding_all rfl) : DT Γ X W (.Compare a [.Lt, .Lt] [b, c] pos) (ttest (tchain fLt fLt ta tb tc)) :=
  dt_chain op_lt (r2_i0 fun _ _ _ => .bl _) op_lt (r2_i0 fun _ _ _ => .bl _) ha hb hc hm
end
end OE

namespace OE
open PySem PySem.Spec PyProof.Rows L2 HT
/-! ### e[::-1] -/
section
variable {prog : Program} {w : World} {A : Around} {E : Value → Shared → Prop} {s : Shared}
theorem adjust_rev (n : Nat) : Builtin.Slice.sliceAdjust none none (-1) (n : Int) = ((n : Int) - 1, -1) := by
  unfold Builtin.Slice.sliceAdjust
  rfl
theorem places_rev (n : Nat) : Builtin.Slice.slicePlaces ((n : Int) - 1) (-1) (-1) = n := by
  unfold Builtin.Slice.slicePlaces
  rw [if_neg (by decide)]
  split
  · rw [show (- -1 : Int) = 1 by decide, Int.ediv_one]; omega
  · omega
theorem pick_rev (xs : Array Value) : ((List.range xs.size).filterMap fun (m : Nat) => xs[((xs.size : Int) - 1 + (m : Int) * -1).toNat]?).toArray = xs.toList.reverse.toArray := by
  have e : ((List.range xs.size).filterMap fun (m : Nat) => xs[((xs.size : Int) - 1 + (m : Int) * -1).toNat]?) = ((List.range xs.size).map (fun k => xs.size - 1 - k)).filterMap (xs[·]?) := by
    rw [List.filterMap_map]
    refine congrArg (fun f => List.filterMap f (List.range xs.size)) (funext fun m => ?_)
    have : ((xs.size : Int) - 1 + (m : Int) * -1).toNat = xs.size - 1 - m := by omega
    show xs[_]? = xs[_]?
    rw [this]
  rw [e, PySem.W.krv_range, List.filterMap_reverse, PySem.W.krv_all]
theorem applied_rev {sl : Addr} {vs : Value} {n : Nat} {Q : Int × Int × Nat → Shared → Prop} (hs : s.heap.IsSliceOf sl .none .none vs) (ps : IsPart vs (some (-1)))
    (h : Q ((n : Int) - 1, -1, n) s) : wpAny (model prog w) A (Builtin.Slice.sliceApplied (.ref sl) (pure (n : Int))) Q E s := by
  obtain ⟨os, hos, hcs, hds⟩ := id hs
  unfold Builtin.Slice.sliceApplied Builtin.Slice.sliceFields
  refine wpAny_bind (wpAny_bind (wpAny_field hos hds (x := .none) rfl (wpAny_bind (wpAny_field hos hds (x := .none) rfl (wpAny_bind (wpAny_field hos hds (x := vs) rfl (wpAny_pure ?_)))))))
  refine wpAny_bind (slicePart_ ps ?_)
  show wpAny _ _ (if ((-1 : Int) == 0) = true then _ else _) _ _ s
  rw [if_neg (by decide)]
  refine wpAny_bind (slicePart_none (wpAny_bind (slicePart_none (wpAny_bind (wpAny_pure ?_)))))
  show wpAny _ _ (match Builtin.Slice.sliceAdjust none none (-1) (n : Int) with | (lo, hi) => pure (lo, (-1 : Int), Builtin.Slice.slicePlaces lo hi (-1))) _ _ s
  rw [adjust_rev n]
  show wpAny _ _ (pure ((n : Int) - 1, (-1 : Int), Builtin.Slice.slicePlaces ((n : Int) - 1) (-1) (-1))) _ _ s
  rw [places_rev]
  exact wpAny_pure h
theorem getItem_tuple_rev {t sl : Addr} {items : Array Value} {vs : Value} {Q : Value → Shared → Prop} (ht : IsTup s.heap t items) (hs : s.heap.IsSliceOf sl .none .none vs) (ps : IsPart vs (some (-1)))
    (h : Q (.ref s.heap.objs.size) { s with heap := s.heap.push { cls := .type "tuple", data := .seq items.toList.reverse.toArray } })
    (hsz : items.size ≤ sizeLine) : wpAny (model prog w) A (getItem (.ref t) (.ref sl)) Q E s := by
  have htake : sizeOk (.seq items.toList.reverse.toArray) := by
    show items.toList.reverse.toArray.size ≤ sizeLine
    rw [List.size_toArray, List.length_reverse, Array.length_toList]
    exact hsz
  obtain ⟨os, hos, hcs, hds⟩ := id hs
  have hTs : s.TypeIs (.ref sl) "slice" := ⟨os, hos, hcs⟩
  unfold getItem
  try with_reducible refine wpAny_holding ?_
  first | refine wpAny_bind (wpAny_pure ?_) | skip
  refine wpAny_bind (wpAny_sequenceKey ht.typeIs (by decide) ?_)
  refine wpAny_bind (wpAny_callSpecial?_slot (name := Str.ofString "__getitem__") ht.typeIs PyProof.Rows.slot_tuple_getitem
    (wpAny_call_entry PyProof.Rows.slot_tuple_getitem ht.typeIs entry_tuple_getitem ?_ (args_tuple_getitem _ _)))
  show wpAny _ _ (Builtin.Tuple.tupleItemsOf (.ref t) >>= _) _ _ s
  refine wpAny_bind (tupleItemsOf_ ht ?_)
  refine wpAny_bind (wpAny_typeOf hTs ?_)
  rw [if_pos (by decide)]
  refine wpAny_bind (applied_rev hs ps ?_)
  have hno : ¬ ((((items.size : Int) - 1) == 0 && (-1 : Int) == 1 && items.size == items.size) = true) := by
    intro q
    rw [Bool.and_eq_true, Bool.and_eq_true] at q
    exact absurd q.1.2 (by decide)
  show wpAny _ _ (if (((items.size : Int) - 1) == 0 && (-1 : Int) == 1 && items.size == items.size) = true then _ else _) _ _ s
  rw [if_neg hno, pick_rev]
  first
    | exact wpAny_bind (m := Builtin.Tuple.tupleExact _) (wpAny_newObj_type (wpAny_pure ⟨_, rfl, wpAny_pure h⟩) htake)
    | exact wpAny_bind (m := Builtin.Tuple.tupleExact _) (wpAny_newObj_type (wpAny_bind (wpAny_pure (wpAny_pure ⟨_, rfl, wpAny_pure h⟩))) htake)
    | exact wpAny_bind (wpAny_bind (m := Builtin.Tuple.tupleExact _) (wpAny_newObj_type (wpAny_pure (wpAny_pure ⟨_, rfl, wpAny_pure h⟩)) htake))
    | exact wpAny_bind (wpAny_bind (m := Builtin.Tuple.tupleExact _) (wpAny_newObj_type (wpAny_pure ⟨_, rfl, wpAny_pure h⟩) htake))
end
section
variable {X : Cx}
def tRev (K : PySem.W.Frag) (te : TE) : TE := fun σ H Q => te σ H fun x H1 => ∃ a xs, x = .ref a ∧ ((SqL K H1 a xs ∧ ∀ p, H1 p = none → Q (.ref p) (upd H1 p (.lst xs.reverse))) ∨ (SqT K H1 a xs ∧ ∀ p, H1 p = none → Q (.ref p) (upd H1 p (.tup xs.reverse))))
theorem pe_rev {e : Expr} {te : TE} {k : Nat} {p1 p2 p3 pos : Pos} (he : PE X e te) : PE X (.Subscript e (.Slice none none (some (.UnaryOp .USub (.Constant (.int 1) k p1) p2)) p3) pos) (tRev X.K te) := by
  refine ⟨fun pins s σ H Q I h => ?_⟩
  refine Subscript_ (thn (he.run pins s σ H _ I h) fun v s1 ⟨x, H1, I1, r1, q1⟩ => ?_)
  obtain ⟨a, xs, ex, q⟩ := q1
  subst ex
  cases r1
  have hst : PO X (some (.UnaryOp .USub (.Constant (.int 1) k p1) p2)) (tPart (tUn (rU fun i => .int (-i)) (tC (.int 1)))) := po_some (pe_un un_neg pe_int)
  refine wpAny_Slice (thn (po_none.run pins s1 σ H1 (fun o H2 => o = none ∧ H2 = H1) I1 ⟨rfl, rfl⟩) fun vl s2 ⟨l, H2, I2, pl, el, e2⟩ => ?_)
  subst el e2
  refine thn (po_none.run pins s2 σ H2 (fun o H3 => o = none ∧ H3 = H2) I2 ⟨rfl, rfl⟩) fun vu s3 ⟨u, H3, I3, pu, eu, e3⟩ => ?_
  subst eu e3
  refine thn (hst.run pins s3 σ H3 (fun o H4 => o = some (-1) ∧ H4 = H3) I3 ⟨1, rfl, -1, rfl, rfl, rfl⟩) fun vs s4 ⟨o, H4, I4, ps, eo, e4⟩ => ?_
  subst eo e4
  have I5 : Inv X pins σ H4 { s4 with heap := s4.heap.push { cls := .type "slice", data := .fields #[vl, vu, vs] } } := I4.kept (t' := s4.toks) fun b ob q => Heap.get?_push_of_some _ q
  rcases q with ⟨hx, q⟩ | ⟨hx, q⟩
  · obtain ⟨its, r, ht, hz⟩ := I5.list hx
    have hlen := r.length
    show wpAny (model X.prog X.w) X.A (subscriptTail e (.Slice none none (some (.UnaryOp .USub (.Constant (.int 1) k p1) p2)) p3) (.ref a) (.ref s4.heap.objs.size)) (EP X pins σ Q) X.xe { s4 with heap := s4.heap.push { cls := .type "slice", data := .fields #[vl, vu, vs] } }
    refine tail_any (ops := [.ref a, .ref s4.heap.objs.size]) ht.isList.typeIs (PySem.slot_list_getitem.lookup) ?_ (by with_unfolding_all rfl)
    refine wpAny_getItem_list_slice ht.isList (Heap.IsSliceOf.new _ vl vu vs) pl pu ps (by decide) ?_ (by rw [List.size_toArray]; omega)
    rw [PySem.W.krv_pick]
    refine ⟨.ref _, _, I5.laid (t' := s4.toks) (o := .lst xs.reverse) (fun b ob q => Heap.get?_push_of_some _ q) (Nat.le_refl _) ?_, rfl, q _ (I5.hok.fresh (Nat.le_refl _))⟩
    exact ⟨by rw [List.length_reverse]; exact hz, _, 0, r.reverse, Heap.get?_push_size _ rfl⟩
  · obtain ⟨its, r, ht, hz⟩ := I5.tuple hx
    have hlen := r.length
    cases pl
    cases pu
    show wpAny (model X.prog X.w) X.A (subscriptTail e (.Slice none none (some (.UnaryOp .USub (.Constant (.int 1) k p1) p2)) p3) (.ref a) (.ref s4.heap.objs.size)) (EP X pins σ Q) X.xe { s4 with heap := s4.heap.push { cls := .type "slice", data := .fields #[.none, .none, vs] } }
    refine tail_any (ops := [.ref a, .ref s4.heap.objs.size]) ht.typeIs (PyProof.Rows.slot_tuple_getitem.lookup) ?_ (by with_unfolding_all rfl)
    refine getItem_tuple_rev ht (Heap.IsSliceOf.new _ .none .none vs) ps ?_ (by rw [List.size_toArray]; omega)
    refine ⟨.ref _, _, I5.laid (t' := s4.toks) (o := .tup xs.reverse) (fun b ob q => Heap.get?_push_of_some _ q) (Nat.le_refl _) ?_, rfl, q _ (I5.hok.fresh (Nat.le_refl _))⟩
    exact ⟨by rw [List.length_reverse]; exact hz, _, r.reverse, IsTup.new _ _⟩
end
variable [TN]
def fRev : D → Wp D := fun d n q _ => match d with
  | .lst l => q (.lst l.reverse) n
  | .tup l => q (.tup l.reverse) n
  | _ => False
theorem DvAll.snoc {K : PySem.W.Frag} {H : Hp} : ∀ {xs : List V} {ds : List D} {v : V} {d : D}, DvAll K H xs ds → Dv K H v d → DvAll K H (xs ++ [v]) (ds ++ [d])
  | _, _, _, _, .nil, h => .cons h .nil
  | _, _, _, _, .cons g t, h => .cons g (DvAll.snoc t h)
theorem DvAll.rev {K : PySem.W.Frag} {H : Hp} : ∀ {xs : List V} {ds : List D}, DvAll K H xs ds → DvAll K H xs.reverse ds.reverse
  | _, _, .nil => .nil
  | _, _, .cons g t => by
    rw [List.reverse_cons, List.reverse_cons]
    exact (DvAll.rev t).snoc g
section
variable {Γ : Gam} {X : Cx} {W : WX} {a b c : Expr} {ta tb tc : Ev → Wp D} {pos : Pos}
theorem d_rev {k : Nat} {p1 p2 p3 : Pos} (ha : DE Γ X W a ta) : DE Γ X W (.Subscript a (.Slice none none (some (.UnaryOp .USub (.Constant (.int 1) k p1) p2)) p3) pos) (tbind fRev ta) := by
  obtain ⟨ea, pa, fa⟩ := ha
  refine ⟨_, pe_rev pa, fun σ H Hs ρ n q x Q s r h k ke => fa σ H Hs ρ n _ x _ s r h (fun v H1 Hs1 d n1 g1 s1 hv h1 => ?_) ke⟩
  cases hv with
  | @lst t xs ds ht g =>
    refine ⟨t, xs, rfl, .inl ⟨SqL.of (s1.sub _ _ ht), fun p hp => ?_⟩⟩
    obtain ⟨s2, g2, v2⟩ := new_lst s1 hp g.rev
    exact k _ _ _ _ n1 (g1.trans g2) s2 v2 h1
  | @tup t xs ds ht g =>
    refine ⟨t, xs, rfl, .inr ⟨s1.same.tup ht, fun p hp => ?_⟩⟩
    obtain ⟨s2, g2, v2⟩ := new_tup s1 hp g.rev
    exact k _ _ _ _ n1 (g1.trans g2) s2 v2 h1
  | _ => exact (show False from h1).elim
end
end OE

namespace OE
open PySem PySem.Spec PyProof.Rows L2
variable [TN]
/-! ### isinstance(e, C) of a caught exception -/
structure XI (K : PySem.W.Frag) (C : Addr) : Prop where
  cl : (PySem.W.clsIn K C).isSome = true
  ga : PySem.W.findIn K (.ref C) "__getattribute__" = some (some (.builtin "BaseException.__getattribute__"))
  gg : PySem.W.findIn K (.ref C) "__getattr__" = some none
  exC : PySem.W.subIn K (.ref C) (.type "BaseException") = some true
  ca : PySem.W.findIn K (.ref C) "__class__" = some (some (.builtin "object.__class__"))
  mo : PySem.W.mroIn K C (.type "object") = some true
structure XIs (K : PySem.W.Frag) (Γ : Gam) : Prop where
  hn : PySem.W.specialIn K (.builtin "object.__class__") "__get__" = some (some (.builtin "getset_descriptor.__get__"))
  tk : PySem.W.takesIn K (.builtin "object.__class__") = some true
  each : ∀ nm C, Γ nm = some C → XI K C
/-- the class of that name, and who is of it -/
def KindG (Γ : Gam) (K : PySem.W.Frag) (mg : Str → Option Value) (name : Str) (mt : Str → Bool) : Prop := ∃ C', mg name = some (.ref C') ∧ ∀ nm C, Γ nm = some C → PySem.W.kitOne K (.ref C) (.ref C') = some (mt nm)
theorem kit_ofX {K : PySem.W.Frag} {C C' : Addr} {b : Bool} (h1 : PySem.W.isClsIn K C' = true) (h2 : PySem.W.typeIn K (.ref C') = some (.type "type")) (h3 : PySem.W.subIn K (.ref C) (.ref C') = some b) (h4 : PySem.W.subIn K (.ref C') (.ref C') = some true) : PySem.W.kitOne K (.ref C) (.ref C') = some b := by
  unfold PySem.W.kitOne
  by_cases e : C = C'
  · subst e
    rw [if_pos (beq_self_eq_true _)]
    exact h4.symm.trans h3
  · rw [if_neg (fun z => e (Value.ref.inj (eq_of_beq z)))]
    unfold PySem.W.kitCls
    dsimp only
    rw [h2, if_pos]
    · exact h3
    · rw [show ((some (Value.type "type") : Option Value) == some (Value.type "type")) = true from beq_self_eq_true _, Bool.and_true]
      exact h1
def rIsiX (K : PySem.W.Frag) : List V → Hp → VK → Prop := fun xs H Q => ∃ (a0 C C' : Addr) (b : Bool), xs = [.ref a0, .ref C'] ∧ ((∃ (dd : Addr) (kv : List (Str × V)), H a0 = some (ExF C (some dd) a0) ∧ H dd = some (.xd kv)) ∨ H a0 = some (ExF C none a0)) ∧ XI K C ∧
  PySem.W.specialIn K (.builtin "object.__class__") "__get__" = some (some (.builtin "getset_descriptor.__get__")) ∧ PySem.W.takesIn K (.builtin "object.__class__") = some true ∧ PySem.W.kitOne K (.ref C) (.ref C') = some b ∧ Q (.bl b) H
theorem call_isiX {X : Cx} : CallR X (.builtin "isinstance") (rIsiX X.K) := by
  intro pins s σ H xs us Q I r h
  obtain ⟨a0, C, C', b, rfl, hE, T, hn, tk, e, q⟩ := h
  obtain ⟨u1, u2, rfl, r1, r2⟩ := vals2 r
  cases (show u1 = Value.ref a0 from r1)
  cases (show u2 = Value.ref C' from r2)
  obtain ⟨ox, od, J⟩ : ∃ ox od, PySem.W.InstAt s.heap a0 ox C od := by
    rcases hE with ⟨dd, kv, hE, hd⟩ | hE
    · obtain ⟨⟨oe, vs, ha, hz, hdat⟩, _, _⟩ := I.hok a0 _ hE
      have hx : ObjOk X.prog X.w H s.heap dd (.xd kv) := I.hok dd _ hd
      obtain ⟨mA, hns, hr⟩ := hx
      obtain ⟨od, ho, _⟩ := lookIn_ns hns
      exact ⟨oe, some od, ha, hz.1, by unfold PySem.W.notCls; rw [hdat] <;> rfl, by rw [hz.2]; exact ho⟩
    · obtain ⟨⟨oe, vs, ha, hz, hdat⟩, _, _⟩ := I.hok a0 _ hE
      exact ⟨oe, none, ha, hz.1, by unfold PySem.W.notCls; rw [hdat] <;> rfl, by rw [hz.2]; trivial⟩
  exact PySem.W.kia_one (PySem.W.kitx_exc T.cl T.ga T.gg T.exC T.ca hn tk T.mo) I.kIn J e (fun z => nomatch z) fun tk => ⟨.bl b, H, I.tok tk, rfl, q⟩
section
variable {Γ : Gam} {X : Cx} {W : WX} {a b c : Expr} {ta tb tc : Ev → Wp D} {pos : Pos} {mt : Str → Bool}
def tisx (Γ : Gam) (mt : Str → Bool) (t : Ev → Wp D) : Ev → Wp D := fun ρ => Wp.bind (t ρ) fun d => match d with
  | .exn x C _ => Wp.bind (Wp.ask (Γ x = some C)) fun _ => Wp.ret (.bl (mt x))
  | _ => Wp.stuck
theorem d_isx {y : Str} {p p2 : Pos} (T : XIs X.K Γ) (hk : KindG Γ X.K X.mg y mt) (hm : X.mg "isinstance" = none) (ha : DE Γ X W a ta) (hg : Gl X "isinstance" := by rfl) (hgy : Gl X y := by rfl)
    (hd : (y == ("__debug__" : Str)) = false := by decide) (he : starEach [a, .Name y p2] X.env = (false, eval a X.env) :: starEach [.Name y p2] X.env := by rfl) (he2 : starEach [.Name y p2] X.env = (false, eval (.Name y p2) X.env) :: starEach [] X.env := by rfl)
    (hpl : (backTo pos (starEach [.Name y p2] X.env)).any (·.1) = false := by rfl) : DE Γ X W (.Call (.Name "isinstance" p) [a, .Name y p2] [] pos) (tisx Γ mt ta) := by
  obtain ⟨ea, pa, fa⟩ := ha
  obtain ⟨C', hC', hmt⟩ := hk
  have pT : PE X (.Name y p2) (tC (.ref C')) := pe_glob hgy hC' rfl hd
  refine ⟨_, pe_callB call_isiX hg hm PyProof.Rows.boot_isinstance (pa_cons pa (pa_cons pT pa_nil he2) he) (by decide) (by decide) he hpl, fun σ H Hs ρ n q x Q s r h k ke => fa σ H Hs ρ n _ x _ s r h (fun v H1 Hs1 d n1 g1 s1 hv h1 => ?_) ke⟩
  cases hv with
  | @exn1 a0 dd C nm v0 d0 hE hd hg =>
    exact ⟨a0, C, C', _, rfl, .inl ⟨dd, _, s1.sub _ _ hE, s1.sub _ _ hd⟩, T.each _ _ h1.1, T.hn, T.tk, hmt _ _ h1.1, k _ H1 Hs1 _ n1 g1 s1 (.bl _) h1.2⟩
  | @exn0 a0 C nm hE =>
    exact ⟨a0, C, C', _, rfl, .inr (s1.sub _ _ hE), T.each _ _ h1.1, T.hn, T.tk, hmt _ _ h1.1, k _ H1 Hs1 _ n1 g1 s1 (.bl _) h1.2⟩
  | _ => exact (show False from h1).elim
end
end OE

namespace OE
open PySem PySem.Spec L2
variable [TN]
section
variable {n : S} {x : Exn → S → Prop} {ρ : Ev} {d : D} {i : Nat} {ta tb : Ev → Wp D} {q : D → S → Prop} {qo : Out → S → Prop}
theorem f_isB {neg a b : Bool} : fIsB neg (.bl a) (.bl b) n q x = q (.bl (neg.xor (decide (a = b)))) n := propext ⟨fun ⟨_, _, h1, h2, h⟩ => by cases h1; cases h2; exact h, fun h => ⟨a, b, rfl, rfl, h⟩⟩
def kIsi2 (T U : String) (q : D → S → Prop) (d : D) (n : S) : Prop := d.isE = false ∧ q (.bl (isiB T d || isiB U d)) n
theorem s_isi2 {T U : String} : tisi2 T U ta ρ n q x = ta ρ n (kIsi2 T U q) x := rfl
theorem k_isi2 {T U : String} : kIsi2 T U q d n = (d.isE = false ∧ q (.bl (isiB T d || isiB U d)) n) := rfl
def kAug (i : Nat) (f : Int → Int → Int) (u : Int) (ρ : Ev) (q : Out → S → Prop) (d : D) (n : S) : Prop := ∃ v : Int, d = .int v ∧ q (.nx (ρ.set i (some (.int (f u v))))) n
theorem s_aug {f : Int → Int → Int} : taug i f ta ρ n qo x = ∃ u : Int, ρ[i]? = some (some (.int u)) ∧ ta ρ n (kAug i f u ρ qo) x := rfl
theorem k_aug {f : Int → Int → Int} {u v : Int} : kAug i f u ρ qo (.int v) n = qo (.nx (ρ.set i (some (.int (f u v))))) n := propext ⟨fun ⟨_, h1, h⟩ => by cases h1; exact h, fun h => ⟨v, rfl, h⟩⟩
theorem w_int {a b : Int} : (D.int a = D.int b) = (a = b) := D.int.injEq a b
theorem f_revL {l : List D} : fRev (.lst l) n q x = q (.lst l.reverse) n := rfl
theorem f_revT {l : List D} : fRev (.tup l) n q x = q (.tup l.reverse) n := rfl
def kIsx (Γ : Gam) (mt : Str → Bool) (q : D → S → Prop) (d : D) (n : S) : Prop := match d with
  | .exn x C _ => Γ x = some C ∧ q (.bl (mt x)) n
  | _ => False
theorem s_isx {Γ : Gam} {mt : Str → Bool} : tisx Γ mt ta ρ n q x = ta ρ n (kIsx Γ mt q) x := by
  unfold tisx
  show ta ρ n _ x = _
  refine congrArg (fun k => ta ρ n k x) (funext fun d => funext fun m => ?_)
  cases d <;> rfl
theorem k_isx {Γ : Gam} {mt : Str → Bool} {y : Str} {C : Addr} {l : List D} : kIsx Γ mt q (.exn y C l) n = (Γ y = some C ∧ q (.bl (mt y)) n) := rfl
theorem f_sortS {ns : List Int} (hl : ns.length < 64) (h : ∀ out : List Int, out.Pairwise (· < ·) → (∀ k, k ∈ out ↔ k ∈ ns) → q (.lst (out.map D.int)) n) : fSortS (.tup (ns.map D.int)) n q x := ⟨ns, rfl, hl, h⟩
end
end OE

/-! ### what is walked while it may change still: a guard at each turn -/
namespace OE
open PySem PySem.Spec L2
variable [TN]
structure WalkG (K : PySem.W.Frag) (J : It) (G : S → Prop) (Hs0 : Hp) (ds : List D) : Prop where
  go : ∀ (i : Nat) (n : S) (Hs H : Hp), Ext Hs0 Hs → Sit K n Hs H → G n → i < ds.length → J.go i H
  stop : ∀ (n : S) (Hs H : Hp), Ext Hs0 Hs → Sit K n Hs H → G n → J.stop ds.length H
  yld : ∀ (i : Nat) (n : S) (Hs H : Hp) (x : V) (H' : Hp), Ext Hs0 Hs → Sit K n Hs H → G n → i < ds.length → J.yld i H x H' → ∃ Hs' d, ds[i]? = some d ∧ Go Hs H Hs' H' ∧ Sit K n Hs' H' ∧ Dv K Hs' x d
theorem WalkD.g {K : PySem.W.Frag} {J : It} {Hs : Hp} {ds : List D} (w : WalkD K J Hs ds) : WalkG K J (fun _ => True) Hs ds :=
  ⟨fun i n Hs1 H e s _ => w.go i n Hs1 H e s, fun n Hs1 H e s _ => w.stop n Hs1 H e s, fun i n Hs1 H x H' e s _ => w.yld i n Hs1 H x H' e s⟩
abbrev LG := List D × (S → Prop)
def DIG (Γ : Gam) (X : Cx) (W : WX) (tg it : Expr) (t : Ev → Wp LG) : Prop := ∃ wi : TI, PI X tg it wi ∧ ∀ (σ : St) (H Hs : Hp) (ρ : Ev) (n : S) (q : LG → S → Prop) (x : Exn → S → Prop) (Q : It → Hp → Prop),
  Sit X.K n Hs H → R X.K ρ σ Hs → t ρ n q x → (∀ J H' Hs' (l : LG) n', Go Hs H Hs' H' → Sit X.K n' Hs' H' → WalkG X.K J l.2 Hs' l.1 → q l n' → Q J H') → OkE X.K Γ Hs H x (fun c d h => W c d σ h) → wi σ H Q
theorem walkG_list {K : PySem.W.Frag} {p : Addr} {Hs : Hp} {ds : List D} : WalkG K (Itl K p) (fun s => s.mu p = some (.lst ds)) Hs ds := by
  have rd : ∀ {n : S} {Hs1 H : Hp}, Sit K n Hs1 H → n.mu p = some (.lst ds) → ∃ xs, SqL K H p xs ∧ DvAll K Hs1 xs ds := fun {n Hs1 H} s g => by
    obtain ⟨xs, h1, h2⟩ := (s.muts p _ g).2
    exact ⟨xs, SqL.of h1, h2⟩
  refine ⟨fun i n Hs1 H e s g hi => ?_, fun n Hs1 H e s g => ?_, fun i n Hs1 H x H' e s g hi y => ?_⟩
  · obtain ⟨xs, h1, h2⟩ := rd s g
    obtain ⟨v, h3, _⟩ := h2.get (List.getElem?_eq_getElem hi)
    exact ⟨xs, v, h1, h3⟩
  · obtain ⟨xs, h1, h2⟩ := rd s g
    exact ⟨xs, h1, by rw [h2.length]; exact Nat.le_refl _⟩
  · obtain ⟨e1, y⟩ := y
    subst e1
    obtain ⟨xs, h1, h2⟩ := rd s g
    obtain ⟨d, h3, h4⟩ := h2.getV (y xs h1)
    exact ⟨Hs1, d, h3, .refl _ _, s, h4⟩
def itemsG : D → Wp LG
  | .mref a => fun n q _ => ∃ l, n.mu a = some (.lst l) ∧ q (l, fun s => s.mu a = some (.lst l)) n
  | d => Wp.bind (items d) fun l => Wp.ret (l, fun _ => True)
def tseqG (t : Ev → Wp D) : Ev → Wp LG := fun ρ => Wp.bind (t ρ) itemsG
def forG (G : S → Prop) (g : D → Ev → Wp Ev) (body : Ev → Wp Out) : List D → Ev → Wp Out
  | [], ρ => fun n q _ => G n ∧ q (.nx ρ) n
  | d :: ds, ρ => fun n q x => G n ∧ (Wp.bind (g d ρ) fun ρ1 => Wp.bind (body ρ1) fun o => match o with
    | .nx ρ2 => forG G g body ds ρ2
    | .ct ρ2 => forG G g body ds ρ2
    | .bk ρ2 => Wp.ret (.nx ρ2)
    | .rt e => Wp.ret (.rt e)) n q x
def tforG (t : Ev → Wp LG) (g : D → Ev → Wp Ev) (body : Ev → Wp Out) : Ev → Wp Out := fun ρ => Wp.bind (t ρ) fun l => forG l.2 g body l.1 ρ
def lcG (G : S → Prop) (g : D → Ev → Wp Ev) (tt : Ev → Wp Bool) (te : Ev → Wp D) (ρ : Ev) : List D → Wp (List D)
  | [] => fun n q _ => G n ∧ q [] n
  | d :: ds => fun n q x => G n ∧ (Wp.bind (g d ρ) fun ρ1 => Wp.bind (tt ρ1) fun b => if b = true then Wp.bind (te ρ1) fun y => Wp.bind (lcG G g tt te ρ ds) fun ys => Wp.ret (y :: ys) else lcG G g tt te ρ ds) n q x
def tlcG (ti : Ev → Wp LG) (g : D → Ev → Wp Ev) (tt : Ev → Wp Bool) (te : Ev → Wp D) (vs : List Nat) : Ev → Wp D := fun ρ => Wp.bind (ti ρ) fun l => Wp.bind (Wp.ask (l.1.length ≤ 1000000)) fun _ =>
  Wp.bind (Wp.calm (lcG l.2 g tt te (wipeE ρ vs) l.1)) fun ys => Wp.ret (.lst ys)
section
variable {Γ : Gam} {X : Cx} {W : WX} {a b c tg : Expr} {ta tb tc : Ev → Wp D} {pos : Pos} {t u : Ev → Wp Out}
theorem dig_seq (ha : DE Γ X W a ta) : DIG Γ X W tg a (tseqG ta) := by
  obtain ⟨ea, pa, fa⟩ := ha
  refine ⟨_, pi_seq pa, fun σ H Hs ρ n q x Q s r h k ke => fa σ H Hs ρ n _ x _ s r h (fun v H1 Hs1 d n1 g1 s1 hv h1 => ?_) ke⟩
  cases hv with
  | @lst p xs ds e1 g => exact .inl ⟨p, xs, rfl, SqL.of (s1.sub _ _ e1), k _ H1 Hs1 _ n1 g1 s1 (walkD_list (SqL.of e1) g).g h1⟩
  | @scr p ns e1 => exact .inl ⟨p, _, rfl, s1.same.lst e1, k _ H1 Hs1 _ n1 g1 s1 (walkD_list e1 (DvAll.ints ns)).g h1⟩
  | @tup p xs ds e1 g => exact .inr (.inl ⟨p, xs, rfl, s1.same.tup e1, k _ H1 Hs1 _ n1 g1 s1 (walkD_tup e1 g).g h1⟩)
  | str z => exact .inr (.inr ⟨z, rfl, k _ H1 Hs1 _ n1 g1 s1 walkD_str.g h1⟩)
  | mref p =>
    obtain ⟨l, h2, h3⟩ := h1
    obtain ⟨xs, h4, h5⟩ := (s1.muts p _ h2).2
    exact .inl ⟨p, xs, rfl, SqL.of h4, k _ H1 Hs1 (l, _) n1 g1 s1 walkG_list h3⟩
  | _ => exact (show False from h1).elim
theorem ds_forG {tg it : Expr} {body : List Stmt} {ti : Ev → Wp LG} {g : D → Ev → Wp Ev} {is : List Nat} (hp : PassesOwn (model X.prog X.w) X.A X.env X.xe) (hi : DIG Γ X W tg it ti) (hg : DG X tg is g) (hb : DB Γ X W body t) (hc : X.calm = true := by rfl)
    (hs : ∀ x, foldedSetIterable it X.env x = pure x := by intro _; rfl) : DS Γ X W (.For tg it body [] pos) (tforG ti g t) := by
  obtain ⟨wi, pi, fi⟩ := hi
  obtain ⟨tv, pg, fg⟩ := hg
  obtain ⟨ts, pb, fb⟩ := hb
  refine ⟨_, ps_for hp hc pi pg pb hs, fun σ H Hs ρ n q x E s r h k ke => fi σ H Hs ρ n _ x _ s r h (fun J H1 Hs1 lg n1 g1 s1 wd h1 => ?_) (ke σ)⟩
  obtain ⟨ds, G⟩ := lg
  dsimp only at wd h1
  refine ⟨fun i m σ' H' => m = ds.length - i ∧ i ≤ ds.length ∧ ∃ Hs' ρ' n', Go Hs H Hs' H' ∧ Ext Hs1 Hs' ∧ Sit X.K n' Hs' H' ∧ R X.K ρ' σ' Hs' ∧ forG G g t (ds.drop i) ρ' n' q x,
    ⟨_, rfl, Nat.zero_le _, Hs1, ρ, n1, g1, .refl _, s1, r.ext g1.ext, h1⟩, ?_⟩
  rintro i m σ2 H2 ⟨rfl, hi, Hs2, ρ2, n2, g2, e2, s2, r2, h2⟩
  by_cases hlt : i < ds.length
  · rw [drop_cons (List.getElem?_eq_getElem hlt)] at h2
    obtain ⟨hG, h2⟩ := h2
    refine .inr ⟨wd.go i n2 Hs2 H2 e2 s2 hG hlt, fun σ' H' => ∃ Hs' ρ' n', Go Hs H Hs' H' ∧ Ext Hs1 Hs' ∧ Sit X.K n' Hs' H' ∧ R X.K ρ' σ' Hs' ∧ forG G g t (ds.drop (i + 1)) ρ' n' q x, fun σ' H' hN => ⟨ds.length - (i + 1), by omega, rfl, hlt, hN⟩, fun y H3 hy => ?_⟩
    obtain ⟨Hs3, d, hd, g3, s3, hv⟩ := wd.yld i n2 Hs2 H2 y H3 e2 s2 hG hlt hy
    have ed : ds[i] = d := by rw [List.getElem?_eq_getElem hlt] at hd; exact Option.some.inj hd
    rw [ed] at h2
    have G3 := g2.trans g3
    have E3 := e2.trans g3.ext
    refine fg y d σ2 H3 Hs3 ρ2 n2 _ x _ s3 (r2.ext g3.ext) hv h2 fun ρ4 σ4 r4 _ h4 => ?_
    refine fb σ4 H3 Hs3 ρ4 n2 _ x _ s3 r4 h4 (fun o n5 H5 Hs5 g5 s5 h5 => ?_) (ke.go G3)
    cases o with
    | nx ρ5 => exact fun σ5 r5 => ⟨Hs5, ρ5, n5, G3.trans g5, E3.trans g5.ext, s5, r5, h5⟩
    | ct ρ5 => exact fun σ5 r5 => ⟨Hs5, ρ5, n5, G3.trans g5, E3.trans g5.ext, s5, r5, h5⟩
    | bk ρ5 => exact k _ n5 H5 Hs5 (G3.trans g5) s5 h5
    | rt e => exact k _ n5 H5 Hs5 (G3.trans g5) s5 h5
  · have e : i = ds.length := by omega
    subst e
    rw [List.drop_length] at h2
    exact .inl ⟨wd.stop n2 Hs2 H2 e2 s2 h2.1, k _ n2 H2 Hs2 g2 s2 h2.2 σ2 r2⟩
theorem lc_readG {Γ : Gam} {K : PySem.W.Frag} {is vs : List Nat} {g : D → Ev → Wp Ev} {tt : Ev → Wp Bool} {te : Ev → Wp D} (his : ∀ i ∈ is, i ∈ vs) {J : It} {H1 Hs1 : Hp} {ds : List D} {n1 : S} {σ : St} {ρ : Ev} {q : D → S → Prop} {Q : VK}
    (s1 : Sit K n1 Hs1 H1) {G : S → Prop} (wd : WalkG K J G Hs1 ds) (r : R K ρ σ Hs1) (hl : ds.length ≤ 1000000) (h : lcG G g tt te (wipeE ρ vs) ds n1 (fun ys n => q (.lst ys) n) (fun _ _ => False)) (k : OkQ K Hs1 H1 q Q) (A : Addr) (hA : H1 A = none) :
    ∃ W : Nat → Nat → Hp → Prop, (∃ m, W 0 m (upd H1 A (.lst []))) ∧ ∀ i m H, W i m H → (J.stop i H ∧ Q (.ref A) H) ∨ (J.go i H ∧ ∃ Nx : Hp → Prop, (∀ H', Nx H' → ∃ m', m' < m ∧ W (i + 1) m' H') ∧
      ∀ x H', J.yld i H x H' → tgD K is g x (wipe σ vs) H' fun σ2 H2 => wipe σ2 vs = wipe σ vs ∧ ttD Γ K W0 tt σ2 H2 fun b H3 =>
        if b = true then teD Γ K W0 te σ2 H3 fun y H4 => ∃ acc, H4 A = some (.lst acc) ∧ acc.length < sizeLine ∧ Nx (upd H4 A (.lst (acc ++ [y]))) else Nx H3) := by
  have hAs := s1.free hA
  -- between the turns: the list so far is ours alone
  have inv : ∃ P : Nat → Hp → Prop, P = fun i H => ∃ (Hs : Hp) (n : S) (acc : List V) (ad : List D), i ≤ ds.length ∧ acc.length ≤ i ∧ Ext Hs1 Hs ∧ Sit K n Hs H ∧ (∀ a o, H1 a = some o → Hs1 a = none → H a = some o ∧ Hs a = none) ∧ H A = some (.lst acc) ∧ Hs A = none ∧ DvAll K Hs acc ad ∧
      lcG G g tt te (wipeE ρ vs) (ds.drop i) n (fun ys n => q (.lst (ad ++ ys)) n) (fun _ _ => False) := ⟨_, rfl⟩
  obtain ⟨P, hP⟩ := inv
  have put : ∀ {H : Hp} {Hs : Hp} {n : S} {o : HO}, Sit K n Hs H → Hs A = none → Sit K n Hs (upd H A o) := fun {H Hs n o} s e => s.own fun b u z => upd_ne (ne_of_none z e)
  refine ⟨fun i m H => m = ds.length - i ∧ P i H, ⟨_, rfl, ?_⟩, ?_⟩
  · rw [hP]
    refine ⟨Hs1, n1, [], [], Nat.zero_le _, Nat.le_refl _, .refl _, put s1 hAs, fun a o e1 e2 => ⟨?_, e2⟩, upd_same, hAs, .nil, h⟩
    rw [upd_ne (ne_of_none e1 hA)]; exact e1
  · rintro i m H ⟨rfl, hPi⟩
    rw [hP] at hPi
    obtain ⟨Hs, n, acc, ad, hi, hal, he, s, own, hAl, hAn, g1, h⟩ := hPi
    by_cases hlt : i < ds.length
    · rw [drop_cons (List.getElem?_eq_getElem hlt)] at h
      obtain ⟨hG, h⟩ := h
      refine .inr ⟨wd.go i n Hs H he s hG hlt, P (i + 1), fun H' p => ⟨ds.length - (i + 1), by omega, rfl, p⟩, fun x H' hy => ?_⟩
      obtain ⟨Hs', d, hd, g2, s2, hv⟩ := wd.yld i n Hs H x H' he s hG hlt hy
      have ed : ds[i] = d := by rw [List.getElem?_eq_getElem hlt] at hd; exact Option.some.inj hd
      rw [ed] at h
      obtain ⟨hAl2, hAn2⟩ := g2.own A _ hAl hAn
      refine ⟨n, Hs', wipeE ρ vs, d, _, _, s2, (r.ext (he.trans g2.ext)).wipe vs, hv, h, fun ρ3 σ3 r3 z3 h3 => ⟨?_, ?_⟩⟩
      · rw [z3 vs his]
        have : ∀ (τ : St) (us : List Nat), wipe (wipe τ us) us = wipe τ us := fun τ us => by
          have aux : ∀ (us' : List Nat), (∀ i ∈ us', i ∈ us) → wipe (wipe τ us') us = wipe τ us := by
            intro us'
            induction us' with
            | nil => intro _; rfl
            | cons u us'' ih =>
              intro hh
              show wipe ((wipe τ us'').set u none) us = _
              rw [wipe_set (hh u List.mem_cons_self)]
              exact ih fun i hi => hh i (List.mem_cons_of_mem _ hi)
          exact aux us fun _ z => z
        exact this σ vs
      · refine ⟨n, Hs', ρ3, _, _, s2, r3, h3, fun b H3 Hs3 n3 g3 s3 h4 => ?_, fun _ _ _ _ _ _ _ _ _ z => z⟩
        obtain ⟨hAl3, hAn3⟩ := g3.own A _ hAl2 hAn2
        have ownN : ∀ {H4 Hs4 : Hp}, Go Hs3 H3 Hs4 H4 → ∀ a o, H1 a = some o → Hs1 a = none → H4 a = some o ∧ Hs4 a = none := fun {H4 Hs4} g4 a o e1 e2 => by
          obtain ⟨f1, f2⟩ := own a o e1 e2
          exact (g2.trans (g3.trans g4)).own a o f1 f2
        cases b with
        | true =>
          rw [if_pos rfl]
          refine ⟨n3, Hs3, ρ3, _, _, s3, r3.ext g3.ext, h4, fun y H4 Hs4 e n4 g4 s4 hy4 h5 => ?_, fun _ _ _ _ _ _ _ _ _ z => z⟩
          obtain ⟨hAl4, hAn4⟩ := g4.own A _ hAl3 hAn3
          refine ⟨acc, hAl4, Nat.lt_of_le_of_lt (Nat.le_trans hal (Nat.le_of_lt (Nat.lt_of_lt_of_le hlt hl))) (by rw [sizeLine_eq]; decide), ?_⟩
          rw [hP]
          have E4 := g2.ext.trans (g3.ext.trans g4.ext)
          refine ⟨Hs4, n4, acc ++ [y], ad ++ [e], hlt, by rw [List.length_append]; exact Nat.succ_le_succ hal, he.trans E4, put s4 hAn4, fun a o e1 e2 => ?_, upd_same, hAn4, (g1.ext E4).append (.cons hy4 .nil), ?_⟩
          · obtain ⟨f1, f2⟩ := ownN g4 a o e1 e2
            rw [upd_ne (ne_of_none e1 hA)]; exact ⟨f1, f2⟩
          · have e5 : (fun (ys : List D) (n : S) => q (.lst (ad ++ [e] ++ ys)) n) = fun ys n => q (.lst (ad ++ e :: ys)) n := by funext ys n; rw [List.append_assoc]; rfl
            rw [e5]; exact h5
        | false =>
          rw [if_neg Bool.false_ne_true, hP]
          have E3 := g2.ext.trans g3.ext
          exact ⟨Hs3, n3, acc, ad, hlt, Nat.le_succ_of_le hal, he.trans E3, s3, ownN (.refl _ _), hAl3, hAn3, g1.ext E3, h4⟩
    · have e : i = ds.length := by omega
      subst e
      rw [List.drop_length] at h
      obtain ⟨hG, h⟩ := h
      refine .inl ⟨wd.stop n Hs H he s hG, ?_⟩
      have hs : Ext Hs (upd Hs A (.lst acc)) := Ext.of_same fun b u z => by
        rw [upd_ne (ne_of_none z hAn)]; exact z
      have sA : Sit K n (upd Hs A (.lst acc)) H := by
        have z := (s.put (o := .lst acc) hAn rfl rfl).1
        rwa [upd_id hAl] at z
      refine k _ H (upd Hs A (.lst acc)) (.lst ad) n ⟨he.trans hs, fun a o e1 e2 => ?_⟩ sA (.lst upd_same (g1.ext hs)) ?_
      · obtain ⟨f1, f2⟩ := own a o e1 e2
        rw [upd_ne (ne_of_none e1 hA)]; exact ⟨f1, f2⟩
      · have h' : q (.lst (ad ++ [])) n := h
        rw [List.append_nil] at h'; exact h'
theorem d_lcG {elt it : Expr} {ifs : List Expr} {scope : Scope} {own : List (Str × Nat)} {ti : Ev → Wp LG} {g : D → Ev → Wp Ev} {tt : Ev → Wp Bool} {te : Ev → Wp D} {is : List Nat} (hN : X.N.Nodup) (ok : BlkOk X.N X.env.scope scope own) (hi : DIG Γ X W tg it ti)
    (hg : ∀ (s : Shared) (H : Hp) (C : Addr) (cl : List (Str × Addr)) (fp : List Addr), DG (X.blk s H scope (compEnvC scope cl C X.env) fp) tg is g)
    (ht : ∀ (s : Shared) (H : Hp) (C : Addr) (cl : List (Str × Addr)) (fp : List Addr), DTs Γ (X.blk s H scope (compEnvC scope cl C X.env) fp) W0 ifs tt)
    (he : ∀ (s : Shared) (H : Hp) (C : Addr) (cl : List (Str × Addr)) (fp : List Addr), DE Γ (X.blk s H scope (compEnvC scope cl C X.env) fp) W0 elt te)
    (his : ∀ i ∈ is, i ∈ own.map (·.2) := by decide) (hc : X.calm = true := by rfl) (hs : ∀ x, foldedSetIterable it X.env x = pure x := by intro _; rfl) :
    DE Γ X W (.ListComp elt [⟨tg, it, ifs, 0⟩] scope pos) (tlcG ti g tt te (own.map (·.2))) := by
  obtain ⟨wi, pi, fi⟩ := hi
  refine ⟨_, pe_lc (g := tgD X.K is g) (tt := ttD Γ X.K W0 tt) (te := teD Γ X.K W0 te) hc hN pi ok (fun s H C cl fp => (hg s H C cl fp).pg) (fun s H C cl fp => ht s H C cl fp) (fun s H C cl fp => (he s H C cl fp).pe) hs, fun σ H Hs ρ n q x Q s r h k ke => fi σ H Hs ρ n _ x _ s r h (fun J H1 Hs1 lg n1 g1 s1 wd h1 => ?_) ke⟩
  obtain ⟨ds, G⟩ := lg
  dsimp only at wd h1
  intro A hA
  exact lc_readG his s1 wd (r.ext g1.ext) h1.1 h1.2 (k.go g1) A hA
/-- y = [..] -/
theorem ds_setLcG (i : Nat) {y : Str} {py spos : Pos} {elt it : Expr} {ifs : List Expr} {scope : Scope} {own : List (Str × Nat)} {ti : Ev → Wp LG} {g : D → Ev → Wp Ev} {tt : Ev → Wp Bool} {te : Ev → Wp D} {is : List Nat} (hN : X.N.Nodup) (ok : BlkOk X.N X.env.scope scope own) (hi : DIG Γ X W tg it ti)
    (hg : ∀ (s : Shared) (H : Hp) (C : Addr) (cl : List (Str × Addr)) (fp : List Addr), DG (X.blk s H scope (compEnvC scope cl C X.env) fp) tg is g)
    (ht : ∀ (s : Shared) (H : Hp) (C : Addr) (cl : List (Str × Addr)) (fp : List Addr), DTs Γ (X.blk s H scope (compEnvC scope cl C X.env) fp) W0 ifs tt)
    (he : ∀ (s : Shared) (H : Hp) (C : Addr) (cl : List (Str × Addr)) (fp : List Addr), DE Γ (X.blk s H scope (compEnvC scope cl C X.env) fp) W0 elt te)
    (hsw : swapsWith (.ListComp elt [⟨tg, it, ifs, 0⟩] scope pos) (some (.Name y py)) spos.line X.env = pure true) (hy : X.N[i]? = some y := by rfl) (hyl : X.env.scope.names.lookup y = some .local := by rfl)
    (his : ∀ i ∈ is, i ∈ own.map (·.2) := by decide) (hc : X.calm = true := by rfl) (hs : ∀ x, foldedSetIterable it X.env x = pure x := by intro _; rfl) :
    DS Γ X W (.Assign [.Name y py] (.ListComp elt [⟨tg, it, ifs, 0⟩] scope pos) spos) (tset i (tlcG ti g tt te (own.map (·.2)))) := by
  obtain ⟨wi, pi, fi⟩ := hi
  refine ⟨_, ps_setLc (g := tgD X.K is g) (tt := ttD Γ X.K W0 tt) (te := teD Γ X.K W0 te) hc hN hy hyl hsw pi ok (fun s H C cl fp => (hg s H C cl fp).pg) (fun s H C cl fp => ht s H C cl fp) (fun s H C cl fp => (he s H C cl fp).pe) hs, fun σ H Hs ρ n q x E s r h k ke => fi σ H Hs ρ n _ x _ s r h (fun J H1 Hs1 lg n1 g1 s1 wd h1 => ?_) (ke σ)⟩
  obtain ⟨ds, G⟩ := lg
  dsimp only at wd h1
  intro A hA
  exact lc_readG (q := fun d n => q (.nx (ρ.set i (some d))) n) his s1 wd (r.ext g1.ext) h1.1 h1.2 (fun v H2 Hs2 d n2 g2 s2 hv h2 => k (.nx _) n2 H2 Hs2 (g1.trans g2) s2 h2 _ ((r.ext (g1.trans g2).ext).set i hv)) A hA
end
/-! step lemmas -/
section
variable {n : S} {x : Exn → S → Prop} {ρ : Ev} {d : D} {t : Ev → Wp Out} {ta : Ev → Wp D} {c : Ev → Wp Bool} {q : D → S → Prop} {qo : Out → S → Prop} {qg : LG → S → Prop} {ql : List D → S → Prop} {g : D → Ev → Wp Ev} {tg : Ev → Wp LG}
def kItmG (q : LG → S → Prop) (x : Exn → S → Prop) (d : D) (n : S) : Prop := itemsG d n q x
theorem s_seqG : tseqG ta ρ n qg x = ta ρ n (kItmG qg x) x := rfl
theorem k_itmGL {l : List D} : kItmG qg x (.lst l) n = qg (l, fun _ => True) n := rfl
theorem k_itmGT {l : List D} : kItmG qg x (.tup l) n = qg (l, fun _ => True) n := rfl
theorem k_itmGM {a : Addr} : kItmG qg x (.mref a) n = ∃ l, n.mu a = some (.lst l) ∧ qg (l, fun s => s.mu a = some (.lst l)) n := rfl
def kForG (g : D → Ev → Wp Ev) (t : Ev → Wp Out) (ρ : Ev) (q : Out → S → Prop) (x : Exn → S → Prop) (l : LG) (n : S) : Prop := forG l.2 g t l.1 ρ n q x
theorem s_forG : tforG tg g t ρ n qo x = tg ρ n (kForG g t ρ qo x) x := rfl
theorem k_forG {ds : List D} {G : S → Prop} : kForG g t ρ qo x (ds, G) n = forG G g t ds ρ n qo x := rfl
def kLcG (g : D → Ev → Wp Ev) (c : Ev → Wp Bool) (te : Ev → Wp D) (vs : List Nat) (ρ : Ev) (q : D → S → Prop) (l : LG) (n : S) : Prop := l.1.length ≤ 1000000 ∧ lcG l.2 g c te (wipeE ρ vs) l.1 n (fun ys m => q (.lst ys) m) (fun _ _ => False)
theorem s_lcG {vs : List Nat} : tlcG tg g c ta vs ρ n q x = tg ρ n (kLcG g c ta vs ρ q) x := rfl
theorem k_lcG {vs : List Nat} {ds : List D} {G : S → Prop} : kLcG g c ta vs ρ q (ds, G) n = (ds.length ≤ 1000000 ∧ lcG G g c ta (wipeE ρ vs) ds n (fun ys m => q (.lst ys) m) (fun _ _ => False)) := rfl
end
section
variable {n : S} {x : Exn → S → Prop} {ρ : Ev} {d : D} {t : Ev → Wp Out} {ta : Ev → Wp D} {c : Ev → Wp Bool} {qo : Out → S → Prop} {ql : List D → S → Prop} {g : D → Ev → Wp Ev} {G : S → Prop}
theorem forG_cons {ds : List D} : forG G g t (d :: ds) ρ n qo x = (G n ∧ g d ρ n (kGo t (fun o m => match o with | .nx ρ2 => forG G g t ds ρ2 m qo x | .ct ρ2 => forG G g t ds ρ2 m qo x | .bk ρ2 => qo (.nx ρ2) m | .rt e => qo (.rt e) m) x) x) := by
  refine congrArg (G n ∧ ·) ?_
  show (g d ρ) n (fun ρ1 k => (t ρ1) k _ x) x = _
  refine congrArg (fun k => g d ρ n k x) (funext fun ρ1 => funext fun m => congrArg (fun k => t ρ1 m k x) (funext fun o => funext fun r => ?_))
  cases o <;> rfl
/-- a guarded for by its invariant -/
theorem forG_inv (I : List D → Ev → S → Prop) (hG : ∀ ds ρ n, I ds ρ n → G n)
    (step : ∀ d ds ρ n (k : Out → S → Prop), I (d :: ds) ρ n → (∀ ρ' m, I ds ρ' m → k (.nx ρ') m) → (∀ e m, qo (.rt e) m → k (.rt e) m) → g d ρ n (kGo t k x) x) (last : ∀ ρ n, I [] ρ n → qo (.nx ρ) n) :
    ∀ ds ρ n, I ds ρ n → forG G g t ds ρ n qo x
  | [], ρ, n, h => ⟨hG _ _ _ h, last ρ n h⟩
  | d :: ds, ρ, n, h => by
    rw [forG_cons]
    exact ⟨hG _ _ _ h, step d ds ρ n _ h (fun ρ' m z => forG_inv I hG step last ds ρ' m z) (fun e m z => z)⟩
theorem lcG_cons {ds : List D} (hG : G n) (h : lc1 g c ta ρ d n fun o m => lcG G g c ta ρ ds m (fun ys r => ql (o.toList ++ ys) r) (fun _ _ => False)) : lcG G g c ta ρ (d :: ds) n ql (fun _ _ => False) := by
  refine ⟨hG, Eq.mp ?_ h⟩
  refine congrArg (fun k => g d ρ n k (fun _ _ => False)) (funext fun ρ1 => funext fun m => congrArg (fun k => c ρ1 m k (fun _ _ => False)) (funext fun b => funext fun r => ?_))
  cases b <;> rfl
/-- a guarded comprehension whose turns change nothing -/
theorem lcG_pure {f : D → Option D} : ∀ {ds : List D} {ql : List D → S → Prop}, G n → (∀ d ∈ ds, ∀ (k : Option D → S → Prop), k (f d) n → lc1 g c ta ρ d n k) → ql (ds.filterMap f) n → lcG G g c ta ρ ds n ql (fun _ _ => False)
  | [], _, hG, _, h => ⟨hG, h⟩
  | d :: ds, ql, hG, hp, h => by
    refine lcG_cons hG (hp d List.mem_cons_self _ (lcG_pure hG (fun e he => hp e (List.mem_cons_of_mem _ he)) ?_))
    rw [List.filterMap_cons] at h
    cases e : f d with
    | none => rw [e] at h; simpa using h
    | some y => rw [e] at h; simpa using h
end
end OE

/-! ### new lists that will change: a + b, [.. for ..], list(..) -/
namespace OE
open PySem PySem.Spec L2
variable [TN]
/-- what is new already, and ours alone, changes from here on -/
theorem Sit.adopt {K : PySem.W.Frag} {n : S} {Hs H : Hp} (s : Sit K n Hs H) {p : Addr} {o : HO} {m : MO} (hs : Hs p = none) (ho : H p = some o) (hm : MOk K (upd Hs p MK) H p m) : Sit K ⟨n.n, n.mu.put p m⟩ (upd Hs p MK) H := by
  have sm : Same Hs (upd Hs p MK) := fun b u q => by rw [upd_ne (ne_of_none q hs)]; exact q
  have e := mk_ext (Hs := Hs) hs
  refine ⟨fun b u q y => ?_, fun b q => ?_, fun b u q y => ?_, fun b kvs q y => ?_, fun P q t => (s.tabs P q t).ext sm, fun b u q => ?_⟩
  · by_cases hb : b = p
    · subst hb; rw [upd_same] at q; cases q; cases y
    · rw [upd_ne hb] at q; exact s.subK b u q y
  · by_cases hb : b = p
    · subst hb; exact ⟨_, ho⟩
    · rw [upd_ne hb] at q; exact s.mkd b q
  · by_cases hb : b = p
    · subst hb; rw [upd_same] at q; cases q; rfl
    · rw [upd_ne hb] at q; exact s.mks b u q y
  · by_cases hb : b = p
    · subst hb; rw [upd_same] at q; cases q
    · rw [upd_ne hb] at q
      exact (s.good b kvs q y).mono (Nat.le_refl _) e
  · by_cases hb : b = p
    · subst hb
      have q' : n.mu.put b m b = some u := q
      rw [Mu.put_same] at q'
      cases q'
      exact ⟨upd_same, hm⟩
    · have q' : n.mu.put p m b = some u := q
      rw [Mu.put_ne hb] at q'
      obtain ⟨h1, h2⟩ := s.muts b u q'
      exact ⟨by rw [upd_ne hb]; exact h1, h2.ext e rfl⟩
def fNewQ (o : MO) (q : D → S → Prop) (n : S) : Prop := ∀ a, n.mu a = none → q (.mref a) ⟨n.n, n.mu.put a o⟩
section
variable {Γ : Gam} {X : Cx} {W : WX} {a b c tg : Expr} {ta tb tc : Ev → Wp D} {pos : Pos}
/-- a + b that will change -/
def fMAdd : D → D → Wp D
  | .lst a, .lst b => Wp.bind (Wp.ask (a.length + b.length ≤ 1000000)) fun _ => fNew (.lst (a ++ b))
  | _, _ => Wp.stuck
theorem r2_madd {K : PySem.W.Frag} : R2D K (rAddU K) fMAdd := by
  intro x y a b H Hs n q e Q s hx hy h k
  cases hx with
  | @lst a xs ds h1 g1 =>
    cases hy with
    | @lst b ys es h2 g2 =>
      refine .inr (.inr (.inr ⟨a, b, xs, ys, rfl, rfl, s.sub _ _ h1, s.sub _ _ h2, by rw [g1.length, g2.length]; exact line_le h.1, fun p hp => ?_⟩))
      have hs := s.free hp
      obtain ⟨s2, g3⟩ := s.newMut (o := .lst (xs ++ ys)) (m := .lst (ds ++ es)) hp ⟨_, upd_same, (g1.append g2).ext (mk_ext hs)⟩
      exact k _ _ _ _ _ g3 s2 (.mref p) (h.2 p (s.muFree hs))
    | _ => exact (show False from h).elim
  | _ => first | exact (show False from h).elim | (cases hy <;> exact (show False from h).elim)
theorem d_madd (ha : DE Γ X W a ta) (hb : DE Γ X W b tb) : DE Γ X W (.BinOp a .Add b pos) (tbin fMAdd ta tb) := d_bin op_addU r2_madd ha hb
def tmlc (ti : Ev → Wp (List D)) (g : D → Ev → Wp Ev) (tt : Ev → Wp Bool) (te : Ev → Wp D) (vs : List Nat) : Ev → Wp D := fun ρ => Wp.bind (ti ρ) fun ds => Wp.bind (Wp.ask (ds.length ≤ 1000000)) fun _ =>
  Wp.bind (Wp.calm (lcW g tt te (wipeE ρ vs) ds)) fun ys => fNew (.lst ys)
theorem lc_readM {Γ : Gam} {K : PySem.W.Frag} {is vs : List Nat} {g : D → Ev → Wp Ev} {tt : Ev → Wp Bool} {te : Ev → Wp D} (his : ∀ i ∈ is, i ∈ vs) {J : It} {H1 Hs1 : Hp} {ds : List D} {n1 : S} {σ : St} {ρ : Ev} {q : D → S → Prop} {Q : VK}
    (s1 : Sit K n1 Hs1 H1) (wd : WalkD K J Hs1 ds) (r : R K ρ σ Hs1) (hl : ds.length ≤ 1000000) (h : lcW g tt te (wipeE ρ vs) ds n1 (fun ys n => fNewQ (.lst ys) q n) (fun _ _ => False)) (k : OkQ K Hs1 H1 q Q) (A : Addr) (hA : H1 A = none) :
    ∃ W : Nat → Nat → Hp → Prop, (∃ m, W 0 m (upd H1 A (.lst []))) ∧ ∀ i m H, W i m H → (J.stop i H ∧ Q (.ref A) H) ∨ (J.go i H ∧ ∃ Nx : Hp → Prop, (∀ H', Nx H' → ∃ m', m' < m ∧ W (i + 1) m' H') ∧
      ∀ x H', J.yld i H x H' → tgD K is g x (wipe σ vs) H' fun σ2 H2 => wipe σ2 vs = wipe σ vs ∧ ttD Γ K W0 tt σ2 H2 fun b H3 =>
        if b = true then teD Γ K W0 te σ2 H3 fun y H4 => ∃ acc, H4 A = some (.lst acc) ∧ acc.length < sizeLine ∧ Nx (upd H4 A (.lst (acc ++ [y]))) else Nx H3) := by
  have hAs := s1.free hA
  -- between the turns: the list so far is ours alone
  have inv : ∃ P : Nat → Hp → Prop, P = fun i H => ∃ (Hs : Hp) (n : S) (acc : List V) (ad : List D), i ≤ ds.length ∧ acc.length ≤ i ∧ Ext Hs1 Hs ∧ Sit K n Hs H ∧ (∀ a o, H1 a = some o → Hs1 a = none → H a = some o ∧ Hs a = none) ∧ H A = some (.lst acc) ∧ Hs A = none ∧ DvAll K Hs acc ad ∧
      lcW g tt te (wipeE ρ vs) (ds.drop i) n (fun ys n => fNewQ (.lst (ad ++ ys)) q n) (fun _ _ => False) := ⟨_, rfl⟩
  obtain ⟨P, hP⟩ := inv
  have put : ∀ {H : Hp} {Hs : Hp} {n : S} {o : HO}, Sit K n Hs H → Hs A = none → Sit K n Hs (upd H A o) := fun {H Hs n o} s e => s.own fun b u z => upd_ne (ne_of_none z e)
  refine ⟨fun i m H => m = ds.length - i ∧ P i H, ⟨_, rfl, ?_⟩, ?_⟩
  · rw [hP]
    refine ⟨Hs1, n1, [], [], Nat.zero_le _, Nat.le_refl _, .refl _, put s1 hAs, fun a o e1 e2 => ⟨?_, e2⟩, upd_same, hAs, .nil, h⟩
    rw [upd_ne (ne_of_none e1 hA)]; exact e1
  · rintro i m H ⟨rfl, hPi⟩
    rw [hP] at hPi
    obtain ⟨Hs, n, acc, ad, hi, hal, he, s, own, hAl, hAn, g1, h⟩ := hPi
    by_cases hlt : i < ds.length
    · refine .inr ⟨wd.go i n Hs H he s hlt, P (i + 1), fun H' p => ⟨ds.length - (i + 1), by omega, rfl, p⟩, fun x H' hy => ?_⟩
      obtain ⟨Hs', d, hd, g2, s2, hv⟩ := wd.yld i n Hs H x H' he s hlt hy
      rw [drop_cons hd] at h
      obtain ⟨hAl2, hAn2⟩ := g2.own A _ hAl hAn
      refine ⟨n, Hs', wipeE ρ vs, d, _, _, s2, (r.ext (he.trans g2.ext)).wipe vs, hv, h, fun ρ3 σ3 r3 z3 h3 => ⟨?_, ?_⟩⟩
      · rw [z3 vs his]
        have : ∀ (τ : St) (us : List Nat), wipe (wipe τ us) us = wipe τ us := fun τ us => by
          have aux : ∀ (us' : List Nat), (∀ i ∈ us', i ∈ us) → wipe (wipe τ us') us = wipe τ us := by
            intro us'
            induction us' with
            | nil => intro _; rfl
            | cons u us'' ih =>
              intro hh
              show wipe ((wipe τ us'').set u none) us = _
              rw [wipe_set (hh u List.mem_cons_self)]
              exact ih fun i hi => hh i (List.mem_cons_of_mem _ hi)
          exact aux us fun _ z => z
        exact this σ vs
      · refine ⟨n, Hs', ρ3, _, _, s2, r3, h3, fun b H3 Hs3 n3 g3 s3 h4 => ?_, fun _ _ _ _ _ _ _ _ _ z => z⟩
        obtain ⟨hAl3, hAn3⟩ := g3.own A _ hAl2 hAn2
        have ownN : ∀ {H4 Hs4 : Hp}, Go Hs3 H3 Hs4 H4 → ∀ a o, H1 a = some o → Hs1 a = none → H4 a = some o ∧ Hs4 a = none := fun {H4 Hs4} g4 a o e1 e2 => by
          obtain ⟨f1, f2⟩ := own a o e1 e2
          exact (g2.trans (g3.trans g4)).own a o f1 f2
        cases b with
        | true =>
          rw [if_pos rfl]
          refine ⟨n3, Hs3, ρ3, _, _, s3, r3.ext g3.ext, h4, fun y H4 Hs4 e n4 g4 s4 hy4 h5 => ?_, fun _ _ _ _ _ _ _ _ _ z => z⟩
          obtain ⟨hAl4, hAn4⟩ := g4.own A _ hAl3 hAn3
          refine ⟨acc, hAl4, Nat.lt_of_le_of_lt (Nat.le_trans hal (Nat.le_of_lt (Nat.lt_of_lt_of_le hlt hl))) (by rw [sizeLine_eq]; decide), ?_⟩
          rw [hP]
          have E4 := g2.ext.trans (g3.ext.trans g4.ext)
          refine ⟨Hs4, n4, acc ++ [y], ad ++ [e], hlt, by rw [List.length_append]; exact Nat.succ_le_succ hal, he.trans E4, put s4 hAn4, fun a o e1 e2 => ?_, upd_same, hAn4, (g1.ext E4).append (.cons hy4 .nil), ?_⟩
          · obtain ⟨f1, f2⟩ := ownN g4 a o e1 e2
            rw [upd_ne (ne_of_none e1 hA)]; exact ⟨f1, f2⟩
          · have e5 : (fun (ys : List D) (n : S) => fNewQ (.lst (ad ++ [e] ++ ys)) q n) = fun ys n => fNewQ (.lst (ad ++ e :: ys)) q n := by funext ys n; rw [List.append_assoc]; rfl
            rw [e5]; exact h5
        | false =>
          rw [if_neg Bool.false_ne_true, hP]
          have E3 := g2.ext.trans g3.ext
          exact ⟨Hs3, n3, acc, ad, hlt, Nat.le_succ_of_le hal, he.trans E3, s3, ownN (.refl _ _), hAl3, hAn3, g1.ext E3, h4⟩
    · have e : i = ds.length := by omega
      subst e
      rw [List.drop_length] at h
      refine .inl ⟨wd.stop n Hs H he s, ?_⟩
      have hs : Ext Hs (upd Hs A MK) := mk_ext hAn
      have sA := s.adopt (m := .lst ad) hAn hAl ⟨acc, hAl, g1.ext hs⟩
      refine k _ H (upd Hs A MK) (.mref A) _ ⟨he.trans hs, fun a o e1 e2 => ?_⟩ sA (.mref A) ?_
      · obtain ⟨f1, f2⟩ := own a o e1 e2
        rw [upd_ne (ne_of_none e1 hA)]; exact ⟨f1, f2⟩
      · have h' : fNewQ (.lst (ad ++ [])) q n := h
        rw [List.append_nil] at h'
        exact h' A (s.muFree hAn)
theorem d_mlc {elt it : Expr} {ifs : List Expr} {scope : Scope} {own : List (Str × Nat)} {ti : Ev → Wp (List D)} {g : D → Ev → Wp Ev} {tt : Ev → Wp Bool} {te : Ev → Wp D} {is : List Nat} (hN : X.N.Nodup) (ok : BlkOk X.N X.env.scope scope own) (hi : DI Γ X W tg it ti)
    (hg : ∀ (s : Shared) (H : Hp) (C : Addr) (cl : List (Str × Addr)) (fp : List Addr), DG (X.blk s H scope (compEnvC scope cl C X.env) fp) tg is g)
    (ht : ∀ (s : Shared) (H : Hp) (C : Addr) (cl : List (Str × Addr)) (fp : List Addr), DTs Γ (X.blk s H scope (compEnvC scope cl C X.env) fp) W0 ifs tt)
    (he : ∀ (s : Shared) (H : Hp) (C : Addr) (cl : List (Str × Addr)) (fp : List Addr), DE Γ (X.blk s H scope (compEnvC scope cl C X.env) fp) W0 elt te)
    (his : ∀ i ∈ is, i ∈ own.map (·.2) := by decide) (hc : X.calm = true := by rfl) (hs : ∀ x, foldedSetIterable it X.env x = pure x := by intro _; rfl) :
    DE Γ X W (.ListComp elt [⟨tg, it, ifs, 0⟩] scope pos) (tmlc ti g tt te (own.map (·.2))) := by
  obtain ⟨wi, pi, fi⟩ := hi
  refine ⟨_, pe_lc (g := tgD X.K is g) (tt := ttD Γ X.K W0 tt) (te := teD Γ X.K W0 te) hc hN pi ok (fun s H C cl fp => (hg s H C cl fp).pg) (fun s H C cl fp => ht s H C cl fp) (fun s H C cl fp => (he s H C cl fp).pe) hs, fun σ H Hs ρ n q x Q s r h k ke => fi σ H Hs ρ n _ x _ s r h (fun J H1 Hs1 ds n1 g1 s1 wd h1 => ?_) ke⟩
  intro A hA
  exact lc_readM his s1 wd (r.ext g1.ext) h1.1 h1.2 (k.go g1) A hA
/-- y = [..] -/
theorem ds_setMLc (i : Nat) {y : Str} {py spos : Pos} {elt it : Expr} {ifs : List Expr} {scope : Scope} {own : List (Str × Nat)} {ti : Ev → Wp (List D)} {g : D → Ev → Wp Ev} {tt : Ev → Wp Bool} {te : Ev → Wp D} {is : List Nat} (hN : X.N.Nodup) (ok : BlkOk X.N X.env.scope scope own) (hi : DI Γ X W tg it ti)
    (hg : ∀ (s : Shared) (H : Hp) (C : Addr) (cl : List (Str × Addr)) (fp : List Addr), DG (X.blk s H scope (compEnvC scope cl C X.env) fp) tg is g)
    (ht : ∀ (s : Shared) (H : Hp) (C : Addr) (cl : List (Str × Addr)) (fp : List Addr), DTs Γ (X.blk s H scope (compEnvC scope cl C X.env) fp) W0 ifs tt)
    (he : ∀ (s : Shared) (H : Hp) (C : Addr) (cl : List (Str × Addr)) (fp : List Addr), DE Γ (X.blk s H scope (compEnvC scope cl C X.env) fp) W0 elt te)
    (hsw : swapsWith (.ListComp elt [⟨tg, it, ifs, 0⟩] scope pos) (some (.Name y py)) spos.line X.env = pure true) (hy : X.N[i]? = some y := by rfl) (hyl : X.env.scope.names.lookup y = some .local := by rfl)
    (his : ∀ i ∈ is, i ∈ own.map (·.2) := by decide) (hc : X.calm = true := by rfl) (hs : ∀ x, foldedSetIterable it X.env x = pure x := by intro _; rfl) :
    DS Γ X W (.Assign [.Name y py] (.ListComp elt [⟨tg, it, ifs, 0⟩] scope pos) spos) (tset i (tmlc ti g tt te (own.map (·.2)))) := by
  obtain ⟨wi, pi, fi⟩ := hi
  refine ⟨_, ps_setLc (g := tgD X.K is g) (tt := ttD Γ X.K W0 tt) (te := teD Γ X.K W0 te) hc hN hy hyl hsw pi ok (fun s H C cl fp => (hg s H C cl fp).pg) (fun s H C cl fp => ht s H C cl fp) (fun s H C cl fp => (he s H C cl fp).pe) hs, fun σ H Hs ρ n q x E s r h k ke => fi σ H Hs ρ n _ x _ s r h (fun J H1 Hs1 ds n1 g1 s1 wd h1 => ?_) (ke σ)⟩
  intro A hA
  exact lc_readM (q := fun d n => q (.nx (ρ.set i (some d))) n) his s1 wd (r.ext g1.ext) h1.1 h1.2 (fun v H2 Hs2 d n2 g2 s2 hv h2 => k (.nx _) n2 H2 Hs2 (g1.trans g2) s2 h2 _ ((r.ext (g1.trans g2).ext).set i hv)) A hA
end
section
variable {n : S} {x : Exn → S → Prop} {ρ : Ev} {ta : Ev → Wp D} {c : Ev → Wp Bool} {q : D → S → Prop} {tl : Ev → Wp (List D)} {g : D → Ev → Wp Ev}
theorem f_maddL {a b : List D} : fMAdd (.lst a) (.lst b) n q x = (a.length + b.length ≤ 1000000 ∧ ∀ p, n.mu p = none → q (.mref p) ⟨n.n, n.mu.put p (.lst (a ++ b))⟩) := rfl
def kMlc (g : D → Ev → Wp Ev) (c : Ev → Wp Bool) (te : Ev → Wp D) (vs : List Nat) (ρ : Ev) (q : D → S → Prop) (ds : List D) (n : S) : Prop := ds.length ≤ 1000000 ∧ lcW g c te (wipeE ρ vs) ds n (fun ys m => fNewQ (.lst ys) q m) (fun _ _ => False)
theorem s_mlc {vs : List Nat} : tmlc tl g c ta vs ρ n q x = tl ρ n (kMlc g c ta vs ρ q) x := rfl
theorem k_mlc {vs : List Nat} {ds : List D} : kMlc g c ta vs ρ q ds n = (ds.length ≤ 1000000 ∧ lcW g c ta (wipeE ρ vs) ds n (fun ys m => fNewQ (.lst ys) q m) (fun _ _ => False)) := rfl
theorem k_newQ {o : MO} : fNewQ o q n = ∀ a, n.mu a = none → q (.mref a) ⟨n.n, n.mu.put a o⟩ := rfl
end
end OE

namespace PL
open OE
open PySem (Str)
def t_is_whole (Γ : Gam) : Ev → Wp Out :=
  tret (tandV (tisi "int" (tvar 0)) (tandV (tnotV (tisi "bool" (tvar 0))) (tchain fLe fLe (tvar 1) (tvar 0) (tvar 2))))
def F_is_whole (Γ : Gam) : List D → Wp D := runDef 3 (t_is_whole Γ)
def t_need_plan_10 (Γ : Gam) : Ev → Wp Out :=
  tret (tvar 0)
def t_need_plan_8 (Γ : Gam) : Ev → Wp Out :=
  tite (tnot (ttest (tfn 3 (F_is_whole Γ) (tcons (tvar 2) (tcons (tconst (.int 1)) (tcons (tconst (.int 1000000000000000000000000000000)) (tnil))))))) (tfail1 "BadPlan" (tcons (ttup (tcons (tconst (.int 1)) (tcons (tvar 1) (tnil)))) (tnil))) (tnext)
def t_need_plan_7 (Γ : Gam) : Ev → Wp Out :=
  tthen (tfor (tits fEnum (tcons (tbin fIx (tvar 0) (tconst (.int 1))) (tnil))) (gtup 2 (gcons (gname 1) (gcons (gname 2) (gnil)))) (t_need_plan_8 Γ))
  (t_need_plan_10 Γ)
def t_need_plan_5 (Γ : Gam) : Ev → Wp Out :=
  tthen (tite (tor (tnot (ttest (tisi "tuple" (tbin fIx (tvar 0) (tconst (.int 1)))))) (tnot (ttest (tchain fLe fLe (tconst (.int 1)) (tcall fLen (tcons (tbin fIx (tvar 0) (tconst (.int 1))) (tnil))) (tconst (.int 8)))))) (tfail1 "BadPlan" (tcons (ttup (tcons (tconst (.int 1)) (tnil))) (tnil))) (tnext))
  (t_need_plan_7 Γ)
def t_need_plan_3 (Γ : Gam) : Ev → Wp Out :=
  tthen (tite (tnot (ttest (tfn 3 (F_is_whole Γ) (tcons (tbin fIx (tvar 0) (tconst (.int 0))) (tcons (tconst (.int 1)) (tcons (tconst (.int 3)) (tnil))))))) (tfail1 "BadPlan" (tcons (ttup (tcons (tconst (.int 0)) (tnil))) (tnil))) (tnext))
  (t_need_plan_5 Γ)
def t_need_plan (Γ : Gam) : Ev → Wp Out :=
  tthen (tite (tor (tnot (ttest (tisi "tuple" (tvar 0)))) (ttest (tbin fNe (tcall fLen (tcons (tvar 0) (tnil))) (tconst (.int 2))))) (tfail1 "BadPlan" (tcons (ttup (tnil)) (tnil))) (tnext))
  (t_need_plan_3 Γ)
def F_need_plan (Γ : Gam) : List D → Wp D := runDef 3 (t_need_plan Γ)
def t_common_3 (Γ : Gam) : Ev → Wp Out :=
  tret (tvar 0)
def t_common_2 (Γ : Gam) : Ev → Wp Out :=
  tpar 0 1 (tcons (tvar 1) (tcons (tbin fMod (tvar 0) (tvar 1)) (tnil)))
def t_common (Γ : Gam) : Ev → Wp Out :=
  tthen (twhile (ttest (tbin fGt (tvar 1) (tconst (.int 0)))) (t_common_2 Γ))
  (t_common_3 Γ)
def F_common (Γ : Gam) : List D → Wp D := runDef 2 (t_common Γ)
def t_fraction_2 (Γ : Gam) : Ev → Wp Out :=
  tret (ttup (tcons (tbin fDiv (tvar 0) (tvar 2)) (tcons (tbin fDiv (tvar 1) (tvar 2)) (tnil))))
def t_fraction (Γ : Gam) : Ev → Wp Out :=
  tthen (tset 2 (tfn 2 (F_common Γ) (tcons (tvar 0) (tcons (tvar 1) (tnil)))))
  (t_fraction_2 Γ)
def F_fraction (Γ : Gam) : List D → Wp D := runDef 3 (t_fraction Γ)
def t_sum_of_4 (Γ : Gam) : Ev → Wp Out :=
  tret (ttup (tcons (tvar 1) (tcons (tvar 2) (tnil))))
def t_sum_of_3 (Γ : Gam) : Ev → Wp Out :=
  tasg (tfn 2 (F_fraction Γ) (tcons (tbin fAdd (tbin fMul (tvar 1) (tvar 3)) (tvar 2)) (tcons (tbin fMul (tvar 2) (tvar 3)) (tnil)))) (gtup 2 (gcons (gname 1) (gcons (gname 2) (gnil))))
def t_sum_of_2 (Γ : Gam) : Ev → Wp Out :=
  tthen (tfor (tseq (tvar 0)) (gname 3) (t_sum_of_3 Γ))
  (t_sum_of_4 Γ)
def t_sum_of (Γ : Gam) : Ev → Wp Out :=
  tthen (tasg (ttup (tcons (tconst (.int 0)) (tcons (tconst (.int 1)) (tnil)))) (gtup 2 (gcons (gname 1) (gcons (gname 2) (gnil)))))
  (t_sum_of_2 Γ)
def F_sum_of (Γ : Gam) : List D → Wp D := runDef 4 (t_sum_of Γ)
def t_share_of (Γ : Gam) : Ev → Wp Out :=
  tret (tfn 1 (F_sum_of Γ) (tcons (tbin fIx (tfn 1 (F_need_plan Γ) (tcons (tvar 0) (tnil))) (tconst (.int 1))) (tnil)))
def F_share_of (Γ : Gam) : List D → Wp D := runDef 1 (t_share_of Γ)
def t_count_of_4 (Γ : Gam) : Ev → Wp Out :=
  tret (tvar 1)
def t_count_of_3 (Γ : Gam) : Ev → Wp Out :=
  tset 1 (tbin fMul (tvar 1) (tvar 2))
def t_count_of_2 (Γ : Gam) : Ev → Wp Out :=
  tthen (tfor (tseq (tbin fIx (tvar 0) (tconst (.int 1)))) (gname 2) (t_count_of_3 Γ))
  (t_count_of_4 Γ)
def t_count_of (Γ : Gam) : Ev → Wp Out :=
  tthen (tset 1 (tconst (.int 1)))
  (t_count_of_2 Γ)
def F_count_of (Γ : Gam) : List D → Wp D := runDef 3 (t_count_of Γ)
def t_how_many (Γ : Gam) : Ev → Wp Out :=
  tret (tfn 1 (F_count_of Γ) (tcons (tfn 1 (F_need_plan Γ) (tcons (tvar 0) (tnil))) (tnil)))
def F_how_many (Γ : Gam) : List D → Wp D := runDef 1 (t_how_many Γ)
def t_need_thing (Γ : Gam) : Ev → Wp Out :=
  tite (tnot (ttest (tfn 3 (F_is_whole Γ) (tcons (tvar 1) (tcons (tconst (.int 0)) (tcons (tbin fSub (tcall fLen (tcons (tbin fIx (tvar 0) (tconst (.int 1))) (tnil))) (tconst (.int 1))) (tnil))))))) (tfail1 "BadNumber" (tcons (tvar 1) (tnil))) (tnext)
def F_need_thing (Γ : Gam) : List D → Wp D := runDef 2 (t_need_thing Γ)
def t_gap_put (Γ : Gam) : Ev → Wp Out :=
  tret (ttup (tcons (tbin fIx (tvar 0) (tconst (.int 0))) (tcons (ttup (tstar (tslice (tbin fIx (tvar 0) (tconst (.int 1))) (fun _ => Wp.ret none) (tpart (tvar 1))) (tcons (tvar 2) (tstar (tslice (tbin fIx (tvar 0) (tconst (.int 1))) (tpart (tbin fAdd (tvar 1) (tconst (.int 1)))) (fun _ => Wp.ret none)) (tnil))))) (tnil))))
def F_gap_put (Γ : Gam) : List D → Wp D := runDef 3 (t_gap_put Γ)
def t_thing_left (Γ : Gam) : Ev → Wp Out :=
  tret (ttup (tcons (tbin fIx (tvar 0) (tconst (.int 0))) (tcons (tbin fAdd (tslice (tbin fIx (tvar 0) (tconst (.int 1))) (fun _ => Wp.ret none) (tpart (tvar 1))) (tslice (tbin fIx (tvar 0) (tconst (.int 1))) (tpart (tbin fAdd (tvar 1) (tconst (.int 1)))) (fun _ => Wp.ret none))) (tnil))))
def F_thing_left (Γ : Gam) : List D → Wp D := runDef 2 (t_thing_left Γ)
def t_with_gap_5 (Γ : Gam) : Ev → Wp Out :=
  tret (tfn 3 (F_gap_put Γ) (tcons (tvar 0) (tcons (tvar 1) (tcons (tvar 2) (tnil)))))
def t_with_gap_3 (Γ : Gam) : Ev → Wp Out :=
  tthen (tite (tnot (ttest (tfn 3 (F_is_whole Γ) (tcons (tvar 2) (tcons (tconst (.int 1)) (tcons (tconst (.int 1000000000000000000000000000000)) (tnil))))))) (tfail1 "BadNumber" (tcons (tvar 2) (tnil))) (tnext))
  (t_with_gap_5 Γ)
def t_with_gap_2 (Γ : Gam) : Ev → Wp Out :=
  tthen (tdrop (tfn 2 (F_need_thing Γ) (tcons (tvar 0) (tcons (tvar 1) (tnil)))))
  (t_with_gap_3 Γ)
def t_with_gap (Γ : Gam) : Ev → Wp Out :=
  tthen (tdrop (tfn 1 (F_need_plan Γ) (tcons (tvar 0) (tnil))))
  (t_with_gap_2 Γ)
def F_with_gap (Γ : Gam) : List D → Wp D := runDef 3 (t_with_gap Γ)
def t_without_5 (Γ : Gam) : Ev → Wp Out :=
  tret (tfn 2 (F_thing_left Γ) (tcons (tvar 0) (tcons (tvar 1) (tnil))))
def t_without_3 (Γ : Gam) : Ev → Wp Out :=
  tthen (tite (ttest (tbin fEq (tcall fLen (tcons (tbin fIx (tvar 0) (tconst (.int 1))) (tnil))) (tconst (.int 1)))) (tfail1 "BadNumber" (tcons (tvar 1) (tnil))) (tnext))
  (t_without_5 Γ)
def t_without_2 (Γ : Gam) : Ev → Wp Out :=
  tthen (tdrop (tfn 2 (F_need_thing Γ) (tcons (tvar 0) (tcons (tvar 1) (tnil)))))
  (t_without_3 Γ)
def t_without (Γ : Gam) : Ev → Wp Out :=
  tthen (tdrop (tfn 1 (F_need_plan Γ) (tcons (tvar 0) (tnil))))
  (t_without_2 Γ)
def F_without (Γ : Gam) : List D → Wp D := runDef 2 (t_without Γ)
end PL


namespace PL
open OE PySem
local macro_rules | `(tactic| wp_walk) => `(tactic| simp -implicitDefEqProofs only [OE.w_g0, OE.w_gs, OE.w_s0, OE.w_ss, OE.w_some, OE.w_ex, OE.w_lc, OE.w_ln, OE.w_at, OE.w_ta, OE.w_nt, OE.w_nf, OE.w_it, OE.w_if, OE.w_itP, OE.w_ifP, OE.w_ft, OE.w_mc, OE.w_mn, OE.w_rs, OE.w_r0, OE.w_ca, OE.w_na, OE.w_za, OE.w_sb, OE.w_sz, OE.s_then, OE.k_seqN, OE.k_seqR, OE.k_seqB, OE.k_seqC, OE.s_next, OE.s_ret, OE.k_ret, OE.s_set, OE.k_set, OE.s_ite, OE.k_ite, OE.o_rt, OE.o_nx, OE.s_run, OE.s_var, OE.s_const, OE.s_nil, OE.s_cons, OE.k_cons, OE.k_cons2, OE.s_tup, OE.s_lst, OE.k_tup, OE.k_lst, OE.s_bin, OE.k_bin, OE.k_bin2, OE.s_bind, OE.k_ap, OE.s_call, OE.k_apL, OE.s_fn, OE.k_fn, OE.s_test, OE.k_test, OE.s_and, OE.k_and, OE.s_or, OE.k_or, OE.s_not, OE.k_not, OE.s_andV, OE.k_andV, OE.s_orV, OE.k_orV, OE.s_notV, OE.k_notV, OE.s_if, OE.k_if, OE.s_isN, OE.k_isN, OE.s_noN, OE.k_noN, OE.s_chain, OE.k_ch1, OE.k_ch2, OE.k_ch3, OE.s_isi, OE.k_isi, OE.s_part, OE.k_part, OE.s_slice, OE.k_sl1, OE.k_sl2, OE.k_sl3, OE.s_retO, OE.s_slL, OE.s_slT, OE.s_slS, OE.s_seq, OE.k_itmL, OE.k_itmT, OE.k_itmS, OE.s_its, OE.k_its, OE.s_rng1, OE.s_rng2, OE.s_enT, OE.s_enL, OE.s_zipL, OE.s_zipT, OE.s_for, OE.k_for, OE.for_nil, OE.k_go, OE.k_tN, OE.k_tC, OE.k_tB, OE.k_tR, OE.g_name, OE.g_tup, OE.g_cons, OE.k_gs, OE.g_nil, OE.s_asg, OE.k_asg, OE.k_nx, OE.s_par, OE.k_par, OE.s_lc, OE.k_lc, OE.k_lc1, OE.k_lc2, OE.k_some, OE.s_fail, OE.k_fail, OE.s_fail0, OE.s_try, OE.k_unN, OE.k_unR, OE.s_fld, OE.k_fld, OE.f_addI, OE.f_addT, OE.f_addL, OE.f_addS, OE.f_ii, OE.f_i0, OE.f_mulI, OE.f_mulT, OE.f_mulL, OE.f_neg, OE.f_ixL, OE.f_ixT, OE.f_ixS, OE.f_lenL, OE.f_lenT, OE.f_lenS, OE.f_int, OE.f_min, OE.f_max, OE.f_tupL, OE.f_lstT, OE.f_lstL, OE.f_repr, OE.f_cmpS, OE.f_cmpI, OE.f_cmpT, OE.f_cmpL, OE.s_dict, OE.k_dic, OE.f_getM, OE.s_putM, OE.k_put1, OE.k_put2, OE.s_dm, OE.mGet_left, OE.mGet_seed, OE.mGet_cells, OE.mGet_spot, OE.mPut_left, OE.mPut_spot, OE.k_wh, OE.s_star, OE.k_starT, OE.k_starL, OE.k_star2, OE.s_drop, OE.k_drop, OE.s_par3, OE.k_par3, OE.f_lrg1, OE.f_trg1, OE.f_lrg2, OE.f_trg2, OE.f_ixM, OE.f_lenM, OE.f_inT, OE.f_inL, OE.f_inS, OE.s_tryN, OE.c_nil, OE.f_all, OE.f_any, OE.f_sum, OE.s_frz, OE.k_frzS, OE.k_fz, OE.f_frzLs, OE.f_frzT, OE.f_frzI, OE.f_frzN, OE.s_mlst, OE.k_ml, OE.s_meth, OE.k_me, OE.f_app, OE.f_extd, OE.f_sorted, OE.s_lc2, OE.k_lcc, OE.f_isB, OE.s_isi2, OE.k_isi2, OE.s_aug, OE.k_aug, OE.w_int, OE.f_revL, OE.f_revT, OE.s_isx, OE.k_isx, OE.startE, Nat.reduceAdd, Nat.reduceLeDiff, Nat.reduceSub])
local macro_rules | `(tactic| wp_walk using $[$ts],*) => `(tactic| simp -implicitDefEqProofs only [$[$ts:term],*, OE.w_g0, OE.w_gs, OE.w_s0, OE.w_ss, OE.w_some, OE.w_ex, OE.w_lc, OE.w_ln, OE.w_at, OE.w_ta, OE.w_nt, OE.w_nf, OE.w_it, OE.w_if, OE.w_itP, OE.w_ifP, OE.w_ft, OE.w_mc, OE.w_mn, OE.w_rs, OE.w_r0, OE.w_ca, OE.w_na, OE.w_za, OE.w_sb, OE.w_sz, OE.s_then, OE.k_seqN, OE.k_seqR, OE.k_seqB, OE.k_seqC, OE.s_next, OE.s_ret, OE.k_ret, OE.s_set, OE.k_set, OE.s_ite, OE.k_ite, OE.o_rt, OE.o_nx, OE.s_run, OE.s_var, OE.s_const, OE.s_nil, OE.s_cons, OE.k_cons, OE.k_cons2, OE.s_tup, OE.s_lst, OE.k_tup, OE.k_lst, OE.s_bin, OE.k_bin, OE.k_bin2, OE.s_bind, OE.k_ap, OE.s_call, OE.k_apL, OE.s_fn, OE.k_fn, OE.s_test, OE.k_test, OE.s_and, OE.k_and, OE.s_or, OE.k_or, OE.s_not, OE.k_not, OE.s_andV, OE.k_andV, OE.s_orV, OE.k_orV, OE.s_notV, OE.k_notV, OE.s_if, OE.k_if, OE.s_isN, OE.k_isN, OE.s_noN, OE.k_noN, OE.s_chain, OE.k_ch1, OE.k_ch2, OE.k_ch3, OE.s_isi, OE.k_isi, OE.s_part, OE.k_part, OE.s_slice, OE.k_sl1, OE.k_sl2, OE.k_sl3, OE.s_retO, OE.s_slL, OE.s_slT, OE.s_slS, OE.s_seq, OE.k_itmL, OE.k_itmT, OE.k_itmS, OE.s_its, OE.k_its, OE.s_rng1, OE.s_rng2, OE.s_enT, OE.s_enL, OE.s_zipL, OE.s_zipT, OE.s_for, OE.k_for, OE.for_nil, OE.k_go, OE.k_tN, OE.k_tC, OE.k_tB, OE.k_tR, OE.g_name, OE.g_tup, OE.g_cons, OE.k_gs, OE.g_nil, OE.s_asg, OE.k_asg, OE.k_nx, OE.s_par, OE.k_par, OE.s_lc, OE.k_lc, OE.k_lc1, OE.k_lc2, OE.k_some, OE.s_fail, OE.k_fail, OE.s_fail0, OE.s_try, OE.k_unN, OE.k_unR, OE.s_fld, OE.k_fld, OE.f_addI, OE.f_addT, OE.f_addL, OE.f_addS, OE.f_ii, OE.f_i0, OE.f_mulI, OE.f_mulT, OE.f_mulL, OE.f_neg, OE.f_ixL, OE.f_ixT, OE.f_ixS, OE.f_lenL, OE.f_lenT, OE.f_lenS, OE.f_int, OE.f_min, OE.f_max, OE.f_tupL, OE.f_lstT, OE.f_lstL, OE.f_repr, OE.f_cmpS, OE.f_cmpI, OE.f_cmpT, OE.f_cmpL, OE.s_dict, OE.k_dic, OE.f_getM, OE.s_putM, OE.k_put1, OE.k_put2, OE.s_dm, OE.mGet_left, OE.mGet_seed, OE.mGet_cells, OE.mGet_spot, OE.mPut_left, OE.mPut_spot, OE.k_wh, OE.s_star, OE.k_starT, OE.k_starL, OE.k_star2, OE.s_drop, OE.k_drop, OE.s_par3, OE.k_par3, OE.f_lrg1, OE.f_trg1, OE.f_lrg2, OE.f_trg2, OE.f_ixM, OE.f_lenM, OE.f_inT, OE.f_inL, OE.f_inS, OE.s_tryN, OE.c_nil, OE.f_all, OE.f_any, OE.f_sum, OE.s_frz, OE.k_frzS, OE.k_fz, OE.f_frzLs, OE.f_frzT, OE.f_frzI, OE.f_frzN, OE.s_mlst, OE.k_ml, OE.s_meth, OE.k_me, OE.f_app, OE.f_extd, OE.f_sorted, OE.s_lc2, OE.k_lcc, OE.f_isB, OE.s_isi2, OE.k_isi2, OE.s_aug, OE.k_aug, OE.w_int, OE.f_revL, OE.f_revT, OE.s_isx, OE.k_isx, OE.startE, Nat.reduceAdd, Nat.reduceLeDiff, Nat.reduceSub])
variable [TN] {Γ : Gam} {n : S} {q : D → S → Prop} {x : Exn → S → Prop}
/-! ### plans.py over data -/
def isW (lo hi : Int) : D → Bool
  | .int i => decide (lo ≤ i) && decide (i ≤ hi)
  | _ => false
def isInt : D → Bool
  | .int _ => true
  | .bl _ => true
  | _ => false
def isBl : D → Bool
  | .bl _ => true
  | _ => false
def isTp : D → Bool
  | .tup _ => true
  | _ => false
theorem isi_int (d : D) : isiB "int" d = isInt d := by cases d <;> simp [isiB, isiN, tyName, isInt]
theorem isi_bool (d : D) : isiB "bool" d = isBl d := by cases d <;> simp [isiB, isiN, tyName, isBl]
theorem isi_tup (d : D) : isiB "tuple" d = isTp d := by cases d <;> simp [isiB, isiN, tyName, isTp]
theorem noE {d : D} (h : d.plain = true) : d.isE = false := by cases d <;> first | rfl | (rw [D.plain] at h; cases h)
theorem plain_mem : ∀ {l : List D} {d : D}, D.plainAll l = true → d ∈ l → d.plain = true
  | [], _, _, h => nomatch h
  | a :: l, d, h, hm => by
    rw [D.plainAll, Bool.and_eq_true] at h
    rcases List.mem_cons.mp hm with z | z
    · rw [z]; exact h.1
    · exact plain_mem h.2 z
theorem plain_tup {l : List D} (h : (D.tup l).plain = true) : D.plainAll l = true := by rw [D.plain] at h; exact h
theorem plain_all : ∀ {l : List D}, (∀ d ∈ l, d.plain = true) → D.plainAll l = true
  | [], _ => rfl
  | a :: l, h => by rw [D.plainAll, h a List.mem_cons_self, plain_all fun d hd => h d (List.mem_cons_of_mem _ hd)]; rfl
theorem sp_is_whole {d : D} {lo hi : Int} (he : d.isE = false) (h : q (.bl (isW lo hi d)) n) : F_is_whole Γ [d, .int lo, .int hi] n q x := by
  wp_walk using t_is_whole, F_is_whole, isi_int, isi_bool
  refine ⟨he, ?_⟩
  cases d with
  | int i =>
    simp -implicitDefEqProofs only [OE.w_g0, OE.w_gs, OE.w_s0, OE.w_ss, OE.w_some, OE.w_ex, OE.w_lc, OE.w_ln, OE.w_at, OE.w_ta, OE.w_nt, OE.w_nf, OE.w_it, OE.w_if, OE.w_itP, OE.w_ifP, OE.w_ft, OE.w_mc, OE.w_mn, OE.w_rs, OE.w_r0, OE.w_ca, OE.w_na, OE.w_za, OE.w_sb, OE.w_sz, OE.s_then, OE.k_seqN, OE.k_seqR, OE.k_seqB, OE.k_seqC, OE.s_next, OE.s_ret, OE.k_ret, OE.s_set, OE.k_set, OE.s_ite, OE.k_ite, OE.o_rt, OE.o_nx, OE.s_run, OE.s_var, OE.s_const, OE.s_nil, OE.s_cons, OE.k_cons, OE.k_cons2, OE.s_tup, OE.s_lst, OE.k_tup, OE.k_lst, OE.s_bin, OE.k_bin, OE.k_bin2, OE.s_bind, OE.k_ap, OE.s_call, OE.k_apL, OE.s_fn, OE.k_fn, OE.s_test, OE.k_test, OE.s_and, OE.k_and, OE.s_or, OE.k_or, OE.s_not, OE.k_not, OE.s_andV, OE.k_andV, OE.s_orV, OE.k_orV, OE.s_notV, OE.k_notV, OE.s_if, OE.k_if, OE.s_isN, OE.k_isN, OE.s_noN, OE.k_noN, OE.s_chain, OE.k_ch1, OE.k_ch2, OE.k_ch3, OE.s_isi, OE.k_isi, OE.s_part, OE.k_part, OE.s_slice, OE.k_sl1, OE.k_sl2, OE.k_sl3, OE.s_retO, OE.s_slL, OE.s_slT, OE.s_slS, OE.s_seq, OE.k_itmL, OE.k_itmT, OE.k_itmS, OE.s_its, OE.k_its, OE.s_rng1, OE.s_rng2, OE.s_enT, OE.s_enL, OE.s_zipL, OE.s_zipT, OE.s_for, OE.k_for, OE.for_nil, OE.k_go, OE.k_tN, OE.k_tC, OE.k_tB, OE.k_tR, OE.g_name, OE.g_tup, OE.g_cons, OE.k_gs, OE.g_nil, OE.s_asg, OE.k_asg, OE.k_nx, OE.s_par, OE.k_par, OE.s_lc, OE.k_lc, OE.k_lc1, OE.k_lc2, OE.k_some, OE.s_fail, OE.k_fail, OE.s_fail0, OE.s_try, OE.k_unN, OE.k_unR, OE.s_fld, OE.k_fld, OE.f_addI, OE.f_addT, OE.f_addL, OE.f_addS, OE.f_ii, OE.f_i0, OE.f_mulI, OE.f_mulT, OE.f_mulL, OE.f_neg, OE.f_ixL, OE.f_ixT, OE.f_ixS, OE.f_lenL, OE.f_lenT, OE.f_lenS, OE.f_int, OE.f_min, OE.f_max, OE.f_tupL, OE.f_lstT, OE.f_lstL, OE.f_repr, OE.f_cmpS, OE.f_cmpI, OE.f_cmpT, OE.f_cmpL, OE.s_dict, OE.k_dic, OE.f_getM, OE.s_putM, OE.k_put1, OE.k_put2, OE.s_dm, OE.mGet_left, OE.mGet_seed, OE.mGet_cells, OE.mGet_spot, OE.mPut_left, OE.mPut_spot, OE.k_wh, OE.s_star, OE.k_starT, OE.k_starL, OE.k_star2, OE.s_drop, OE.k_drop, OE.s_par3, OE.k_par3, OE.f_lrg1, OE.f_trg1, OE.f_lrg2, OE.f_trg2, OE.f_ixM, OE.f_lenM, OE.f_inT, OE.f_inL, OE.f_inS, OE.s_tryN, OE.c_nil, OE.f_all, OE.f_any, OE.f_sum, OE.s_frz, OE.k_frzS, OE.k_fz, OE.f_frzLs, OE.f_frzT, OE.f_frzI, OE.f_frzN, OE.s_mlst, OE.k_ml, OE.s_meth, OE.k_me, OE.f_app, OE.f_extd, OE.f_sorted, OE.s_lc2, OE.k_lcc, OE.f_isB, OE.s_isi2, OE.k_isi2, OE.s_aug, OE.k_aug, OE.w_int, OE.f_revL, OE.f_revT, OE.s_isx, OE.k_isx, OE.startE, Nat.reduceAdd, Nat.reduceLeDiff, Nat.reduceSub, D.isE, isInt, isBl, isW] at h ⊢
    by_cases c : lo ≤ i <;> simp [c] at h ⊢ <;> exact h
  | _ => simpa [isW, D.isE, isInt, isBl] using h
theorem at0 {α : Type} {a : α} {l : List α} : L2.atI (a :: l) 0 = some a := by simp [L2.atI, L2.ixN]
theorem at1 {α : Type} {a b : α} {l : List α} : L2.atI (a :: b :: l) 1 = some b := by
  unfold L2.atI L2.ixN
  rw [if_pos (by decide), if_pos (by simp -implicitDefEqProofs only [List.length_cons]; omega)]
  rfl
theorem at2 {α : Type} {a b c : α} {l : List α} : L2.atI (a :: b :: c :: l) 2 = some c := by
  unfold L2.atI L2.ixN
  rw [if_pos (by decide), if_pos (by simp -implicitDefEqProofs only [List.length_cons]; omega)]
  rfl
theorem at_nat {α : Type} {l : List α} {i : Nat} {a : α} (h : l[i]? = some a) : L2.atI l (i : Int) = some a := by
  have hl : i < l.length := by
    rcases Nat.lt_or_ge i l.length with z | z
    · exact z
    · rw [List.getElem?_eq_none z] at h; cases h
  unfold L2.atI L2.ixN
  rw [if_pos (by omega), if_pos (by omega)]
  simpa using h
/-- the first that is none -/
def badAt (i : Nat) : List D → Option Nat
  | [] => none
  | d :: l => if isW 1 1000000000000000000000000000000 d = true then badAt (i + 1) l else some i
def wrongP : D → Option (List D)
  | .tup [h, g] => if isW 1 3 h = true then (match g with
    | .tup l => if 1 ≤ l.length ∧ l.length ≤ 8 then (badAt 0 l).map (fun j => [.int 1, .int (j : Nat)]) else some [.int 1]
    | _ => some [.int 1]) else some [.int 0]
  | _ => some []
theorem wrong_tt {a : D} {l : List D} : wrongP (.tup [a, .tup l]) = if isW 1 3 a = true then (if 1 ≤ l.length ∧ l.length ≤ 8 then (badAt 0 l).map (fun j => [D.int 1, .int (j : Nat)]) else some [.int 1]) else some [.int 0] := rfl
theorem wrong_t0 {a b : D} (h : isW 1 3 a = false) : wrongP (.tup [a, b]) = some [.int 0] := if_neg (by rw [h]; decide)
theorem sp_need {d : D} (hp : d.plain = true) (h : match wrongP d with | none => q d n | some p => x ⟨"BadPlan", some (.tup p)⟩ n) : F_need_plan Γ [d] n q x := by
  have he := noE hp
  wp_walk using t_need_plan_10, t_need_plan_8, t_need_plan_7, t_need_plan_5, t_need_plan_3, t_need_plan, F_need_plan, isi_tup
  refine ⟨he, ?_⟩
  cases d with
  | tup l =>
    wp_walk using isTp
    by_cases hl : l.length = 2
    · obtain ⟨a, b, rfl⟩ : ∃ a b, l = [a, b] := by
        match l, hl with
        | [a, b], _ => exact ⟨a, b, rfl⟩
      have pa : a.plain = true := plain_mem (plain_tup hp) (by simp)
      have pb : b.plain = true := plain_mem (plain_tup hp) (by simp)
      wp_walk using List.length_cons, List.length_nil, Nat.zero_add, Nat.reduceAdd, Int.cast_ofNat_Int, decide_true, Bool.bne_true, Bool.not_true, if_false, Bool.false_eq_true, at0, at1
      refine sp_is_whole (noE pa) ?_
      wp_walk using at0, at1, isi_tup
      by_cases ha : isW 1 3 a = true
      · rw [ha]
        wp_walk using at0, at1
        refine ⟨noE pb, ?_⟩
        cases b with
        | tup l =>
          wp_walk using isTp
          by_cases c1 : (1 : Int) ≤ (l.length : Nat)
          · by_cases c2 : ((l.length : Nat) : Int) ≤ 8
            · wp_walk using c1, c2, decide_true, at1
              have hw : wrongP (.tup [a, .tup l]) = (badAt 0 l).map (fun j => [.int 1, .int (j : Nat)]) := by
                rw [wrong_tt, if_pos ha]
                exact if_pos ⟨by omega, by omega⟩
              rw [hw] at h
              have hall : ∀ d ∈ l, d.plain = true := fun d hd => plain_mem (plain_tup pb) hd
              refine for_inv (I := fun ds ρ m => m = n ∧ ∃ (i : Nat) (l' : List D) (o1 o2 : Option D), ds = enumD i l' ∧ (∀ d ∈ l', d.plain = true) ∧ (match (badAt i l').map (fun j => [D.int 1, .int (j : Nat)]) with | none => q (.tup [a, .tup l]) n | some p => x ⟨"BadPlan", some (.tup p)⟩ n) ∧ ρ = [some (.tup [a, .tup l]), o1, o2]) ?_ ?_ _ _ _ ⟨rfl, 0, l, none, none, rfl, hall, h, rfl⟩
              · rintro d ds ρ m k ⟨rfl, i, l', o1, o2, e, hp', hh, rfl⟩ k1 k2
                cases l' with
                | nil => cases e
                | cons d' l' =>
                  rw [enumD] at e
                  cases e
                  wp_walk
                  refine sp_is_whole (noE (hp' d' List.mem_cons_self)) ?_
                  rw [badAt] at hh
                  by_cases hd : isW 1 1000000000000000000000000000000 d' = true
                  · rw [if_pos hd] at hh
                    rw [hd]
                    wp_walk
                    exact k1 _ _ ⟨rfl, i + 1, l', _, _, rfl, fun z hz => hp' z (List.mem_cons_of_mem _ hz), hh, rfl⟩
                  · rw [if_neg hd] at hh
                    have hd' : isW 1 1000000000000000000000000000000 d' = false := by simpa using hd
                    rw [hd']
                    wp_walk
                    exact hh
              · rintro ρ m ⟨rfl, i, l', o1, o2, e, hp', hh, rfl⟩
                cases l' with
                | cons d' l' => cases e
                | nil =>
                  wp_walk
                  exact hh
            · have hw : wrongP (.tup [a, .tup l]) = some [.int 1] := by
                rw [wrong_tt, if_pos ha]
                exact if_neg (by omega)
              rw [hw] at h
              simpa [c1, c2, OE.w_g0, OE.w_gs, OE.w_s0, OE.w_ss, OE.w_some, OE.w_ex, OE.w_lc, OE.w_ln, OE.w_at, OE.w_ta, OE.w_nt, OE.w_nf, OE.w_it, OE.w_if, OE.w_itP, OE.w_ifP, OE.w_ft, OE.w_mc, OE.w_mn, OE.w_rs, OE.w_r0, OE.w_ca, OE.w_na, OE.w_za, OE.w_sb, OE.w_sz, OE.s_then, OE.k_seqN, OE.k_seqR, OE.k_seqB, OE.k_seqC, OE.s_next, OE.s_ret, OE.k_ret, OE.s_set, OE.k_set, OE.s_ite, OE.k_ite, OE.o_rt, OE.o_nx, OE.s_run, OE.s_var, OE.s_const, OE.s_nil, OE.s_cons, OE.k_cons, OE.k_cons2, OE.s_tup, OE.s_lst, OE.k_tup, OE.k_lst, OE.s_bin, OE.k_bin, OE.k_bin2, OE.s_bind, OE.k_ap, OE.s_call, OE.k_apL, OE.s_fn, OE.k_fn, OE.s_test, OE.k_test, OE.s_and, OE.k_and, OE.s_or, OE.k_or, OE.s_not, OE.k_not, OE.s_andV, OE.k_andV, OE.s_orV, OE.k_orV, OE.s_notV, OE.k_notV, OE.s_if, OE.k_if, OE.s_isN, OE.k_isN, OE.s_noN, OE.k_noN, OE.s_chain, OE.k_ch1, OE.k_ch2, OE.k_ch3, OE.s_isi, OE.k_isi, OE.s_part, OE.k_part, OE.s_slice, OE.k_sl1, OE.k_sl2, OE.k_sl3, OE.s_retO, OE.s_slL, OE.s_slT, OE.s_slS, OE.s_seq, OE.k_itmL, OE.k_itmT, OE.k_itmS, OE.s_its, OE.k_its, OE.s_rng1, OE.s_rng2, OE.s_enT, OE.s_enL, OE.s_zipL, OE.s_zipT, OE.s_for, OE.k_for, OE.for_nil, OE.k_go, OE.k_tN, OE.k_tC, OE.k_tB, OE.k_tR, OE.g_name, OE.g_tup, OE.g_cons, OE.k_gs, OE.g_nil, OE.s_asg, OE.k_asg, OE.k_nx, OE.s_par, OE.k_par, OE.s_lc, OE.k_lc, OE.k_lc1, OE.k_lc2, OE.k_some, OE.s_fail, OE.k_fail, OE.s_fail0, OE.s_try, OE.k_unN, OE.k_unR, OE.s_fld, OE.k_fld, OE.f_addI, OE.f_addT, OE.f_addL, OE.f_addS, OE.f_ii, OE.f_i0, OE.f_mulI, OE.f_mulT, OE.f_mulL, OE.f_neg, OE.f_ixL, OE.f_ixT, OE.f_ixS, OE.f_lenL, OE.f_lenT, OE.f_lenS, OE.f_int, OE.f_min, OE.f_max, OE.f_tupL, OE.f_lstT, OE.f_lstL, OE.f_repr, OE.f_cmpS, OE.f_cmpI, OE.f_cmpT, OE.f_cmpL, OE.s_dict, OE.k_dic, OE.f_getM, OE.s_putM, OE.k_put1, OE.k_put2, OE.s_dm, OE.mGet_left, OE.mGet_seed, OE.mGet_cells, OE.mGet_spot, OE.mPut_left, OE.mPut_spot, OE.k_wh, OE.s_star, OE.k_starT, OE.k_starL, OE.k_star2, OE.s_drop, OE.k_drop, OE.s_par3, OE.k_par3, OE.f_lrg1, OE.f_trg1, OE.f_lrg2, OE.f_trg2, OE.f_ixM, OE.f_lenM, OE.f_inT, OE.f_inL, OE.f_inS, OE.s_tryN, OE.c_nil, OE.f_all, OE.f_any, OE.f_sum, OE.s_frz, OE.k_frzS, OE.k_fz, OE.f_frzLs, OE.f_frzT, OE.f_frzI, OE.f_frzN, OE.s_mlst, OE.k_ml, OE.s_meth, OE.k_me, OE.f_app, OE.f_extd, OE.f_sorted, OE.s_lc2, OE.k_lcc, OE.f_isB, OE.s_isi2, OE.k_isi2, OE.s_aug, OE.k_aug, OE.w_int, OE.f_revL, OE.f_revT, OE.s_isx, OE.k_isx, OE.startE, Nat.reduceAdd, Nat.reduceLeDiff, Nat.reduceSub, at1] using h
          · have hw : wrongP (.tup [a, .tup l]) = some [.int 1] := by
              rw [wrong_tt, if_pos ha]
              exact if_neg (by omega)
            rw [hw] at h
            simpa [c1, OE.w_g0, OE.w_gs, OE.w_s0, OE.w_ss, OE.w_some, OE.w_ex, OE.w_lc, OE.w_ln, OE.w_at, OE.w_ta, OE.w_nt, OE.w_nf, OE.w_it, OE.w_if, OE.w_itP, OE.w_ifP, OE.w_ft, OE.w_mc, OE.w_mn, OE.w_rs, OE.w_r0, OE.w_ca, OE.w_na, OE.w_za, OE.w_sb, OE.w_sz, OE.s_then, OE.k_seqN, OE.k_seqR, OE.k_seqB, OE.k_seqC, OE.s_next, OE.s_ret, OE.k_ret, OE.s_set, OE.k_set, OE.s_ite, OE.k_ite, OE.o_rt, OE.o_nx, OE.s_run, OE.s_var, OE.s_const, OE.s_nil, OE.s_cons, OE.k_cons, OE.k_cons2, OE.s_tup, OE.s_lst, OE.k_tup, OE.k_lst, OE.s_bin, OE.k_bin, OE.k_bin2, OE.s_bind, OE.k_ap, OE.s_call, OE.k_apL, OE.s_fn, OE.k_fn, OE.s_test, OE.k_test, OE.s_and, OE.k_and, OE.s_or, OE.k_or, OE.s_not, OE.k_not, OE.s_andV, OE.k_andV, OE.s_orV, OE.k_orV, OE.s_notV, OE.k_notV, OE.s_if, OE.k_if, OE.s_isN, OE.k_isN, OE.s_noN, OE.k_noN, OE.s_chain, OE.k_ch1, OE.k_ch2, OE.k_ch3, OE.s_isi, OE.k_isi, OE.s_part, OE.k_part, OE.s_slice, OE.k_sl1, OE.k_sl2, OE.k_sl3, OE.s_retO, OE.s_slL, OE.s_slT, OE.s_slS, OE.s_seq, OE.k_itmL, OE.k_itmT, OE.k_itmS, OE.s_its, OE.k_its, OE.s_rng1, OE.s_rng2, OE.s_enT, OE.s_enL, OE.s_zipL, OE.s_zipT, OE.s_for, OE.k_for, OE.for_nil, OE.k_go, OE.k_tN, OE.k_tC, OE.k_tB, OE.k_tR, OE.g_name, OE.g_tup, OE.g_cons, OE.k_gs, OE.g_nil, OE.s_asg, OE.k_asg, OE.k_nx, OE.s_par, OE.k_par, OE.s_lc, OE.k_lc, OE.k_lc1, OE.k_lc2, OE.k_some, OE.s_fail, OE.k_fail, OE.s_fail0, OE.s_try, OE.k_unN, OE.k_unR, OE.s_fld, OE.k_fld, OE.f_addI, OE.f_addT, OE.f_addL, OE.f_addS, OE.f_ii, OE.f_i0, OE.f_mulI, OE.f_mulT, OE.f_mulL, OE.f_neg, OE.f_ixL, OE.f_ixT, OE.f_ixS, OE.f_lenL, OE.f_lenT, OE.f_lenS, OE.f_int, OE.f_min, OE.f_max, OE.f_tupL, OE.f_lstT, OE.f_lstL, OE.f_repr, OE.f_cmpS, OE.f_cmpI, OE.f_cmpT, OE.f_cmpL, OE.s_dict, OE.k_dic, OE.f_getM, OE.s_putM, OE.k_put1, OE.k_put2, OE.s_dm, OE.mGet_left, OE.mGet_seed, OE.mGet_cells, OE.mGet_spot, OE.mPut_left, OE.mPut_spot, OE.k_wh, OE.s_star, OE.k_starT, OE.k_starL, OE.k_star2, OE.s_drop, OE.k_drop, OE.s_par3, OE.k_par3, OE.f_lrg1, OE.f_trg1, OE.f_lrg2, OE.f_trg2, OE.f_ixM, OE.f_lenM, OE.f_inT, OE.f_inL, OE.f_inS, OE.s_tryN, OE.c_nil, OE.f_all, OE.f_any, OE.f_sum, OE.s_frz, OE.k_frzS, OE.k_fz, OE.f_frzLs, OE.f_frzT, OE.f_frzI, OE.f_frzN, OE.s_mlst, OE.k_ml, OE.s_meth, OE.k_me, OE.f_app, OE.f_extd, OE.f_sorted, OE.s_lc2, OE.k_lcc, OE.f_isB, OE.s_isi2, OE.k_isi2, OE.s_aug, OE.k_aug, OE.w_int, OE.f_revL, OE.f_revT, OE.s_isx, OE.k_isx, OE.startE, Nat.reduceAdd, Nat.reduceLeDiff, Nat.reduceSub, at1] using h
        | _ =>
          unfold wrongP at h
          simpa [isTp, OE.w_g0, OE.w_gs, OE.w_s0, OE.w_ss, OE.w_some, OE.w_ex, OE.w_lc, OE.w_ln, OE.w_at, OE.w_ta, OE.w_nt, OE.w_nf, OE.w_it, OE.w_if, OE.w_itP, OE.w_ifP, OE.w_ft, OE.w_mc, OE.w_mn, OE.w_rs, OE.w_r0, OE.w_ca, OE.w_na, OE.w_za, OE.w_sb, OE.w_sz, OE.s_then, OE.k_seqN, OE.k_seqR, OE.k_seqB, OE.k_seqC, OE.s_next, OE.s_ret, OE.k_ret, OE.s_set, OE.k_set, OE.s_ite, OE.k_ite, OE.o_rt, OE.o_nx, OE.s_run, OE.s_var, OE.s_const, OE.s_nil, OE.s_cons, OE.k_cons, OE.k_cons2, OE.s_tup, OE.s_lst, OE.k_tup, OE.k_lst, OE.s_bin, OE.k_bin, OE.k_bin2, OE.s_bind, OE.k_ap, OE.s_call, OE.k_apL, OE.s_fn, OE.k_fn, OE.s_test, OE.k_test, OE.s_and, OE.k_and, OE.s_or, OE.k_or, OE.s_not, OE.k_not, OE.s_andV, OE.k_andV, OE.s_orV, OE.k_orV, OE.s_notV, OE.k_notV, OE.s_if, OE.k_if, OE.s_isN, OE.k_isN, OE.s_noN, OE.k_noN, OE.s_chain, OE.k_ch1, OE.k_ch2, OE.k_ch3, OE.s_isi, OE.k_isi, OE.s_part, OE.k_part, OE.s_slice, OE.k_sl1, OE.k_sl2, OE.k_sl3, OE.s_retO, OE.s_slL, OE.s_slT, OE.s_slS, OE.s_seq, OE.k_itmL, OE.k_itmT, OE.k_itmS, OE.s_its, OE.k_its, OE.s_rng1, OE.s_rng2, OE.s_enT, OE.s_enL, OE.s_zipL, OE.s_zipT, OE.s_for, OE.k_for, OE.for_nil, OE.k_go, OE.k_tN, OE.k_tC, OE.k_tB, OE.k_tR, OE.g_name, OE.g_tup, OE.g_cons, OE.k_gs, OE.g_nil, OE.s_asg, OE.k_asg, OE.k_nx, OE.s_par, OE.k_par, OE.s_lc, OE.k_lc, OE.k_lc1, OE.k_lc2, OE.k_some, OE.s_fail, OE.k_fail, OE.s_fail0, OE.s_try, OE.k_unN, OE.k_unR, OE.s_fld, OE.k_fld, OE.f_addI, OE.f_addT, OE.f_addL, OE.f_addS, OE.f_ii, OE.f_i0, OE.f_mulI, OE.f_mulT, OE.f_mulL, OE.f_neg, OE.f_ixL, OE.f_ixT, OE.f_ixS, OE.f_lenL, OE.f_lenT, OE.f_lenS, OE.f_int, OE.f_min, OE.f_max, OE.f_tupL, OE.f_lstT, OE.f_lstL, OE.f_repr, OE.f_cmpS, OE.f_cmpI, OE.f_cmpT, OE.f_cmpL, OE.s_dict, OE.k_dic, OE.f_getM, OE.s_putM, OE.k_put1, OE.k_put2, OE.s_dm, OE.mGet_left, OE.mGet_seed, OE.mGet_cells, OE.mGet_spot, OE.mPut_left, OE.mPut_spot, OE.k_wh, OE.s_star, OE.k_starT, OE.k_starL, OE.k_star2, OE.s_drop, OE.k_drop, OE.s_par3, OE.k_par3, OE.f_lrg1, OE.f_trg1, OE.f_lrg2, OE.f_trg2, OE.f_ixM, OE.f_lenM, OE.f_inT, OE.f_inL, OE.f_inS, OE.s_tryN, OE.c_nil, OE.f_all, OE.f_any, OE.f_sum, OE.s_frz, OE.k_frzS, OE.k_fz, OE.f_frzLs, OE.f_frzT, OE.f_frzI, OE.f_frzN, OE.s_mlst, OE.k_ml, OE.s_meth, OE.k_me, OE.f_app, OE.f_extd, OE.f_sorted, OE.s_lc2, OE.k_lcc, OE.f_isB, OE.s_isi2, OE.k_isi2, OE.s_aug, OE.k_aug, OE.w_int, OE.f_revL, OE.f_revT, OE.s_isx, OE.k_isx, OE.startE, Nat.reduceAdd, Nat.reduceLeDiff, Nat.reduceSub, ha] using h
      · have ha' : isW 1 3 a = false := by simpa using ha
        rw [ha']
        rw [wrong_t0 ha'] at h
        simpa [OE.w_g0, OE.w_gs, OE.w_s0, OE.w_ss, OE.w_some, OE.w_ex, OE.w_lc, OE.w_ln, OE.w_at, OE.w_ta, OE.w_nt, OE.w_nf, OE.w_it, OE.w_if, OE.w_itP, OE.w_ifP, OE.w_ft, OE.w_mc, OE.w_mn, OE.w_rs, OE.w_r0, OE.w_ca, OE.w_na, OE.w_za, OE.w_sb, OE.w_sz, OE.s_then, OE.k_seqN, OE.k_seqR, OE.k_seqB, OE.k_seqC, OE.s_next, OE.s_ret, OE.k_ret, OE.s_set, OE.k_set, OE.s_ite, OE.k_ite, OE.o_rt, OE.o_nx, OE.s_run, OE.s_var, OE.s_const, OE.s_nil, OE.s_cons, OE.k_cons, OE.k_cons2, OE.s_tup, OE.s_lst, OE.k_tup, OE.k_lst, OE.s_bin, OE.k_bin, OE.k_bin2, OE.s_bind, OE.k_ap, OE.s_call, OE.k_apL, OE.s_fn, OE.k_fn, OE.s_test, OE.k_test, OE.s_and, OE.k_and, OE.s_or, OE.k_or, OE.s_not, OE.k_not, OE.s_andV, OE.k_andV, OE.s_orV, OE.k_orV, OE.s_notV, OE.k_notV, OE.s_if, OE.k_if, OE.s_isN, OE.k_isN, OE.s_noN, OE.k_noN, OE.s_chain, OE.k_ch1, OE.k_ch2, OE.k_ch3, OE.s_isi, OE.k_isi, OE.s_part, OE.k_part, OE.s_slice, OE.k_sl1, OE.k_sl2, OE.k_sl3, OE.s_retO, OE.s_slL, OE.s_slT, OE.s_slS, OE.s_seq, OE.k_itmL, OE.k_itmT, OE.k_itmS, OE.s_its, OE.k_its, OE.s_rng1, OE.s_rng2, OE.s_enT, OE.s_enL, OE.s_zipL, OE.s_zipT, OE.s_for, OE.k_for, OE.for_nil, OE.k_go, OE.k_tN, OE.k_tC, OE.k_tB, OE.k_tR, OE.g_name, OE.g_tup, OE.g_cons, OE.k_gs, OE.g_nil, OE.s_asg, OE.k_asg, OE.k_nx, OE.s_par, OE.k_par, OE.s_lc, OE.k_lc, OE.k_lc1, OE.k_lc2, OE.k_some, OE.s_fail, OE.k_fail, OE.s_fail0, OE.s_try, OE.k_unN, OE.k_unR, OE.s_fld, OE.k_fld, OE.f_addI, OE.f_addT, OE.f_addL, OE.f_addS, OE.f_ii, OE.f_i0, OE.f_mulI, OE.f_mulT, OE.f_mulL, OE.f_neg, OE.f_ixL, OE.f_ixT, OE.f_ixS, OE.f_lenL, OE.f_lenT, OE.f_lenS, OE.f_int, OE.f_min, OE.f_max, OE.f_tupL, OE.f_lstT, OE.f_lstL, OE.f_repr, OE.f_cmpS, OE.f_cmpI, OE.f_cmpT, OE.f_cmpL, OE.s_dict, OE.k_dic, OE.f_getM, OE.s_putM, OE.k_put1, OE.k_put2, OE.s_dm, OE.mGet_left, OE.mGet_seed, OE.mGet_cells, OE.mGet_spot, OE.mPut_left, OE.mPut_spot, OE.k_wh, OE.s_star, OE.k_starT, OE.k_starL, OE.k_star2, OE.s_drop, OE.k_drop, OE.s_par3, OE.k_par3, OE.f_lrg1, OE.f_trg1, OE.f_lrg2, OE.f_trg2, OE.f_ixM, OE.f_lenM, OE.f_inT, OE.f_inL, OE.f_inS, OE.s_tryN, OE.c_nil, OE.f_all, OE.f_any, OE.f_sum, OE.s_frz, OE.k_frzS, OE.k_fz, OE.f_frzLs, OE.f_frzT, OE.f_frzI, OE.f_frzN, OE.s_mlst, OE.k_ml, OE.s_meth, OE.k_me, OE.f_app, OE.f_extd, OE.f_sorted, OE.s_lc2, OE.k_lcc, OE.f_isB, OE.s_isi2, OE.k_isi2, OE.s_aug, OE.k_aug, OE.w_int, OE.f_revL, OE.f_revT, OE.s_isx, OE.k_isx, OE.startE, Nat.reduceAdd, Nat.reduceLeDiff, Nat.reduceSub] using h
    · have hw : wrongP (.tup l) = some [] := by
        match l, hl with
        | [], _ => rfl
        | [_], _ => rfl
        | _ :: _ :: _ :: _, _ => rfl
      rw [hw] at h
      have hl' : ¬ ((l.length : Nat) : Int) = 2 := by omega
      simpa [hl', OE.w_g0, OE.w_gs, OE.w_s0, OE.w_ss, OE.w_some, OE.w_ex, OE.w_lc, OE.w_ln, OE.w_at, OE.w_ta, OE.w_nt, OE.w_nf, OE.w_it, OE.w_if, OE.w_itP, OE.w_ifP, OE.w_ft, OE.w_mc, OE.w_mn, OE.w_rs, OE.w_r0, OE.w_ca, OE.w_na, OE.w_za, OE.w_sb, OE.w_sz, OE.s_then, OE.k_seqN, OE.k_seqR, OE.k_seqB, OE.k_seqC, OE.s_next, OE.s_ret, OE.k_ret, OE.s_set, OE.k_set, OE.s_ite, OE.k_ite, OE.o_rt, OE.o_nx, OE.s_run, OE.s_var, OE.s_const, OE.s_nil, OE.s_cons, OE.k_cons, OE.k_cons2, OE.s_tup, OE.s_lst, OE.k_tup, OE.k_lst, OE.s_bin, OE.k_bin, OE.k_bin2, OE.s_bind, OE.k_ap, OE.s_call, OE.k_apL, OE.s_fn, OE.k_fn, OE.s_test, OE.k_test, OE.s_and, OE.k_and, OE.s_or, OE.k_or, OE.s_not, OE.k_not, OE.s_andV, OE.k_andV, OE.s_orV, OE.k_orV, OE.s_notV, OE.k_notV, OE.s_if, OE.k_if, OE.s_isN, OE.k_isN, OE.s_noN, OE.k_noN, OE.s_chain, OE.k_ch1, OE.k_ch2, OE.k_ch3, OE.s_isi, OE.k_isi, OE.s_part, OE.k_part, OE.s_slice, OE.k_sl1, OE.k_sl2, OE.k_sl3, OE.s_retO, OE.s_slL, OE.s_slT, OE.s_slS, OE.s_seq, OE.k_itmL, OE.k_itmT, OE.k_itmS, OE.s_its, OE.k_its, OE.s_rng1, OE.s_rng2, OE.s_enT, OE.s_enL, OE.s_zipL, OE.s_zipT, OE.s_for, OE.k_for, OE.for_nil, OE.k_go, OE.k_tN, OE.k_tC, OE.k_tB, OE.k_tR, OE.g_name, OE.g_tup, OE.g_cons, OE.k_gs, OE.g_nil, OE.s_asg, OE.k_asg, OE.k_nx, OE.s_par, OE.k_par, OE.s_lc, OE.k_lc, OE.k_lc1, OE.k_lc2, OE.k_some, OE.s_fail, OE.k_fail, OE.s_fail0, OE.s_try, OE.k_unN, OE.k_unR, OE.s_fld, OE.k_fld, OE.f_addI, OE.f_addT, OE.f_addL, OE.f_addS, OE.f_ii, OE.f_i0, OE.f_mulI, OE.f_mulT, OE.f_mulL, OE.f_neg, OE.f_ixL, OE.f_ixT, OE.f_ixS, OE.f_lenL, OE.f_lenT, OE.f_lenS, OE.f_int, OE.f_min, OE.f_max, OE.f_tupL, OE.f_lstT, OE.f_lstL, OE.f_repr, OE.f_cmpS, OE.f_cmpI, OE.f_cmpT, OE.f_cmpL, OE.s_dict, OE.k_dic, OE.f_getM, OE.s_putM, OE.k_put1, OE.k_put2, OE.s_dm, OE.mGet_left, OE.mGet_seed, OE.mGet_cells, OE.mGet_spot, OE.mPut_left, OE.mPut_spot, OE.k_wh, OE.s_star, OE.k_starT, OE.k_starL, OE.k_star2, OE.s_drop, OE.k_drop, OE.s_par3, OE.k_par3, OE.f_lrg1, OE.f_trg1, OE.f_lrg2, OE.f_trg2, OE.f_ixM, OE.f_lenM, OE.f_inT, OE.f_inL, OE.f_inS, OE.s_tryN, OE.c_nil, OE.f_all, OE.f_any, OE.f_sum, OE.s_frz, OE.k_frzS, OE.k_fz, OE.f_frzLs, OE.f_frzT, OE.f_frzI, OE.f_frzN, OE.s_mlst, OE.k_ml, OE.s_meth, OE.k_me, OE.f_app, OE.f_extd, OE.f_sorted, OE.s_lc2, OE.k_lcc, OE.f_isB, OE.s_isi2, OE.k_isi2, OE.s_aug, OE.k_aug, OE.w_int, OE.f_revL, OE.f_revT, OE.s_isx, OE.k_isx, OE.startE, Nat.reduceAdd, Nat.reduceLeDiff, Nat.reduceSub] using h
  | _ => simpa [isTp, OE.w_g0, OE.w_gs, OE.w_s0, OE.w_ss, OE.w_some, OE.w_ex, OE.w_lc, OE.w_ln, OE.w_at, OE.w_ta, OE.w_nt, OE.w_nf, OE.w_it, OE.w_if, OE.w_itP, OE.w_ifP, OE.w_ft, OE.w_mc, OE.w_mn, OE.w_rs, OE.w_r0, OE.w_ca, OE.w_na, OE.w_za, OE.w_sb, OE.w_sz, OE.s_then, OE.k_seqN, OE.k_seqR, OE.k_seqB, OE.k_seqC, OE.s_next, OE.s_ret, OE.k_ret, OE.s_set, OE.k_set, OE.s_ite, OE.k_ite, OE.o_rt, OE.o_nx, OE.s_run, OE.s_var, OE.s_const, OE.s_nil, OE.s_cons, OE.k_cons, OE.k_cons2, OE.s_tup, OE.s_lst, OE.k_tup, OE.k_lst, OE.s_bin, OE.k_bin, OE.k_bin2, OE.s_bind, OE.k_ap, OE.s_call, OE.k_apL, OE.s_fn, OE.k_fn, OE.s_test, OE.k_test, OE.s_and, OE.k_and, OE.s_or, OE.k_or, OE.s_not, OE.k_not, OE.s_andV, OE.k_andV, OE.s_orV, OE.k_orV, OE.s_notV, OE.k_notV, OE.s_if, OE.k_if, OE.s_isN, OE.k_isN, OE.s_noN, OE.k_noN, OE.s_chain, OE.k_ch1, OE.k_ch2, OE.k_ch3, OE.s_isi, OE.k_isi, OE.s_part, OE.k_part, OE.s_slice, OE.k_sl1, OE.k_sl2, OE.k_sl3, OE.s_retO, OE.s_slL, OE.s_slT, OE.s_slS, OE.s_seq, OE.k_itmL, OE.k_itmT, OE.k_itmS, OE.s_its, OE.k_its, OE.s_rng1, OE.s_rng2, OE.s_enT, OE.s_enL, OE.s_zipL, OE.s_zipT, OE.s_for, OE.k_for, OE.for_nil, OE.k_go, OE.k_tN, OE.k_tC, OE.k_tB, OE.k_tR, OE.g_name, OE.g_tup, OE.g_cons, OE.k_gs, OE.g_nil, OE.s_asg, OE.k_asg, OE.k_nx, OE.s_par, OE.k_par, OE.s_lc, OE.k_lc, OE.k_lc1, OE.k_lc2, OE.k_some, OE.s_fail, OE.k_fail, OE.s_fail0, OE.s_try, OE.k_unN, OE.k_unR, OE.s_fld, OE.k_fld, OE.f_addI, OE.f_addT, OE.f_addL, OE.f_addS, OE.f_ii, OE.f_i0, OE.f_mulI, OE.f_mulT, OE.f_mulL, OE.f_neg, OE.f_ixL, OE.f_ixT, OE.f_ixS, OE.f_lenL, OE.f_lenT, OE.f_lenS, OE.f_int, OE.f_min, OE.f_max, OE.f_tupL, OE.f_lstT, OE.f_lstL, OE.f_repr, OE.f_cmpS, OE.f_cmpI, OE.f_cmpT, OE.f_cmpL, OE.s_dict, OE.k_dic, OE.f_getM, OE.s_putM, OE.k_put1, OE.k_put2, OE.s_dm, OE.mGet_left, OE.mGet_seed, OE.mGet_cells, OE.mGet_spot, OE.mPut_left, OE.mPut_spot, OE.k_wh, OE.s_star, OE.k_starT, OE.k_starL, OE.k_star2, OE.s_drop, OE.k_drop, OE.s_par3, OE.k_par3, OE.f_lrg1, OE.f_trg1, OE.f_lrg2, OE.f_trg2, OE.f_ixM, OE.f_lenM, OE.f_inT, OE.f_inL, OE.f_inS, OE.s_tryN, OE.c_nil, OE.f_all, OE.f_any, OE.f_sum, OE.s_frz, OE.k_frzS, OE.k_fz, OE.f_frzLs, OE.f_frzT, OE.f_frzI, OE.f_frzN, OE.s_mlst, OE.k_ml, OE.s_meth, OE.k_me, OE.f_app, OE.f_extd, OE.f_sorted, OE.s_lc2, OE.k_lcc, OE.f_isB, OE.s_isi2, OE.k_isi2, OE.s_aug, OE.k_aug, OE.w_int, OE.f_revL, OE.f_revT, OE.s_isx, OE.k_isx, OE.startE, Nat.reduceAdd, Nat.reduceLeDiff, Nat.reduceSub, wrongP] using h
/-! plans -/
def planD (h : Int) (gs : List Int) : D := .tup [.int h, .tup (gs.map D.int)]
structure PlanOk (h : Int) (gs : List Int) : Prop where
  h1 : 1 ≤ h
  h3 : h ≤ 3
  l1 : 1 ≤ gs.length
  l8 : gs.length ≤ 8
  g : ∀ z ∈ gs, 1 ≤ z ∧ z ≤ 1000000000000000000000000000000
theorem plain_ints : ∀ l : List Int, D.plainAll (l.map D.int) = true
  | [] => rfl
  | _ :: l => by rw [List.map_cons, D.plainAll, plain_ints l]; rfl
theorem plain_plan (h : Int) (gs : List Int) : (planD h gs).plain = true := by
  simp [planD, D.plain, D.plainAll, plain_ints]
theorem badAt_ints : ∀ {gs : List Int} {i : Nat}, (∀ z ∈ gs, 1 ≤ z ∧ z ≤ 1000000000000000000000000000000) → badAt i (gs.map D.int) = none
  | [], _, _ => rfl
  | g :: gs, i, h => by
    rw [List.map_cons, badAt, if_pos ?_]
    · exact badAt_ints fun z hz => h z (List.mem_cons_of_mem _ hz)
    · have := h g List.mem_cons_self
      simp -implicitDefEqProofs only [isW, Bool.and_eq_true, decide_eq_true_eq]
      exact this
theorem wrongP_plan {h : Int} {gs : List Int} (ok : PlanOk h gs) : wrongP (planD h gs) = none := by
  unfold planD
  rw [wrong_tt, if_pos, if_pos, badAt_ints ok.g]
  · rfl
  · rw [List.length_map]; exact ⟨ok.l1, ok.l8⟩
  · simp -implicitDefEqProofs only [isW, Bool.and_eq_true, decide_eq_true_eq]; exact ⟨ok.h1, ok.h3⟩
theorem sp_needOk {h : Int} {gs : List Int} (ok : PlanOk h gs) (hq : q (planD h gs) n) : F_need_plan Γ [planD h gs] n q x := sp_need (plain_plan h gs) (by rw [wrongP_plan ok]; exact hq)
/-! sums -/
theorem ipow_le {a b : Nat} (h : a ≤ b) : (2 : Int) ^ a ≤ 2 ^ b := by
  have e : ∀ k : Nat, (2 : Int) ^ k = ((2 ^ k : Nat) : Int) := fun k => by simp
  rw [e, e]
  exact Int.ofNat_le.mpr (Nat.pow_le_pow_right (by decide) h)
theorem lg_lt {i : Int} {N : Nat} (hN : 0 < N) (h0 : 0 ≤ i) (h : i < 2 ^ N) : i.natAbs.log2 < N := by
  by_cases z : i.natAbs = 0
  · rw [z]; simpa using hN
  · refine (Nat.log2_lt z).mpr ?_
    have : ((i.natAbs : Nat) : Int) < ((2 ^ N : Nat) : Int) := by
      rw [Int.natAbs_of_nonneg h0]
      simpa using h
    exact Int.ofNat_lt.mp this
theorem sp_common {a b : Int} (ha : 0 ≤ a) (hb : 0 ≤ b) (h : q (.int (Int.gcd a b)) n) : F_common Γ [.int a, .int b] n q x := by
  wp_walk using t_common_3, t_common_2, t_common, F_common
  refine wh_inv (I := fun m ρ s => s = n ∧ ∃ a' b' : Int, ρ = [some (.int a'), some (.int b')] ∧ 0 ≤ a' ∧ 0 ≤ b' ∧ m = b'.toNat ∧ Int.gcd a' b' = Int.gcd a b) ?_ _ _ _ ⟨rfl, a, b, rfl, ha, hb, rfl, rfl⟩
  rintro m ρ s k ⟨rfl, a', b', rfl, ha', hb', rfl, e⟩ k1 k2
  wp_walk
  by_cases c : 0 < b'
  · wp_walk using c, decide_true
    refine ⟨by omega, k1 (a'.fmod b').toNat _ _ ?_ ⟨rfl, b', a'.fmod b', rfl, hb', ?_, rfl, ?_⟩⟩
    · have := fmod_lt (i := a') c; omega
    · exact (fmod_lt c).1
    · rw [Int.fmod_eq_emod_of_nonneg _ hb', ← e]
      obtain ⟨A, rfl⟩ := Int.eq_ofNat_of_zero_le ha'
      obtain ⟨B, rfl⟩ := Int.eq_ofNat_of_zero_le hb'
      show Nat.gcd B (A % B) = Nat.gcd A B
      rw [Nat.gcd_comm B, ← Nat.gcd_rec, Nat.gcd_comm]
  · have e0 : b' = 0 := by omega
    subst e0
    have e' : a' = ((Int.gcd a b : Nat) : Int) := by
      rw [← e]
      obtain ⟨A, rfl⟩ := Int.eq_ofNat_of_zero_le ha'
      show ((A : Nat) : Int) = ((Nat.gcd A 0 : Nat) : Int)
      rw [Nat.gcd_zero_right]
    wp_walk using Int.lt_irrefl, decide_false
    rw [e']
    exact h
def fracI (a b : Int) : Int × Int := (a / (Int.gcd a b : Nat), b / (Int.gcd a b : Nat))
def shD (p : Int × Int) : D := .tup [.int p.1, .int p.2]
theorem gcd_pos {a b : Int} (hb : 1 ≤ b) : 0 < Int.gcd a b := Nat.pos_of_ne_zero fun z => by
  have := (Int.gcd_eq_zero_iff.mp z).2; omega
theorem gcd_lt {a b : Int} {N : Nat} (hb : 1 ≤ b) (h : b < 2 ^ N) : ((Int.gcd a b : Nat) : Int) < 2 ^ N := by
  have z : ((Int.gcd a b : Nat) : Int) ∣ b := Int.gcd_dvd_right ..
  have := Int.le_of_dvd (by omega) z
  omega
theorem sp_fraction {a b : Int} (ha : 0 ≤ a) (hb : 1 ≤ b) (h2 : b < 2 ^ 8000) (h : q (shD (fracI a b)) n) : F_fraction Γ [.int a, .int b] n q x := by
  wp_walk using t_fraction_2, t_fraction, F_fraction
  refine sp_common ha (by omega) ?_
  wp_walk
  have g0 : 0 < Int.gcd a b := gcd_pos hb
  have g1 := lg_lt (i := ((Int.gcd a b : Nat) : Int)) (N := 8000) (by decide) (by omega) (gcd_lt hb h2)
  exact ⟨⟨by omega, by omega⟩, ⟨by omega, by omega⟩, h⟩
def sumStep (p : Int × Int) (g : Int) : Int × Int := fracI (p.1 * g + p.2) (p.2 * g)
def sumI (gs : List Int) : Int × Int := gs.foldl sumStep (0, 1)
theorem cmulw {a b : Int} {N M : Nat} (hN : 0 < N) (hM : 0 < M) (ha : 0 ≤ a) (hb : 0 ≤ b) (h1 : a < 2 ^ N) (h2 : b < 2 ^ M) (h : N + M ≤ 1000000) : CMulA a b := .inr (by
  have := lg_lt hN ha h1
  have := lg_lt hM hb h2
  show _ + _ < 1000000
  omega)
theorem pow_step {k : Nat} : (2 : Int) ^ (200 * k) * 2 ^ 100 + 2 ^ (200 * k) ≤ 2 ^ (200 * (k + 1)) := by
  have e : 200 * (k + 1) = 200 * k + 200 := by omega
  rw [e, Int.pow_add]
  have h : (0 : Int) < 2 ^ (200 * k) := Int.pow_pos (by decide)
  have h2 : (2 : Int) ^ (200 * k) * 2 ^ 100 + 2 ^ (200 * k) = 2 ^ (200 * k) * (2 ^ 100 + 1) := by rw [Int.mul_add, Int.mul_one]
  rw [h2]
  exact Int.mul_le_mul_of_nonneg_left (by decide) (by omega)
structure SumOk (k : Nat) (p : Int × Int) : Prop where
  a0 : 0 ≤ p.1
  b1 : 1 ≤ p.2
  a2 : p.1 < 2 ^ (200 * k)
  b2 : p.2 < 2 ^ (200 * k)
theorem mul_lt_pow {a g : Int} {N : Nat} (h0 : 0 ≤ a) (h : a < 2 ^ N) (g0 : 0 ≤ g) (g1 : g ≤ 2 ^ 100) : a * g ≤ 2 ^ N * 2 ^ 100 :=
  Int.le_trans (Int.mul_le_mul_of_nonneg_left g1 h0) (Int.mul_le_mul_of_nonneg_right (by omega) (by decide))
theorem div_gcd {a b : Int} (ha : 0 ≤ a) (hb : 1 ≤ b) : 0 ≤ (fracI a b).1 ∧ (fracI a b).1 ≤ a ∧ 1 ≤ (fracI a b).2 ∧ (fracI a b).2 ≤ b := by
  have g0 := gcd_pos (a := a) hb
  unfold fracI
  have z : ((Int.gcd a b : Nat) : Int) ∣ b := Int.gcd_dvd_right ..
  have hle := Int.le_of_dvd (by omega) z
  refine ⟨Int.ediv_nonneg ha (by omega), Int.ediv_le_self _ ha, ?_, Int.ediv_le_self _ (by omega)⟩
  exact (Int.le_ediv_iff_mul_le (by omega)).mpr (by omega)
theorem SumOk.step {k : Nat} {p : Int × Int} {g : Int} (h : SumOk k p) (g1 : 1 ≤ g) (g2 : g ≤ 1000000000000000000000000000000) : SumOk (k + 1) (sumStep p g) ∧ 0 ≤ p.1 * g + p.2 ∧ 1 ≤ p.2 * g ∧ p.1 * g + p.2 < 2 ^ (200 * (k + 1)) ∧ p.2 * g < 2 ^ (200 * (k + 1)) := by
  have hg : g ≤ 2 ^ 100 := Int.le_trans g2 (by decide)
  have m1 := mul_lt_pow h.a0 h.a2 (by omega) hg
  have m2 := mul_lt_pow (by have := h.b1; omega) h.b2 (by omega) hg
  have ps := pow_step (k := k)
  have pp : (0 : Int) < 2 ^ (200 * k) := Int.pow_pos (by decide)
  have n1 : 0 ≤ p.1 * g := Int.mul_nonneg h.a0 (by omega)
  have n2 : 1 ≤ p.2 * g := by
    have : p.2 * 1 ≤ p.2 * g := Int.mul_le_mul_of_nonneg_left g1 (by have := h.b1; omega)
    have := h.b1
    omega
  have hb := h.b2
  have hb1 := h.b1
  have A : p.1 * g + p.2 < 2 ^ (200 * (k + 1)) := by omega
  have B : p.2 * g < 2 ^ (200 * (k + 1)) := by omega
  obtain ⟨d1, d2, d3, d4⟩ := div_gcd (a := p.1 * g + p.2) (b := p.2 * g) (by omega) n2
  exact ⟨⟨d1, d3, Int.lt_of_le_of_lt d2 A, Int.lt_of_le_of_lt d4 B⟩, by omega, n2, A, B⟩
theorem SumOk.start : SumOk 1 (0, 1) := ⟨by decide, by decide, by decide, by decide⟩
/-- a list or tuple of ints, walked by sum_of -/
def IsSeq (d : D) (l : List D) : Prop := d = .tup l ∨ d = .lst l
theorem itm_seq {d : D} {l : List D} {ql : List D → S → Prop} (h : IsSeq d l) : kItm ql x d n = ql l n := by
  rcases h with h | h <;> rw [h] <;> rfl
def tSumG (Fr : List D → Wp D) : Ev → Wp Out :=
  tthen (tasg (ttup (tcons (tconst (.int 0)) (tcons (tconst (.int 1)) (tnil)))) (gtup 2 (gcons (gname 1) (gcons (gname 2) (gnil)))))
  (tthen (tfor (tseq (tvar 0)) (gname 3) (tasg (tfn 2 Fr (tcons (tbin fAdd (tbin fMul (tvar 1) (tvar 3)) (tvar 2)) (tcons (tbin fMul (tvar 2) (tvar 3)) (tnil)))) (gtup 2 (gcons (gname 1) (gcons (gname 2) (gnil))))))
  (tret (ttup (tcons (tvar 1) (tcons (tvar 2) (tnil))))))
theorem sp_sumG {Fr : List D → Wp D} (hFr : ∀ {a b : Int} {n : S} {q : D → S → Prop} {x : Exn → S → Prop}, 0 ≤ a → 1 ≤ b → b < 2 ^ 8000 → q (shD (fracI a b)) n → Fr [.int a, .int b] n q x)
    {d : D} {gs : List Int} (hd : IsSeq d (gs.map D.int)) (hg : ∀ z ∈ gs, 1 ≤ z ∧ z ≤ 1000000000000000000000000000000) (hl : gs.length ≤ 30) (h : q (shD (sumI gs)) n) : runDef 4 (tSumG Fr) [d] n q x := by
  wp_walk using tSumG, itm_seq hd
  refine for_inv (I := fun ds ρ m => m = n ∧ ∃ (p : Int × Int) (l : List Int) (o : Option D), ds = l.map D.int ∧ ρ = [some d, some (.int p.1), some (.int p.2), o] ∧ l.foldl sumStep p = sumI gs ∧ (∀ z ∈ l, 1 ≤ z ∧ z ≤ 1000000000000000000000000000000) ∧ l.length ≤ 30 ∧ SumOk (31 - l.length) p) ?_ ?_ _ _ _ ⟨rfl, (0, 1), gs, none, rfl, rfl, rfl, hg, hl, ?_⟩
  · rintro d' ds ρ m k ⟨rfl, p, l, o, e, rfl, e2, hg', hl', so⟩ k1 k2
    cases l with
    | nil => cases e
    | cons g l =>
      cases e
      obtain ⟨g1, g2⟩ := hg' g List.mem_cons_self
      rw [List.length_cons] at hl' so
      obtain ⟨s1, s2, s3, s4, s5⟩ := so.step g1 g2
      have ek : 31 - (l.length + 1) + 1 = 31 - l.length := by omega
      rw [ek] at s1 s4 s5
      have lim : ∀ {z : Int}, z < 2 ^ (200 * (31 - l.length)) → z < 2 ^ 8000 := fun {z} hz => Int.lt_of_lt_of_le hz (ipow_le (by omega))
      have a0 := so.a0
      have b1 := so.b1
      have c1 : CMulA p.1 g := cmulw (N := 200 * (31 - (l.length + 1))) (M := 100) (by omega) (by decide) a0 (by omega) so.a2 (Int.lt_of_le_of_lt g2 (by decide)) (by omega)
      have c2 : CMulA p.2 g := cmulw (N := 200 * (31 - (l.length + 1))) (M := 100) (by omega) (by decide) (by omega) (by omega) so.b2 (Int.lt_of_le_of_lt g2 (by decide)) (by omega)
      wp_walk
      refine ⟨c1, c2, hFr s2 s3 (lim s5) ?_⟩
      wp_walk using shD
      refine k1 _ _ ⟨rfl, sumStep p g, l, _, rfl, rfl, e2, fun z hz => hg' z (List.mem_cons_of_mem _ hz), by omega, s1⟩
  · rintro ρ m ⟨rfl, p, l, o, e, rfl, e2, hg', hl', so⟩
    cases l with
    | cons g l => cases e
    | nil =>
      wp_walk
      have e2' : p = sumI gs := e2
      rw [e2']
      exact h
  · have s := SumOk.start
    refine ⟨s.a0, s.b1, Int.lt_of_lt_of_le s.a2 (ipow_le (by omega)), Int.lt_of_lt_of_le s.b2 (ipow_le (by omega))⟩
theorem sp_sum_of {d : D} {gs : List Int} (hd : IsSeq d (gs.map D.int)) (hg : ∀ z ∈ gs, 1 ≤ z ∧ z ≤ 1000000000000000000000000000000) (hl : gs.length ≤ 30) (h : q (shD (sumI gs)) n) : F_sum_of Γ [d] n q x := sp_sumG (fun a b c d => sp_fraction a b c d) hd hg hl h
theorem sp_share_of {h : Int} {gs : List Int} (ok : PlanOk h gs) (hq : q (shD (sumI gs)) n) : F_share_of Γ [planD h gs] n q x := by
  wp_walk using t_share_of, F_share_of
  refine sp_needOk ok ?_
  wp_walk using planD, at1
  refine sp_sum_of (.inl rfl) ok.g (by have := ok.l8; omega) ?_
  wp_walk
  exact hq
def prodI (gs : List Int) : Int := gs.foldl (· * ·) 1
def tProd (ti : Ev → Wp (List D)) : Ev → Wp Out :=
  tthen (tset 1 (tconst (.int 1)))
  (tthen (tfor ti (gname 2) (tset 1 (tbin fMul (tvar 1) (tvar 2))))
  (tret (tvar 1)))
theorem sp_prodG {ti : Ev → Wp (List D)} {d : D} {gs : List Int} (hi : ∀ {ql : List D → S → Prop}, ti [some d, some (.int 1), none] n ql x = ql (gs.map D.int) n) (hg : ∀ z ∈ gs, 1 ≤ z ∧ z ≤ 1000000000000000000000000000000) (hl : gs.length ≤ 30) (hq : q (.int (prodI gs)) n) : runDef 3 (tProd ti) [d] n q x := by
  wp_walk using tProd, hi
  refine for_inv (I := fun ds ρ m => m = n ∧ ∃ (p : Int) (l : List Int) (o : Option D), ds = l.map D.int ∧ ρ = [some d, some (.int p), o] ∧ l.foldl (· * ·) p = prodI gs ∧ (∀ z ∈ l, 1 ≤ z ∧ z ≤ 1000000000000000000000000000000) ∧ l.length ≤ 30 ∧ 1 ≤ p ∧ p < 2 ^ (200 * (31 - l.length))) ?_ ?_ _ _ _ ⟨rfl, 1, gs, none, rfl, rfl, rfl, hg, hl, by decide, ?_⟩
  · rintro d' ds ρ m k ⟨rfl, p, l, o, e, rfl, e2, hg', hl', p1, p2⟩ k1 k2
    cases l with
    | nil => cases e
    | cons g l =>
      cases e
      obtain ⟨g1, g2⟩ := hg' g List.mem_cons_self
      rw [List.length_cons] at hl' p2
      have c1 : CMulA p g := cmulw (N := 200 * (31 - (l.length + 1))) (M := 100) (by omega) (by decide) (by omega) (by omega) p2 (Int.lt_of_le_of_lt g2 (by decide)) (by omega)
      have m1 := mul_lt_pow (by omega) p2 (by omega) (Int.le_trans g2 (by decide))
      have ps := pow_step (k := 31 - (l.length + 1))
      have pp : (0 : Int) < 2 ^ (200 * (31 - (l.length + 1))) := Int.pow_pos (by decide)
      have ek : 31 - (l.length + 1) + 1 = 31 - l.length := by omega
      rw [ek] at ps
      have n2 : 1 ≤ p * g := by
        have : p * 1 ≤ p * g := Int.mul_le_mul_of_nonneg_left g1 (by omega)
        omega
      wp_walk
      exact ⟨c1, k1 _ _ ⟨rfl, p * g, l, _, rfl, rfl, e2, fun z hz => hg' z (List.mem_cons_of_mem _ hz), by omega, n2, by omega⟩⟩
  · rintro ρ m ⟨rfl, p, l, o, e, rfl, e2, hg', hl', p1, p2⟩
    cases l with
    | cons g l => cases e
    | nil =>
      wp_walk
      have e2' : p = prodI gs := e2
      rw [e2']
      exact hq
  · exact Int.lt_of_lt_of_le (b := 2 ^ 1) (by decide) (ipow_le (by omega))
theorem sp_count_of {h : Int} {gs : List Int} (ok : PlanOk h gs) (hq : q (.int (prodI gs)) n) : F_count_of Γ [planD h gs] n q x :=
  sp_prodG (ti := tseq (tbin fIx (tvar 0) (tconst (.int 1)))) (fun {ql} => by wp_walk using planD, at1) ok.g (by have := ok.l8; omega) hq
theorem sp_how_many {h : Int} {gs : List Int} (ok : PlanOk h gs) (hq : q (.int (prodI gs)) n) : F_how_many Γ [planD h gs] n q x := by
  wp_walk using t_how_many, F_how_many
  refine sp_needOk ok ?_
  wp_walk
  exact sp_count_of ok (by wp_walk; exact hq)
theorem sp_need_thing {h : Int} {gs : List Int} {d : D} (he : d.isE = false) (hq : if isW 0 ((gs.length : Nat) - 1) d = true then q .non n else x ⟨"BadNumber", some d⟩ n) : F_need_thing Γ [planD h gs, d] n q x := by
  wp_walk using F_need_thing, t_need_thing, planD, at1, List.length_map
  refine sp_is_whole he ?_
  wp_walk
  cases e : isW 0 ((gs.length : Nat) - 1) d with
  | true => rw [e, if_pos rfl] at hq; simpa [OE.w_g0, OE.w_gs, OE.w_s0, OE.w_ss, OE.w_some, OE.w_ex, OE.w_lc, OE.w_ln, OE.w_at, OE.w_ta, OE.w_nt, OE.w_nf, OE.w_it, OE.w_if, OE.w_itP, OE.w_ifP, OE.w_ft, OE.w_mc, OE.w_mn, OE.w_rs, OE.w_r0, OE.w_ca, OE.w_na, OE.w_za, OE.w_sb, OE.w_sz, OE.s_then, OE.k_seqN, OE.k_seqR, OE.k_seqB, OE.k_seqC, OE.s_next, OE.s_ret, OE.k_ret, OE.s_set, OE.k_set, OE.s_ite, OE.k_ite, OE.o_rt, OE.o_nx, OE.s_run, OE.s_var, OE.s_const, OE.s_nil, OE.s_cons, OE.k_cons, OE.k_cons2, OE.s_tup, OE.s_lst, OE.k_tup, OE.k_lst, OE.s_bin, OE.k_bin, OE.k_bin2, OE.s_bind, OE.k_ap, OE.s_call, OE.k_apL, OE.s_fn, OE.k_fn, OE.s_test, OE.k_test, OE.s_and, OE.k_and, OE.s_or, OE.k_or, OE.s_not, OE.k_not, OE.s_andV, OE.k_andV, OE.s_orV, OE.k_orV, OE.s_notV, OE.k_notV, OE.s_if, OE.k_if, OE.s_isN, OE.k_isN, OE.s_noN, OE.k_noN, OE.s_chain, OE.k_ch1, OE.k_ch2, OE.k_ch3, OE.s_isi, OE.k_isi, OE.s_part, OE.k_part, OE.s_slice, OE.k_sl1, OE.k_sl2, OE.k_sl3, OE.s_retO, OE.s_slL, OE.s_slT, OE.s_slS, OE.s_seq, OE.k_itmL, OE.k_itmT, OE.k_itmS, OE.s_its, OE.k_its, OE.s_rng1, OE.s_rng2, OE.s_enT, OE.s_enL, OE.s_zipL, OE.s_zipT, OE.s_for, OE.k_for, OE.for_nil, OE.k_go, OE.k_tN, OE.k_tC, OE.k_tB, OE.k_tR, OE.g_name, OE.g_tup, OE.g_cons, OE.k_gs, OE.g_nil, OE.s_asg, OE.k_asg, OE.k_nx, OE.s_par, OE.k_par, OE.s_lc, OE.k_lc, OE.k_lc1, OE.k_lc2, OE.k_some, OE.s_fail, OE.k_fail, OE.s_fail0, OE.s_try, OE.k_unN, OE.k_unR, OE.s_fld, OE.k_fld, OE.f_addI, OE.f_addT, OE.f_addL, OE.f_addS, OE.f_ii, OE.f_i0, OE.f_mulI, OE.f_mulT, OE.f_mulL, OE.f_neg, OE.f_ixL, OE.f_ixT, OE.f_ixS, OE.f_lenL, OE.f_lenT, OE.f_lenS, OE.f_int, OE.f_min, OE.f_max, OE.f_tupL, OE.f_lstT, OE.f_lstL, OE.f_repr, OE.f_cmpS, OE.f_cmpI, OE.f_cmpT, OE.f_cmpL, OE.s_dict, OE.k_dic, OE.f_getM, OE.s_putM, OE.k_put1, OE.k_put2, OE.s_dm, OE.mGet_left, OE.mGet_seed, OE.mGet_cells, OE.mGet_spot, OE.mPut_left, OE.mPut_spot, OE.k_wh, OE.s_star, OE.k_starT, OE.k_starL, OE.k_star2, OE.s_drop, OE.k_drop, OE.s_par3, OE.k_par3, OE.f_lrg1, OE.f_trg1, OE.f_lrg2, OE.f_trg2, OE.f_ixM, OE.f_lenM, OE.f_inT, OE.f_inL, OE.f_inS, OE.s_tryN, OE.c_nil, OE.f_all, OE.f_any, OE.f_sum, OE.s_frz, OE.k_frzS, OE.k_fz, OE.f_frzLs, OE.f_frzT, OE.f_frzI, OE.f_frzN, OE.s_mlst, OE.k_ml, OE.s_meth, OE.k_me, OE.f_app, OE.f_extd, OE.f_sorted, OE.s_lc2, OE.k_lcc, OE.f_isB, OE.s_isi2, OE.k_isi2, OE.s_aug, OE.k_aug, OE.w_int, OE.f_revL, OE.f_revT, OE.s_isx, OE.k_isx, OE.startE, Nat.reduceAdd, Nat.reduceLeDiff, Nat.reduceSub] using hq
  | false => rw [e, if_neg Bool.false_ne_true] at hq; simpa [OE.w_g0, OE.w_gs, OE.w_s0, OE.w_ss, OE.w_some, OE.w_ex, OE.w_lc, OE.w_ln, OE.w_at, OE.w_ta, OE.w_nt, OE.w_nf, OE.w_it, OE.w_if, OE.w_itP, OE.w_ifP, OE.w_ft, OE.w_mc, OE.w_mn, OE.w_rs, OE.w_r0, OE.w_ca, OE.w_na, OE.w_za, OE.w_sb, OE.w_sz, OE.s_then, OE.k_seqN, OE.k_seqR, OE.k_seqB, OE.k_seqC, OE.s_next, OE.s_ret, OE.k_ret, OE.s_set, OE.k_set, OE.s_ite, OE.k_ite, OE.o_rt, OE.o_nx, OE.s_run, OE.s_var, OE.s_const, OE.s_nil, OE.s_cons, OE.k_cons, OE.k_cons2, OE.s_tup, OE.s_lst, OE.k_tup, OE.k_lst, OE.s_bin, OE.k_bin, OE.k_bin2, OE.s_bind, OE.k_ap, OE.s_call, OE.k_apL, OE.s_fn, OE.k_fn, OE.s_test, OE.k_test, OE.s_and, OE.k_and, OE.s_or, OE.k_or, OE.s_not, OE.k_not, OE.s_andV, OE.k_andV, OE.s_orV, OE.k_orV, OE.s_notV, OE.k_notV, OE.s_if, OE.k_if, OE.s_isN, OE.k_isN, OE.s_noN, OE.k_noN, OE.s_chain, OE.k_ch1, OE.k_ch2, OE.k_ch3, OE.s_isi, OE.k_isi, OE.s_part, OE.k_part, OE.s_slice, OE.k_sl1, OE.k_sl2, OE.k_sl3, OE.s_retO, OE.s_slL, OE.s_slT, OE.s_slS, OE.s_seq, OE.k_itmL, OE.k_itmT, OE.k_itmS, OE.s_its, OE.k_its, OE.s_rng1, OE.s_rng2, OE.s_enT, OE.s_enL, OE.s_zipL, OE.s_zipT, OE.s_for, OE.k_for, OE.for_nil, OE.k_go, OE.k_tN, OE.k_tC, OE.k_tB, OE.k_tR, OE.g_name, OE.g_tup, OE.g_cons, OE.k_gs, OE.g_nil, OE.s_asg, OE.k_asg, OE.k_nx, OE.s_par, OE.k_par, OE.s_lc, OE.k_lc, OE.k_lc1, OE.k_lc2, OE.k_some, OE.s_fail, OE.k_fail, OE.s_fail0, OE.s_try, OE.k_unN, OE.k_unR, OE.s_fld, OE.k_fld, OE.f_addI, OE.f_addT, OE.f_addL, OE.f_addS, OE.f_ii, OE.f_i0, OE.f_mulI, OE.f_mulT, OE.f_mulL, OE.f_neg, OE.f_ixL, OE.f_ixT, OE.f_ixS, OE.f_lenL, OE.f_lenT, OE.f_lenS, OE.f_int, OE.f_min, OE.f_max, OE.f_tupL, OE.f_lstT, OE.f_lstL, OE.f_repr, OE.f_cmpS, OE.f_cmpI, OE.f_cmpT, OE.f_cmpL, OE.s_dict, OE.k_dic, OE.f_getM, OE.s_putM, OE.k_put1, OE.k_put2, OE.s_dm, OE.mGet_left, OE.mGet_seed, OE.mGet_cells, OE.mGet_spot, OE.mPut_left, OE.mPut_spot, OE.k_wh, OE.s_star, OE.k_starT, OE.k_starL, OE.k_star2, OE.s_drop, OE.k_drop, OE.s_par3, OE.k_par3, OE.f_lrg1, OE.f_trg1, OE.f_lrg2, OE.f_trg2, OE.f_ixM, OE.f_lenM, OE.f_inT, OE.f_inL, OE.f_inS, OE.s_tryN, OE.c_nil, OE.f_all, OE.f_any, OE.f_sum, OE.s_frz, OE.k_frzS, OE.k_fz, OE.f_frzLs, OE.f_frzT, OE.f_frzI, OE.f_frzN, OE.s_mlst, OE.k_ml, OE.s_meth, OE.k_me, OE.f_app, OE.f_extd, OE.f_sorted, OE.s_lc2, OE.k_lcc, OE.f_isB, OE.s_isi2, OE.k_isi2, OE.s_aug, OE.k_aug, OE.w_int, OE.f_revL, OE.f_revT, OE.s_isx, OE.k_isx, OE.startE, Nat.reduceAdd, Nat.reduceLeDiff, Nat.reduceSub] using hq
theorem six {m d : Nat} {i : Int} (h0 : 0 ≤ i) (h1 : i ≤ (m : Nat)) : HT.sIx m d (some i) = i.toNat := by
  show (if i < 0 then (i + (m : Int)).toNat else min i.toNat m) = i.toNat
  rw [if_neg (by omega)]
  omega
theorem cut_take {α : Type} {l : List α} {i : Int} (h0 : 0 ≤ i) (h1 : i ≤ (l.length : Nat)) : cut l none (some i) = l.take i.toNat := by
  unfold cut
  rw [six h0 h1, HT.sIx_none, List.drop_zero, Nat.sub_zero]
theorem cut_drop {α : Type} {l : List α} {i : Int} (h0 : 0 ≤ i) (h1 : i ≤ (l.length : Nat)) : cut l (some i) none = l.drop i.toNat := by
  unfold cut
  rw [six h0 h1, HT.sIx_none, List.take_of_length_le]
  rw [List.length_drop]
  exact Nat.le_refl _
theorem isW_some {lo hi : Int} {d : D} (h : isW lo hi d = true) : ∃ i, d = .int i ∧ lo ≤ i ∧ i ≤ hi := by
  cases d with
  | int i =>
    simp -implicitDefEqProofs only [isW, Bool.and_eq_true, decide_eq_true_eq] at h
    exact ⟨i, rfl, h⟩
  | _ => cases h
def putD (l : List D) (i : Nat) (d : D) : List D := l.take i ++ d :: l.drop (i + 1)
def dropD (l : List D) (i : Nat) : List D := l.take i ++ l.drop (i + 1)
theorem sp_gap_put {a : D} {l : List D} {i : Int} {d : D} (h0 : 0 ≤ i) (h1 : i < (l.length : Nat)) (hl : l.length ≤ 1000) (hq : q (.tup [a, .tup (putD l i.toNat d)]) n) : F_gap_put Γ [.tup [a, .tup l], .int i, d] n q x := by
  wp_walk using t_gap_put, F_gap_put, at0, at1
  rw [cut_take h0 (by omega), cut_drop (by omega) (by omega)]
  have e : (i + 1).toNat = i.toNat + 1 := by omega
  rw [e, List.append_nil]
  exact ⟨by simp [List.length_take, List.length_drop]; omega, hq⟩
theorem sp_thing_left {a : D} {l : List D} {i : Int} (h0 : 0 ≤ i) (h1 : i < (l.length : Nat)) (hl : l.length ≤ 1000) (hq : q (.tup [a, .tup (dropD l i.toNat)]) n) : F_thing_left Γ [.tup [a, .tup l], .int i] n q x := by
  wp_walk using t_thing_left, F_thing_left, at0, at1
  rw [cut_take h0 (by omega), cut_drop (by omega) (by omega)]
  have e : (i + 1).toNat = i.toNat + 1 := by omega
  rw [e]
  exact ⟨by simp [List.length_take, List.length_drop]; omega, hq⟩
theorem sp_with_gap {h : Int} {gs : List Int} {a b : D} (ok : PlanOk h gs) (ha : a.isE = false) (hb : b.isE = false)
    (hq : if isW 0 ((gs.length : Nat) - 1) a = true then (if isW 1 1000000000000000000000000000000 b = true then ∀ i, a = .int i → q (.tup [.int h, .tup (putD (gs.map D.int) i.toNat b)]) n else x ⟨"BadNumber", some b⟩ n) else x ⟨"BadNumber", some a⟩ n) : F_with_gap Γ [planD h gs, a, b] n q x := by
  wp_walk using t_with_gap_5, t_with_gap_3, t_with_gap_2, t_with_gap, F_with_gap
  refine sp_needOk ok ?_
  wp_walk
  refine sp_need_thing ha ?_
  by_cases c : isW 0 ((gs.length : Nat) - 1) a = true
  · rw [if_pos c] at hq ⊢
    wp_walk
    refine sp_is_whole hb ?_
    obtain ⟨i, rfl, i0, i1⟩ := isW_some c
    by_cases c2 : isW 1 1000000000000000000000000000000 b = true
    · rw [if_pos c2] at hq
      rw [c2]
      wp_walk
      exact sp_gap_put i0 (by rw [List.length_map]; omega) (by rw [List.length_map]; have := ok.l8; omega) (by wp_walk; exact hq i rfl)
    · rw [if_neg c2] at hq
      have c2' : isW 1 1000000000000000000000000000000 b = false := by simpa using c2
      rw [c2']
      wp_walk
      exact hq
  · rw [if_neg c] at hq ⊢
    exact hq
theorem sp_without {h : Int} {gs : List Int} {a : D} (ok : PlanOk h gs) (ha : a.isE = false)
    (hq : if isW 0 ((gs.length : Nat) - 1) a = true ∧ 1 < gs.length then ∀ i, a = .int i → q (.tup [.int h, .tup (dropD (gs.map D.int) i.toNat)]) n else x ⟨"BadNumber", some a⟩ n) : F_without Γ [planD h gs, a] n q x := by
  wp_walk using t_without_5, t_without_3, t_without_2, t_without, F_without
  refine sp_needOk ok ?_
  wp_walk
  refine sp_need_thing ha ?_
  by_cases c : isW 0 ((gs.length : Nat) - 1) a = true
  · rw [if_pos c]
    wp_walk using planD, at1, List.length_map
    obtain ⟨i, rfl, i0, i1⟩ := isW_some c
    have l1 := ok.l1
    by_cases c2 : 1 < gs.length
    · rw [if_pos ⟨c, c2⟩] at hq
      have e : ¬ ((gs.length : Nat) : Int) = 1 := by omega
      wp_walk using e, decide_false, Bool.false_xor
      exact sp_thing_left i0 (by rw [List.length_map]; omega) (by rw [List.length_map]; have := ok.l8; omega) (by wp_walk; exact hq i rfl)
    · rw [if_neg (fun z => c2 z.2)] at hq
      have e : ((gs.length : Nat) : Int) = 1 := by omega
      wp_walk using e, decide_true, Bool.false_xor
      exact hq
  · rw [if_neg (fun z => c z.1)] at hq
    rw [if_neg c]
    exact hq
end PL

namespace PL
open OE PySem
local macro_rules | `(tactic| wp_walk) => `(tactic| simp -implicitDefEqProofs only [OE.w_g0, OE.w_gs, OE.w_s0, OE.w_ss, OE.w_some, OE.w_ex, OE.w_lc, OE.w_ln, OE.w_at, OE.w_ta, OE.w_nt, OE.w_nf, OE.w_it, OE.w_if, OE.w_itP, OE.w_ifP, OE.w_ft, OE.w_mc, OE.w_mn, OE.w_rs, OE.w_r0, OE.w_ca, OE.w_na, OE.w_za, OE.w_sb, OE.w_sz, OE.s_then, OE.k_seqN, OE.k_seqR, OE.k_seqB, OE.k_seqC, OE.s_next, OE.s_ret, OE.k_ret, OE.s_set, OE.k_set, OE.s_ite, OE.k_ite, OE.o_rt, OE.o_nx, OE.s_run, OE.s_var, OE.s_const, OE.s_nil, OE.s_cons, OE.k_cons, OE.k_cons2, OE.s_tup, OE.s_lst, OE.k_tup, OE.k_lst, OE.s_bin, OE.k_bin, OE.k_bin2, OE.s_bind, OE.k_ap, OE.s_call, OE.k_apL, OE.s_fn, OE.k_fn, OE.s_test, OE.k_test, OE.s_and, OE.k_and, OE.s_or, OE.k_or, OE.s_not, OE.k_not, OE.s_andV, OE.k_andV, OE.s_orV, OE.k_orV, OE.s_notV, OE.k_notV, OE.s_if, OE.k_if, OE.s_isN, OE.k_isN, OE.s_noN, OE.k_noN, OE.s_chain, OE.k_ch1, OE.k_ch2, OE.k_ch3, OE.s_isi, OE.k_isi, OE.s_part, OE.k_part, OE.s_slice, OE.k_sl1, OE.k_sl2, OE.k_sl3, OE.s_retO, OE.s_slL, OE.s_slT, OE.s_slS, OE.s_seq, OE.k_itmL, OE.k_itmT, OE.k_itmS, OE.s_its, OE.k_its, OE.s_rng1, OE.s_rng2, OE.s_enT, OE.s_enL, OE.s_zipL, OE.s_zipT, OE.s_for, OE.k_for, OE.for_nil, OE.k_go, OE.k_tN, OE.k_tC, OE.k_tB, OE.k_tR, OE.g_name, OE.g_tup, OE.g_cons, OE.k_gs, OE.g_nil, OE.s_asg, OE.k_asg, OE.k_nx, OE.s_par, OE.k_par, OE.s_lc, OE.k_lc, OE.k_lc1, OE.k_lc2, OE.k_some, OE.s_fail, OE.k_fail, OE.s_fail0, OE.s_try, OE.k_unN, OE.k_unR, OE.s_fld, OE.k_fld, OE.f_addI, OE.f_addT, OE.f_addL, OE.f_addS, OE.f_ii, OE.f_i0, OE.f_mulI, OE.f_mulT, OE.f_mulL, OE.f_neg, OE.f_ixL, OE.f_ixT, OE.f_ixS, OE.f_lenL, OE.f_lenT, OE.f_lenS, OE.f_int, OE.f_min, OE.f_max, OE.f_tupL, OE.f_lstT, OE.f_lstL, OE.f_repr, OE.f_cmpS, OE.f_cmpI, OE.f_cmpT, OE.f_cmpL, OE.s_dict, OE.k_dic, OE.f_getM, OE.s_putM, OE.k_put1, OE.k_put2, OE.s_dm, OE.mGet_left, OE.mGet_seed, OE.mGet_cells, OE.mGet_spot, OE.mPut_left, OE.mPut_spot, OE.k_wh, OE.s_star, OE.k_starT, OE.k_starL, OE.k_star2, OE.s_drop, OE.k_drop, OE.s_par3, OE.k_par3, OE.f_lrg1, OE.f_trg1, OE.f_lrg2, OE.f_trg2, OE.f_ixM, OE.f_lenM, OE.f_inT, OE.f_inL, OE.f_inS, OE.s_tryN, OE.c_nil, OE.f_all, OE.f_any, OE.f_sum, OE.s_frz, OE.k_frzS, OE.k_fz, OE.f_frzLs, OE.f_frzT, OE.f_frzI, OE.f_frzN, OE.s_mlst, OE.k_ml, OE.s_meth, OE.k_me, OE.f_app, OE.f_extd, OE.f_sorted, OE.s_lc2, OE.k_lcc, OE.f_isB, OE.s_isi2, OE.k_isi2, OE.s_aug, OE.k_aug, OE.w_int, OE.f_revL, OE.f_revT, OE.s_isx, OE.k_isx, OE.startE, Nat.reduceAdd, Nat.reduceLeDiff, Nat.reduceSub])
local macro_rules | `(tactic| wp_walk using $[$ts],*) => `(tactic| simp -implicitDefEqProofs only [$[$ts:term],*, OE.w_g0, OE.w_gs, OE.w_s0, OE.w_ss, OE.w_some, OE.w_ex, OE.w_lc, OE.w_ln, OE.w_at, OE.w_ta, OE.w_nt, OE.w_nf, OE.w_it, OE.w_if, OE.w_itP, OE.w_ifP, OE.w_ft, OE.w_mc, OE.w_mn, OE.w_rs, OE.w_r0, OE.w_ca, OE.w_na, OE.w_za, OE.w_sb, OE.w_sz, OE.s_then, OE.k_seqN, OE.k_seqR, OE.k_seqB, OE.k_seqC, OE.s_next, OE.s_ret, OE.k_ret, OE.s_set, OE.k_set, OE.s_ite, OE.k_ite, OE.o_rt, OE.o_nx, OE.s_run, OE.s_var, OE.s_const, OE.s_nil, OE.s_cons, OE.k_cons, OE.k_cons2, OE.s_tup, OE.s_lst, OE.k_tup, OE.k_lst, OE.s_bin, OE.k_bin, OE.k_bin2, OE.s_bind, OE.k_ap, OE.s_call, OE.k_apL, OE.s_fn, OE.k_fn, OE.s_test, OE.k_test, OE.s_and, OE.k_and, OE.s_or, OE.k_or, OE.s_not, OE.k_not, OE.s_andV, OE.k_andV, OE.s_orV, OE.k_orV, OE.s_notV, OE.k_notV, OE.s_if, OE.k_if, OE.s_isN, OE.k_isN, OE.s_noN, OE.k_noN, OE.s_chain, OE.k_ch1, OE.k_ch2, OE.k_ch3, OE.s_isi, OE.k_isi, OE.s_part, OE.k_part, OE.s_slice, OE.k_sl1, OE.k_sl2, OE.k_sl3, OE.s_retO, OE.s_slL, OE.s_slT, OE.s_slS, OE.s_seq, OE.k_itmL, OE.k_itmT, OE.k_itmS, OE.s_its, OE.k_its, OE.s_rng1, OE.s_rng2, OE.s_enT, OE.s_enL, OE.s_zipL, OE.s_zipT, OE.s_for, OE.k_for, OE.for_nil, OE.k_go, OE.k_tN, OE.k_tC, OE.k_tB, OE.k_tR, OE.g_name, OE.g_tup, OE.g_cons, OE.k_gs, OE.g_nil, OE.s_asg, OE.k_asg, OE.k_nx, OE.s_par, OE.k_par, OE.s_lc, OE.k_lc, OE.k_lc1, OE.k_lc2, OE.k_some, OE.s_fail, OE.k_fail, OE.s_fail0, OE.s_try, OE.k_unN, OE.k_unR, OE.s_fld, OE.k_fld, OE.f_addI, OE.f_addT, OE.f_addL, OE.f_addS, OE.f_ii, OE.f_i0, OE.f_mulI, OE.f_mulT, OE.f_mulL, OE.f_neg, OE.f_ixL, OE.f_ixT, OE.f_ixS, OE.f_lenL, OE.f_lenT, OE.f_lenS, OE.f_int, OE.f_min, OE.f_max, OE.f_tupL, OE.f_lstT, OE.f_lstL, OE.f_repr, OE.f_cmpS, OE.f_cmpI, OE.f_cmpT, OE.f_cmpL, OE.s_dict, OE.k_dic, OE.f_getM, OE.s_putM, OE.k_put1, OE.k_put2, OE.s_dm, OE.mGet_left, OE.mGet_seed, OE.mGet_cells, OE.mGet_spot, OE.mPut_left, OE.mPut_spot, OE.k_wh, OE.s_star, OE.k_starT, OE.k_starL, OE.k_star2, OE.s_drop, OE.k_drop, OE.s_par3, OE.k_par3, OE.f_lrg1, OE.f_trg1, OE.f_lrg2, OE.f_trg2, OE.f_ixM, OE.f_lenM, OE.f_inT, OE.f_inL, OE.f_inS, OE.s_tryN, OE.c_nil, OE.f_all, OE.f_any, OE.f_sum, OE.s_frz, OE.k_frzS, OE.k_fz, OE.f_frzLs, OE.f_frzT, OE.f_frzI, OE.f_frzN, OE.s_mlst, OE.k_ml, OE.s_meth, OE.k_me, OE.f_app, OE.f_extd, OE.f_sorted, OE.s_lc2, OE.k_lcc, OE.f_isB, OE.s_isi2, OE.k_isi2, OE.s_aug, OE.k_aug, OE.w_int, OE.f_revL, OE.f_revT, OE.s_isx, OE.k_isx, OE.startE, Nat.reduceAdd, Nat.reduceLeDiff, Nat.reduceSub])
variable [TN] {Γ : Gam} {n : S} {q : D → S → Prop} {x : Exn → S → Prop}
/-! ### tools for the laws -/
theorem cp {k : Int} (h : 0 ≤ k ∧ k ≤ 1000) : CPowA 10 k = True := eq_true (.inl ⟨h.1, by omega, by decide⟩)
theorem cp9 : CPowA 10 9 = True := cp ⟨by decide, by decide⟩
theorem cp18 : CPowA 10 18 = True := cp ⟨by decide, by decide⟩
theorem cp20 : CPowA 10 20 = True := cp ⟨by decide, by decide⟩
theorem cp30 : CPowA 10 30 = True := cp ⟨by decide, by decide⟩
theorem cp60 : CPowA 10 60 = True := cp ⟨by decide, by decide⟩
theorem e9 : (10 : Int) ^ Int.toNat 9 = 1000000000 := by decide
theorem e20 : (10 : Int) ^ Int.toNat 20 = 100000000000000000000 := by decide
theorem e30 : (10 : Int) ^ Int.toNat 30 = 1000000000000000000000000000000 := by decide
theorem e60 : (10 : Int) ^ Int.toNat 60 = 1000000000000000000000000000000000000000000000000000000000000 := by decide
theorem lgA {i : Int} {N : Nat} (hN : 0 < N) (h : i.natAbs < 2 ^ N) : i.natAbs.log2 < N := by
  by_cases z : i.natAbs = 0
  · rw [z]; simpa using hN
  · exact (Nat.log2_lt z).mpr h
theorem okI {b e : Nat} {i : Int} (h0 : -(10 ^ 60) ≤ i) (h1 : i ≤ 10 ^ 60) : Ok b e (.int i) := (ok_int (by
  have := lgA (i := i) (N := 200) (by decide) (by omega)
  omega)).mono (Nat.zero_le _) (Nat.zero_le _)
theorem okN {b e : Nat} : Ok b e .non := ok_non.mono (Nat.zero_le _) (Nat.zero_le _)
theorem okL {b e : Nat} {z : Bool} : Ok b e (.bl z) := (ok_bl z).mono (Nat.zero_le _) (Nat.zero_le _)
theorem okB' {b e : Nat} {d : D} (h : okB 8 4 d = true) (hb : 8 ≤ b) (he : 4 ≤ e) : Ok b e d := (ok_of h).mono hb he
theorem okW {b e : Nat} {i : Int} {N : Nat} (h0 : 0 ≤ i) (h1 : i < 2 ^ N) (hN : 0 < N) (h2 : N ≤ 1900) : Ok b e (.int i) := (ok_int (by
  have := lg_lt hN h0 h1
  omega)).mono (Nat.zero_le _) (Nat.zero_le _)
theorem ok2 {b e b' e' m : Nat} {l : List D} (h : AllOk b e l) (hl : l.length ≤ m) (hb : m * (b + 1) ≤ b') (he : e + 1 ≤ e') : Ok b' e' (.tup l) := (ok_tup h hl).mono hb he
theorem ok3 {b e b' e' m : Nat} {l : List D} (h : AllOk b e l) (hl : l.length ≤ m) (hb : m * (b + 1) ≤ b') (he : e + 1 ≤ e') : Ok b' e' (.lst l) := (ok_lst h hl).mono hb he
theorem lg9 {v : Int} (h : 1 ≤ v ∧ v ≤ 10 ^ 60) : v.natAbs.log2 < 9000 := by
  have := lgA (i := v) (N := 200) (by decide) (by omega)
  omega
theorem range_len {a : Int} {k : Nat} : (rangeD a k).length = k := by unfold rangeD; simp
theorem range_get {k : Nat} {d : D} (h : d ∈ rangeD 0 k) : ∃ i : Int, d = .int i ∧ 0 ≤ i ∧ i < k := by
  unfold rangeD at h
  obtain ⟨z, hz, rfl⟩ := List.mem_map.mp h
  have := List.mem_range.mp hz
  exact ⟨_, rfl, by omega, by omega⟩
theorem range_2 : rangeD 0 (Int.toNat 2) = [.int 0, .int 1] := rfl
theorem range_3 : rangeD 0 (Int.toNat 3) = [.int 0, .int 1, .int 2] := rfl
theorem range_4 : rangeD 0 (Int.toNat 4) = [.int 0, .int 1, .int 2, .int 3] := rfl
/-- all are ints as P says -/
theorem all_ints {P : Int → Prop} : ∀ {ys : List D}, (∀ y ∈ ys, ∃ z, y = .int z ∧ P z) → ∃ gs : List Int, ys = gs.map D.int ∧ ∀ z ∈ gs, P z
  | [], _ => ⟨[], rfl, fun _ h => nomatch h⟩
  | y :: ys, h => by
    obtain ⟨z, rfl, hz⟩ := h y List.mem_cons_self
    obtain ⟨gs, rfl, hg⟩ := all_ints fun y hy => h y (List.mem_cons_of_mem _ hy)
    exact ⟨z :: gs, rfl, fun w hw => by
      rcases List.mem_cons.mp hw with rfl | hw
      · exact hz
      · exact hg w hw⟩
theorem ok_ints {b e : Nat} {gs : List Int} (h : ∀ z ∈ gs, 1 ≤ z ∧ z ≤ 1000000000000000000000000000000) : AllOk b e (gs.map D.int) := fun d hd => by
  obtain ⟨z, hz, rfl⟩ := List.mem_map.mp hd
  have := h z hz
  exact okI (by omega) (by omega)
theorem ok_plan {h : Int} {gs : List Int} (ok : PlanOk h gs) : Ok 30 3 (planD h gs) :=
  ok2 (b := 9) (e := 2) (m := 2) (.cons (okI (by have := ok.h1; omega) (by have := ok.h3; omega)) (.cons (ok2 (m := 8) (b := 0) (e := 0) (ok_ints ok.g) (by rw [List.length_map]; exact ok.l8) (by decide) (by decide)) .nil)) (by simp) (by decide) (by decide)
/-- a comprehension that draws ints -/
theorem lc_ints {c : Ev → Wp Bool} {ta : Ev → Wp D} {ρ : Ev} {g : D → Ev → Wp Ev} {P : Int → Prop} {m : Nat} {μ : Mu} {ds : List D} {n : Nat} {ql : List D → S → Prop}
    (h1 : ∀ d ∈ ds, ∀ (r : Nat) (k : Option D → S → Prop), r ≤ n + ds.length * m → (∀ z s, P z → r ≤ s → s ≤ r + m → k (some (.int z)) ⟨s, μ⟩) → lc1 g c ta ρ d ⟨r, μ⟩ k)
    (h2 : ∀ (gs : List Int) (s : Nat), (∀ z ∈ gs, P z) → gs.length = ds.length → n ≤ s → s ≤ n + ds.length * m → ql (gs.map D.int) ⟨s, μ⟩) : lcW g c ta ρ ds ⟨n, μ⟩ ql (fun _ _ => False) := by
  refine lc_some (P := fun y => ∃ z, y = .int z ∧ P z) (m := m) (fun d hd r k hr hk => h1 d hd r k hr fun z s hz a b => hk _ s ⟨z, rfl, hz⟩ a b) fun ys s hys hl a b => ?_
  obtain ⟨gs, rfl, hg⟩ := all_ints hys
  exact h2 gs s hg (by simpa using hl) a b
theorem SumOk.fold : ∀ {l : List Int} {k : Nat} {p : Int × Int}, SumOk k p → (∀ z ∈ l, 1 ≤ z ∧ z ≤ 1000000000000000000000000000000) → SumOk (k + l.length) (l.foldl sumStep p)
  | [], _, _, h, _ => h
  | g :: l, k, p, h, hg => by
    have z := SumOk.fold (h.step (hg g List.mem_cons_self).1 (hg g List.mem_cons_self).2).1 fun z hz => hg z (List.mem_cons_of_mem _ hz)
    rw [List.length_cons, List.foldl_cons, Nat.add_comm l.length 1, ← Nat.add_assoc]
    exact z
theorem SumOk.mono {k j : Nat} {p : Int × Int} (h : SumOk k p) (hk : k ≤ j) : SumOk j p := ⟨h.a0, h.b1, Int.lt_of_lt_of_le h.a2 (ipow_le (by omega)), Int.lt_of_lt_of_le h.b2 (ipow_le (by omega))⟩
theorem sum_ok {gs : List Int} (hg : ∀ z ∈ gs, 1 ≤ z ∧ z ≤ 1000000000000000000000000000000) (hl : gs.length ≤ 8) : SumOk 9 (sumI gs) := (SumOk.start.fold hg).mono (by omega)
theorem prod_fold : ∀ {l : List Int} {k : Nat} {p : Int}, 1 ≤ p → p < 2 ^ (200 * k) → (∀ z ∈ l, 1 ≤ z ∧ z ≤ 1000000000000000000000000000000) → 1 ≤ l.foldl (· * ·) p ∧ l.foldl (· * ·) p < 2 ^ (200 * (k + l.length))
  | [], _, _, h, h2, _ => ⟨h, h2⟩
  | g :: l, k, p, h, h2, hg => by
    obtain ⟨g1, g2⟩ := hg g List.mem_cons_self
    have m1 := mul_lt_pow (by omega) h2 (by omega) (Int.le_trans g2 (by decide))
    have ps := pow_step (k := k)
    have pp : (0 : Int) < 2 ^ (200 * k) := Int.pow_pos (by decide)
    have n2 : 1 ≤ p * g := by
      have : p * 1 ≤ p * g := Int.mul_le_mul_of_nonneg_left g1 (by omega)
      omega
    have z := prod_fold (k := k + 1) n2 (by omega) fun z hz => hg z (List.mem_cons_of_mem _ hz)
    rw [List.length_cons, List.foldl_cons, Nat.add_comm l.length 1, ← Nat.add_assoc]
    exact z
theorem prod_ok {gs : List Int} (hg : ∀ z ∈ gs, 1 ≤ z ∧ z ≤ 1000000000000000000000000000000) (hl : gs.length ≤ 8) : 1 ≤ prodI gs ∧ prodI gs < 2 ^ 1800 := by
  obtain ⟨a, b⟩ := prod_fold (l := gs) (k := 1) (p := 1) (by decide) (by decide) hg
  exact ⟨a, Int.lt_of_lt_of_le b (ipow_le (by omega))⟩
theorem ok_sh {b e : Nat} {p : Int × Int} (h : SumOk 9 p) : Ok (b + 2) (e + 1) (shD p) :=
  (ok2 (b := 0) (e := 0) (m := 2) (.cons (okW (N := 1800) h.a0 h.a2 (by decide) (by decide)) (.cons (okW (N := 1800) (by have := h.b1; omega) h.b2 (by decide) (by decide)) .nil)) (by simp) (by omega) (by omega))
/-! comparisons of written data -/
def cmpR (a b : D) : Option Bool := match quick a b with
  | some r => some r
  | none => if a.plain && b.plain && SeqAt.shaped a.py && SeqAt.shaped b.py then some (PyData.eqv a.py b.py) else none
theorem f_cmpD {neg r : Bool} {a b : D} (h : cmpR a b = some r) (hq : q (.bl (neg.xor r)) n) : fCmp neg a b n q x := by
  unfold cmpR at h
  unfold fCmp
  cases e : quick a b with
  | some r' => rw [e] at h; cases h; exact hq
  | none =>
    rw [e] at h
    dsimp only at h ⊢
    split at h
    · rename_i c
      simp -implicitDefEqProofs only [Bool.and_eq_true] at c
      cases h
      exact ⟨⟨c.1.1.1, c.1.1.2, c.1.2, c.2⟩, hq⟩
    · cases h
def planOkB (h : Int) (gs : List Int) : Bool := decide (1 ≤ h) && decide (h ≤ 3) && decide (1 ≤ gs.length) && decide (gs.length ≤ 8) && gs.all fun z => decide (1 ≤ z) && decide (z ≤ 1000000000000000000000000000000)
theorem planOk_of {h : Int} {gs : List Int} (e : planOkB h gs = true) : PlanOk h gs := by
  unfold planOkB at e
  simp -implicitDefEqProofs only [Bool.and_eq_true, decide_eq_true_eq, List.all_eq_true] at e
  exact ⟨e.1.1.1.1, e.1.1.1.2, e.1.1.2, e.1.2, e.2⟩
end PL

namespace PL
open OE
open PySem (Str)
def t_lots_of_5 (Γ : Gam) : Ev → Wp Out :=
  tfrz 2 (tret (tcall fSorted (tcons (tvar 2) (tnil))))
def t_lots_of_4 (Γ : Gam) : Ev → Wp Out :=
  tdrop (tmeth fExtend (tvar 2) (tvar 3))
def t_lots_of_3 (Γ : Gam) : Ev → Wp Out :=
  tthen (tset 3 (tlc2 (tseq (tvar 3)) (gname 5) (fun _ => Wp.ret true) (tits fRange2 (tcons (tif (ttest (tbin fNe (tvar 5) (ttup (tnil)))) (tbin fAdd (tbin fIx (tvar 5) (tbind fNeg (tconst (.int 1)))) (tconst (.int 1))) (tconst (.int 0))) (tcons (tvar 1) (tnil)))) (gname 6) (fun _ => Wp.ret true) (ttup (tstar (tvar 5) (tcons (tvar 6) (tnil)))) [5, 6] [6]))
  (t_lots_of_4 Γ)
def t_lots_of_2 (Γ : Gam) : Ev → Wp Out :=
  tthen (tfor (tits fRange1 (tcons (tvar 0) (tnil))) (gname 4) (t_lots_of_3 Γ))
  (t_lots_of_5 Γ)
def t_lots_of (Γ : Gam) : Ev → Wp Out :=
  tthen (tpar 2 3 (tcons (tmlst (tcons (ttup (tnil)) (tnil))) (tcons (tlst (tcons (ttup (tnil)) (tnil))) (tnil))))
  (t_lots_of_2 Γ)
def F_lots_of (Γ : Gam) : List D → Wp D := runDef 7 (t_lots_of Γ)
def t_days_of_2 (Γ : Gam) : Ev → Wp Out :=
  tret (tcall fTuple (tcons (tfn 2 (F_lots_of Γ) (tcons (tbin fIx (tvar 0) (tconst (.int 0))) (tcons (tcall fLen (tcons (tbin fIx (tvar 0) (tconst (.int 1))) (tnil))) (tnil)))) (tnil)))
def t_days_of (Γ : Gam) : Ev → Wp Out :=
  tthen (tdrop (tfn 1 (F_need_plan Γ) (tcons (tvar 0) (tnil))))
  (t_days_of_2 Γ)
def F_days_of (Γ : Gam) : List D → Wp D := runDef 1 (t_days_of Γ)
def t_is_day_5 (Γ : Gam) : Ev → Wp Out :=
  tret (tcall fAll (tcons (tlc (tits fZip (tcons (tvar 1) (tcons (tslice (tvar 1) (tpart (tconst (.int 1))) (fun _ => Wp.ret none)) (tnil)))) (gtup 2 (gcons (gname 3) (gcons (gname 4) (gnil)))) (fun _ => Wp.ret true) (tbin fLt (tvar 3) (tvar 4)) [3, 4]) (tnil)))
def t_is_day_3 (Γ : Gam) : Ev → Wp Out :=
  tthen (tite (tnot (ttest (tcall fAll (tcons (tlc (tseq (tvar 1)) (gname 2) (fun _ => Wp.ret true) (tfn 3 (F_is_whole Γ) (tcons (tvar 2) (tcons (tconst (.int 0)) (tcons (tbin fSub (tcall fLen (tcons (tbin fIx (tvar 0) (tconst (.int 1))) (tnil))) (tconst (.int 1))) (tnil))))) [2]) (tnil))))) (tret (tconst (.bl false))) (tnext))
  (t_is_day_5 Γ)
def t_is_day (Γ : Gam) : Ev → Wp Out :=
  tthen (tite (tor (tnot (ttest (tisi "tuple" (tvar 1)))) (ttest (tbin fGt (tcall fLen (tcons (tvar 1) (tnil))) (tbin fIx (tvar 0) (tconst (.int 0)))))) (tret (tconst (.bl false))) (tnext))
  (t_is_day_3 Γ)
def F_is_day (Γ : Gam) : List D → Wp D := runDef 5 (t_is_day Γ)
def t_is_standing_3 (Γ : Gam) : Ev → Wp Out :=
  tret (tcall fAll (tcons (tlc (tits fZip (tcons (tvar 1) (tcons (tbin fIx (tvar 0) (tconst (.int 1))) (tnil)))) (gtup 2 (gcons (gname 2) (gcons (gname 3) (gnil)))) (fun _ => Wp.ret true) (tfn 3 (F_is_whole Γ) (tcons (tvar 2) (tcons (tconst (.int 1)) (tcons (tvar 3) (tnil))))) [2, 3]) (tnil)))
def t_is_standing (Γ : Gam) : Ev → Wp Out :=
  tthen (tite (tor (tnot (ttest (tisi "tuple" (tvar 1)))) (ttest (tbin fNe (tcall fLen (tcons (tvar 1) (tnil))) (tcall fLen (tcons (tbin fIx (tvar 0) (tconst (.int 1))) (tnil)))))) (tret (tconst (.bl false))) (tnext))
  (t_is_standing_3 Γ)
def F_is_standing (Γ : Gam) : List D → Wp D := runDef 4 (t_is_standing Γ)
def t_need_standing_4 (Γ : Gam) : Ev → Wp Out :=
  tret (tvar 1)
def t_need_standing_2 (Γ : Gam) : Ev → Wp Out :=
  tthen (tite (tnot (ttest (tfn 2 (F_is_standing Γ) (tcons (tvar 0) (tcons (tvar 1) (tnil)))))) (tfail1 "BadStanding" (tcons (tvar 1) (tnil))) (tnext))
  (t_need_standing_4 Γ)
def t_need_standing (Γ : Gam) : Ev → Wp Out :=
  tthen (tdrop (tfn 1 (F_need_plan Γ) (tcons (tvar 0) (tnil))))
  (t_need_standing_2 Γ)
def F_need_standing (Γ : Gam) : List D → Wp D := runDef 2 (t_need_standing Γ)
def t_has_due (Γ : Gam) : Ev → Wp Out :=
  tret (tcall fAll (tcons (tlc (tits fEnum (tcons (tvar 0) (tnil))) (gtup 2 (gcons (gname 2) (gcons (gname 3) (gnil)))) (fun _ => Wp.ret true) (torV (tbin fGt (tvar 3) (tconst (.int 1))) (tbin (fIn false) (tvar 2) (tvar 1))) [2, 3]) (tnil)))
def F_has_due (Γ : Gam) : List D → Wp D := runDef 4 (t_has_due Γ)
def t_later_of (Γ : Gam) : Ev → Wp Out :=
  tret (tcall fTuple (tcons (tlc (tits fEnum (tcons (tvar 1) (tnil))) (gtup 2 (gcons (gname 3) (gcons (gname 4) (gnil)))) (fun _ => Wp.ret true) (tif (ttest (tbin (fIn false) (tvar 3) (tvar 2))) (tbin fIx (tbin fIx (tvar 0) (tconst (.int 1))) (tvar 3)) (tbin fSub (tvar 4) (tconst (.int 1)))) [3, 4]) (tnil)))
def F_later_of (Γ : Gam) : List D → Wp D := runDef 5 (t_later_of Γ)
def t_due_days (Γ : Gam) : Ev → Wp Out :=
  tret (tlc (tseq (tfn 2 (F_lots_of Γ) (tcons (tbin fIx (tvar 0) (tconst (.int 0))) (tcons (tcall fLen (tcons (tbin fIx (tvar 0) (tconst (.int 1))) (tnil))) (tnil))))) (gname 2) (ttest (tfn 2 (F_has_due Γ) (tcons (tvar 1) (tcons (tvar 2) (tnil))))) (tvar 2) [2])
def F_due_days (Γ : Gam) : List D → Wp D := runDef 3 (t_due_days Γ)
def t_right_days_2 (Γ : Gam) : Ev → Wp Out :=
  tret (tcall fTuple (tcons (tfn 2 (F_due_days Γ) (tcons (tvar 0) (tcons (tvar 1) (tnil)))) (tnil)))
def t_right_days (Γ : Gam) : Ev → Wp Out :=
  tthen (tdrop (tfn 2 (F_need_standing Γ) (tcons (tvar 0) (tcons (tvar 1) (tnil)))))
  (t_right_days_2 Γ)
def F_right_days (Γ : Gam) : List D → Wp D := runDef 2 (t_right_days Γ)
def t_behind_4 (Γ : Gam) : Ev → Wp Out :=
  tret (tfn 3 (F_later_of Γ) (tcons (tvar 0) (tcons (tvar 1) (tcons (tvar 2) (tnil)))))
def t_behind_2 (Γ : Gam) : Ev → Wp Out :=
  tthen (tite (tor (tnot (ttest (tfn 2 (F_is_day Γ) (tcons (tvar 0) (tcons (tvar 2) (tnil)))))) (tnot (ttest (tfn 2 (F_has_due Γ) (tcons (tvar 1) (tcons (tvar 2) (tnil))))))) (tfail1 "BadDay" (tcons (tvar 2) (tnil))) (tnext))
  (t_behind_4 Γ)
def t_behind (Γ : Gam) : Ev → Wp Out :=
  tthen (tdrop (tfn 2 (F_need_standing Γ) (tcons (tvar 0) (tcons (tvar 1) (tnil)))))
  (t_behind_2 Γ)
def F_behind (Γ : Gam) : List D → Wp D := runDef 3 (t_behind Γ)
end PL


namespace PL
open OE PySem
local macro_rules | `(tactic| wp_walk) => `(tactic| simp -implicitDefEqProofs only [OE.w_g0, OE.w_gs, OE.w_s0, OE.w_ss, OE.w_some, OE.w_ex, OE.w_lc, OE.w_ln, OE.w_at, OE.w_ta, OE.w_nt, OE.w_nf, OE.w_it, OE.w_if, OE.w_itP, OE.w_ifP, OE.w_ft, OE.w_mc, OE.w_mn, OE.w_rs, OE.w_r0, OE.w_ca, OE.w_na, OE.w_za, OE.w_sb, OE.w_sz, OE.s_then, OE.k_seqN, OE.k_seqR, OE.k_seqB, OE.k_seqC, OE.s_next, OE.s_ret, OE.k_ret, OE.s_set, OE.k_set, OE.s_ite, OE.k_ite, OE.o_rt, OE.o_nx, OE.s_run, OE.s_var, OE.s_const, OE.s_nil, OE.s_cons, OE.k_cons, OE.k_cons2, OE.s_tup, OE.s_lst, OE.k_tup, OE.k_lst, OE.s_bin, OE.k_bin, OE.k_bin2, OE.s_bind, OE.k_ap, OE.s_call, OE.k_apL, OE.s_fn, OE.k_fn, OE.s_test, OE.k_test, OE.s_and, OE.k_and, OE.s_or, OE.k_or, OE.s_not, OE.k_not, OE.s_andV, OE.k_andV, OE.s_orV, OE.k_orV, OE.s_notV, OE.k_notV, OE.s_if, OE.k_if, OE.s_isN, OE.k_isN, OE.s_noN, OE.k_noN, OE.s_chain, OE.k_ch1, OE.k_ch2, OE.k_ch3, OE.s_isi, OE.k_isi, OE.s_part, OE.k_part, OE.s_slice, OE.k_sl1, OE.k_sl2, OE.k_sl3, OE.s_retO, OE.s_slL, OE.s_slT, OE.s_slS, OE.s_seq, OE.k_itmL, OE.k_itmT, OE.k_itmS, OE.s_its, OE.k_its, OE.s_rng1, OE.s_rng2, OE.s_enT, OE.s_enL, OE.s_zipL, OE.s_zipT, OE.s_for, OE.k_for, OE.for_nil, OE.k_go, OE.k_tN, OE.k_tC, OE.k_tB, OE.k_tR, OE.g_name, OE.g_tup, OE.g_cons, OE.k_gs, OE.g_nil, OE.s_asg, OE.k_asg, OE.k_nx, OE.s_par, OE.k_par, OE.s_lc, OE.k_lc, OE.k_lc1, OE.k_lc2, OE.k_some, OE.s_fail, OE.k_fail, OE.s_fail0, OE.s_try, OE.k_unN, OE.k_unR, OE.s_fld, OE.k_fld, OE.f_addI, OE.f_addT, OE.f_addL, OE.f_addS, OE.f_ii, OE.f_i0, OE.f_mulI, OE.f_mulT, OE.f_mulL, OE.f_neg, OE.f_ixL, OE.f_ixT, OE.f_ixS, OE.f_lenL, OE.f_lenT, OE.f_lenS, OE.f_int, OE.f_min, OE.f_max, OE.f_tupL, OE.f_lstT, OE.f_lstL, OE.f_repr, OE.f_cmpS, OE.f_cmpI, OE.f_cmpT, OE.f_cmpL, OE.s_dict, OE.k_dic, OE.f_getM, OE.s_putM, OE.k_put1, OE.k_put2, OE.s_dm, OE.mGet_left, OE.mGet_seed, OE.mGet_cells, OE.mGet_spot, OE.mPut_left, OE.mPut_spot, OE.k_wh, OE.s_star, OE.k_starT, OE.k_starL, OE.k_star2, OE.s_drop, OE.k_drop, OE.s_par3, OE.k_par3, OE.f_lrg1, OE.f_trg1, OE.f_lrg2, OE.f_trg2, OE.f_ixM, OE.f_lenM, OE.f_inT, OE.f_inL, OE.f_inS, OE.s_tryN, OE.c_nil, OE.f_all, OE.f_any, OE.f_sum, OE.s_frz, OE.k_frzS, OE.k_fz, OE.f_frzLs, OE.f_frzT, OE.f_frzI, OE.f_frzN, OE.s_mlst, OE.k_ml, OE.s_meth, OE.k_me, OE.f_app, OE.f_extd, OE.f_sorted, OE.s_lc2, OE.k_lcc, OE.f_isB, OE.s_isi2, OE.k_isi2, OE.s_aug, OE.k_aug, OE.w_int, OE.f_revL, OE.f_revT, OE.s_isx, OE.k_isx, OE.startE, Nat.reduceAdd, Nat.reduceLeDiff, Nat.reduceSub])
local macro_rules | `(tactic| wp_walk using $[$ts],*) => `(tactic| simp -implicitDefEqProofs only [$[$ts:term],*, OE.w_g0, OE.w_gs, OE.w_s0, OE.w_ss, OE.w_some, OE.w_ex, OE.w_lc, OE.w_ln, OE.w_at, OE.w_ta, OE.w_nt, OE.w_nf, OE.w_it, OE.w_if, OE.w_itP, OE.w_ifP, OE.w_ft, OE.w_mc, OE.w_mn, OE.w_rs, OE.w_r0, OE.w_ca, OE.w_na, OE.w_za, OE.w_sb, OE.w_sz, OE.s_then, OE.k_seqN, OE.k_seqR, OE.k_seqB, OE.k_seqC, OE.s_next, OE.s_ret, OE.k_ret, OE.s_set, OE.k_set, OE.s_ite, OE.k_ite, OE.o_rt, OE.o_nx, OE.s_run, OE.s_var, OE.s_const, OE.s_nil, OE.s_cons, OE.k_cons, OE.k_cons2, OE.s_tup, OE.s_lst, OE.k_tup, OE.k_lst, OE.s_bin, OE.k_bin, OE.k_bin2, OE.s_bind, OE.k_ap, OE.s_call, OE.k_apL, OE.s_fn, OE.k_fn, OE.s_test, OE.k_test, OE.s_and, OE.k_and, OE.s_or, OE.k_or, OE.s_not, OE.k_not, OE.s_andV, OE.k_andV, OE.s_orV, OE.k_orV, OE.s_notV, OE.k_notV, OE.s_if, OE.k_if, OE.s_isN, OE.k_isN, OE.s_noN, OE.k_noN, OE.s_chain, OE.k_ch1, OE.k_ch2, OE.k_ch3, OE.s_isi, OE.k_isi, OE.s_part, OE.k_part, OE.s_slice, OE.k_sl1, OE.k_sl2, OE.k_sl3, OE.s_retO, OE.s_slL, OE.s_slT, OE.s_slS, OE.s_seq, OE.k_itmL, OE.k_itmT, OE.k_itmS, OE.s_its, OE.k_its, OE.s_rng1, OE.s_rng2, OE.s_enT, OE.s_enL, OE.s_zipL, OE.s_zipT, OE.s_for, OE.k_for, OE.for_nil, OE.k_go, OE.k_tN, OE.k_tC, OE.k_tB, OE.k_tR, OE.g_name, OE.g_tup, OE.g_cons, OE.k_gs, OE.g_nil, OE.s_asg, OE.k_asg, OE.k_nx, OE.s_par, OE.k_par, OE.s_lc, OE.k_lc, OE.k_lc1, OE.k_lc2, OE.k_some, OE.s_fail, OE.k_fail, OE.s_fail0, OE.s_try, OE.k_unN, OE.k_unR, OE.s_fld, OE.k_fld, OE.f_addI, OE.f_addT, OE.f_addL, OE.f_addS, OE.f_ii, OE.f_i0, OE.f_mulI, OE.f_mulT, OE.f_mulL, OE.f_neg, OE.f_ixL, OE.f_ixT, OE.f_ixS, OE.f_lenL, OE.f_lenT, OE.f_lenS, OE.f_int, OE.f_min, OE.f_max, OE.f_tupL, OE.f_lstT, OE.f_lstL, OE.f_repr, OE.f_cmpS, OE.f_cmpI, OE.f_cmpT, OE.f_cmpL, OE.s_dict, OE.k_dic, OE.f_getM, OE.s_putM, OE.k_put1, OE.k_put2, OE.s_dm, OE.mGet_left, OE.mGet_seed, OE.mGet_cells, OE.mGet_spot, OE.mPut_left, OE.mPut_spot, OE.k_wh, OE.s_star, OE.k_starT, OE.k_starL, OE.k_star2, OE.s_drop, OE.k_drop, OE.s_par3, OE.k_par3, OE.f_lrg1, OE.f_trg1, OE.f_lrg2, OE.f_trg2, OE.f_ixM, OE.f_lenM, OE.f_inT, OE.f_inL, OE.f_inS, OE.s_tryN, OE.c_nil, OE.f_all, OE.f_any, OE.f_sum, OE.s_frz, OE.k_frzS, OE.k_fz, OE.f_frzLs, OE.f_frzT, OE.f_frzI, OE.f_frzN, OE.s_mlst, OE.k_ml, OE.s_meth, OE.k_me, OE.f_app, OE.f_extd, OE.f_sorted, OE.s_lc2, OE.k_lcc, OE.f_isB, OE.s_isi2, OE.k_isi2, OE.s_aug, OE.k_aug, OE.w_int, OE.f_revL, OE.f_revT, OE.s_isx, OE.k_isx, OE.startE, Nat.reduceAdd, Nat.reduceLeDiff, Nat.reduceSub])
variable [TN] {Γ : Gam} {n : S} {q : D → S → Prop} {x : Exn → S → Prop}
/-! ### rows.py over data -/
def dayD (l : List Int) : D := .tup (l.map D.int)
/-- the order of tuples of ints -/
def leL : List Int → List Int → Bool
  | [], _ => true
  | _ :: _, [] => false
  | a :: l, b :: m => if a = b then leL l m else decide (a < b)
theorem leL_total : ∀ a b : List Int, leL a b = true ∨ leL b a = true
  | [], _ => .inl rfl
  | _ :: _, [] => .inr rfl
  | a :: l, b :: m => by
    rw [leL, leL]
    by_cases h : a = b
    · subst h; rw [if_pos rfl, if_pos rfl]; exact leL_total l m
    · rw [if_neg h, if_neg (Ne.symm h)]
      simp -implicitDefEqProofs only [decide_eq_true_eq]; omega
theorem leL_trans : ∀ a b c : List Int, leL a b = true → leL b c = true → leL a c = true
  | [], _, _, _, _ => rfl
  | _ :: _, [], _, h, _ => by cases h
  | _ :: _, _ :: _, [], _, h => by cases h
  | a :: l, b :: m, c :: k, h1, h2 => by
    rw [leL] at h1 h2 ⊢
    by_cases e1 : a = b
    · subst e1
      rw [if_pos rfl] at h1
      by_cases e2 : a = c
      · rw [if_pos e2] at h2 ⊢; exact leL_trans l m k h1 h2
      · rw [if_neg e2] at h2 ⊢; exact h2
    · rw [if_neg e1] at h1
      by_cases e2 : b = c
      · subst e2; rw [if_neg e1]; exact h1
      · rw [if_neg e2] at h2
        simp -implicitDefEqProofs only [decide_eq_true_eq] at h1 h2
        rw [if_neg (by omega)]
        exact decide_eq_true (by omega)
theorem leL_anti : ∀ a b : List Int, leL a b = true → leL b a = true → a = b
  | [], [], _, _ => rfl
  | [], _ :: _, _, h => by cases h
  | _ :: _, [], h, _ => by cases h
  | a :: l, b :: m, h1, h2 => by
    rw [leL] at h1 h2
    by_cases e : a = b
    · subst e
      rw [if_pos rfl] at h1 h2
      rw [leL_anti l m h1 h2]
    · rw [if_neg e] at h1
      rw [if_neg (Ne.symm e)] at h2
      simp -implicitDefEqProofs only [decide_eq_true_eq] at h1 h2
      omega
theorem leL_lt : ∀ a b : List Int, leL a b = !decide (b < a)
  | [], b => by simp [leL]
  | a :: l, [] => by simp [leL]
  | a :: l, b :: m => by
    rw [leL]
    by_cases h : a = b
    · subst h
      rw [if_pos rfl, leL_lt l m]
      simp [List.cons_lt_cons_iff]
    · rw [if_neg h]
      by_cases h2 : a < b
      · simp [List.cons_lt_cons_iff, h2, Ne.symm h]; omega
      · have : b < a := by omega
        simp [List.cons_lt_cons_iff, h2, this]
theorem py_ints : ∀ l : List Int, D.pyAll (l.map D.int) = l.map PyData.int
  | [] => rfl
  | a :: l => by rw [List.map_cons, D.pyAll, py_ints l]; rfl
theorem day_py (l : List Int) : (dayD l).py = .tuple (l.map .int) := by unfold dayD; rw [D.py, py_ints]
theorem leD_day (a b : List Int) : leL a b = leD (dayD a) (dayD b) := by
  unfold leD
  rw [day_py, day_py, PySem.W.dataLt_tuple]
  have h := PySem.W.dataLt_ints b a
  unfold PySem.W.rowLt at h
  rw [h, leL_lt]
/-- sorting that the kernel can run -/
def insL (x : List Int) : List (List Int) → List (List Int)
  | [] => [x]
  | y :: l => if leL x y = true then x :: y :: l else y :: insL x l
def isortL : List (List Int) → List (List Int)
  | [] => []
  | x :: l => insL x (isortL l)
theorem insL_perm (x : List Int) : ∀ l, (insL x l).Perm (x :: l)
  | [] => .refl _
  | y :: l => by
    rw [insL]
    split
    · exact .refl _
    · exact ((insL_perm x l).cons y).trans (.swap x y l)
theorem isortL_perm : ∀ l, (isortL l).Perm l
  | [] => .refl _
  | x :: l => (insL_perm x _).trans ((isortL_perm l).cons x)
theorem insL_sorted (x : List Int) : ∀ l, l.Pairwise (fun a b => leL a b = true) → (insL x l).Pairwise (fun a b => leL a b = true)
  | [], _ => List.pairwise_singleton ..
  | y :: l, h => by
    rw [insL]
    obtain ⟨h1, h2⟩ := List.pairwise_cons.mp h
    split
    · rename_i c
      exact List.pairwise_cons.mpr ⟨fun z hz => by
        rcases List.mem_cons.mp hz with e | hz
        · rw [e]; exact c
        · exact leL_trans _ _ _ c (h1 z hz), h⟩
    · rename_i c
      refine List.pairwise_cons.mpr ⟨fun z hz => ?_, insL_sorted x l h2⟩
      rcases List.mem_cons.mp ((insL_perm x l).mem_iff.mp hz) with e | hz
      · rw [e]
        exact (leL_total y x).resolve_right c
      · exact h1 z hz
theorem isortL_sorted : ∀ l, (isortL l).Pairwise (fun a b => leL a b = true)
  | [] => .nil
  | x :: l => insL_sorted x _ (isortL_sorted l)
theorem sort_days (L : List (List Int)) : sortD (L.map dayD) = (isortL L).map dayD := by
  unfold sortD
  rw [← PySem.W.sort_maps (r := leL) (s := leD) dayD (fun a _ b _ => leD_day a b)]
  refine congrArg (List.map dayD) ?_
  refine List.Perm.eq_of_pairwise (le := fun a b => leL a b = true) (fun a b _ _ h1 h2 => leL_anti a b h1 h2) ?_ (isortL_sorted L) ((List.mergeSort_perm L leL).trans (isortL_perm L).symm)
  exact List.pairwise_mergeSort leL_trans (fun a b => by rw [Bool.or_eq_true]; exact leL_total a b) L
/-- sorted lists of the same days are one -/
theorem isort_perm {L M : List (List Int)} (h : L.Perm M) : isortL L = isortL M :=
  List.Perm.eq_of_pairwise (le := fun a b => leL a b = true) (fun a b _ _ h1 h2 => leL_anti a b h1 h2) (isortL_sorted L) (isortL_sorted M) ((isortL_perm L).trans (h.trans (isortL_perm M).symm))
theorem sort_ok_days {L : List (List Int)} (h : ∃ M, L = [] :: M) : SortOk (L.map dayD) := by
  refine ⟨fun d hd => ?_, ?_, .inr ⟨?_, fun d hd => ?_⟩⟩
  · obtain ⟨l, _, rfl⟩ := List.mem_map.mp hd
    refine ⟨by unfold dayD; rw [D.plain]; exact plain_ints l, ?_⟩
    rw [day_py, PyData.depth, PySem.W.depth_ints]
    decide
  · intro d hd d' hd'
    rw [List.map_map] at hd hd'
    obtain ⟨l, _, rfl⟩ := List.mem_map.mp hd
    obtain ⟨l', _, rfl⟩ := List.mem_map.mp hd'
    show PySem.W.alike (dayD l).py (dayD l').py = true
    rw [day_py, day_py, PySem.W.alike]
    exact PySem.W.alike_ints l l'
  · obtain ⟨M, rfl⟩ := h
    exact ⟨(M.map dayD).map D.py, by rw [List.map_cons, List.map_cons, day_py]; rfl⟩
  · rw [List.map_map] at hd
    obtain ⟨l, _, rfl⟩ := List.mem_map.mp hd
    exact ⟨l.map .int, day_py l⟩
/-! days -/
def startL (l : List Int) : Int := match l.getLast? with
  | some z => z + 1
  | none => 0
def rangeI (a b : Int) : List Int := (List.range (b - a).toNat).map fun k => a + (k : Nat)
def layerL (m : Nat) (L : List (List Int)) : List (List Int) := L.flatMap fun l => (rangeI (startL l) m).map fun k => l ++ [k]
def foundL (m : Nat) : Nat → List (List Int) × List (List Int)
  | 0 => ([[]], [[]])
  | t + 1 => let p := foundL m t; (p.1 ++ layerL m p.2, layerL m p.2)
def daysL (h m : Nat) : List (List Int) := isortL (foundL m h).1
theorem range_I (a b : Int) : rangeD a (b - a).toNat = (rangeI a b).map D.int := by
  unfold rangeD rangeI
  rw [List.map_map]
  rfl
theorem rangeI_len (a b : Int) : (rangeI a b).length = (b - a).toNat := by unfold rangeI; simp
theorem start_ge {l : List Int} (h : ∀ z ∈ l, 0 ≤ z) : 0 ≤ startL l := by
  unfold startL
  split
  · rename_i z e
    have := h z (List.mem_of_getLast? e)
    omega
  · exact Int.le_refl _
theorem layer_len {m : Nat} (hm : m ≤ 8) : ∀ {L : List (List Int)}, (∀ l ∈ L, ∀ z ∈ l, 0 ≤ z) → (layerL m L).length ≤ L.length * 8
  | [], _ => by simp [layerL]
  | l :: L, h => by
    have ih := layer_len hm fun l' hl' => h l' (List.mem_cons_of_mem _ hl')
    have s0 := start_ge (h l List.mem_cons_self)
    unfold layerL at ih ⊢
    rw [List.flatMap_cons, List.length_append, List.length_map, rangeI_len, List.length_cons, Nat.add_mul]
    omega
theorem layer_nn {m : Nat} {L : List (List Int)} (h : ∀ l ∈ L, ∀ z ∈ l, 0 ≤ z ∧ z < (m : Nat)) : ∀ l ∈ layerL m L, ∀ z ∈ l, 0 ≤ z ∧ z < (m : Nat) := fun l hl z hz => by
  unfold layerL at hl
  obtain ⟨l', h1, h2⟩ := List.mem_flatMap.mp hl
  obtain ⟨k, h3, rfl⟩ := List.mem_map.mp h2
  rcases List.mem_append.mp hz with hz | hz
  · exact h l' h1 z hz
  · rw [List.mem_singleton] at hz
    subst hz
    unfold rangeI at h3
    obtain ⟨w, hw, rfl⟩ := List.mem_map.mp h3
    have := start_ge fun z hz => (h l' h1 z hz).1
    have := List.mem_range.mp hw
    omega
theorem found_at {m : Nat} : ∀ t, ∀ l ∈ (foundL m t).2, l.length = t
  | 0, l, hl => by
    have : l = [] := by simpa [foundL] using hl
    subst this; rfl
  | t + 1, l, hl => by
    have hl' : l ∈ layerL m (foundL m t).2 := hl
    unfold layerL at hl'
    obtain ⟨l', h1, h2⟩ := List.mem_flatMap.mp hl'
    obtain ⟨k, h3, rfl⟩ := List.mem_map.mp h2
    rw [List.length_append, found_at t l' h1]; rfl
theorem found_ok {m : Nat} (hm : m ≤ 8) : ∀ t, (∀ l ∈ (foundL m t).2, ∀ z ∈ l, 0 ≤ z ∧ z < (m : Nat)) ∧ (foundL m t).2.length ≤ 8 ^ t ∧ (foundL m t).1.length ≤ (t + 1) * 8 ^ t ∧ ∃ M, (foundL m t).1 = [] :: M
  | 0 => by
    refine ⟨fun l hl z hz => ?_, Nat.le_refl 1, Nat.le_refl 1, [], rfl⟩
    have : l = [] := by simpa [foundL] using hl
    subst this
    cases hz
  | t + 1 => by
    obtain ⟨h1, h2, h3, M, h4⟩ := found_ok hm t
    have hl := layer_len hm fun l hl z hz => (h1 l hl z hz).1
    have e : 8 ^ (t + 1) = 8 ^ t * 8 := Nat.pow_succ ..
    have hl2 : (layerL m (foundL m t).2).length ≤ 8 ^ (t + 1) := by rw [e]; exact Nat.le_trans hl (Nat.mul_le_mul_right _ h2)
    refine ⟨layer_nn h1, hl2, ?_, M ++ layerL m (foundL m t).2, ?_⟩
    · show ((foundL m t).1 ++ layerL m (foundL m t).2).length ≤ _
      rw [List.length_append]
      have z : (t + 1) * 8 ^ t ≤ (t + 1) * 8 ^ (t + 1) := Nat.mul_le_mul_left _ (by rw [e]; omega)
      have z2 : (t + 1 + 1) * 8 ^ (t + 1) = (t + 1) * 8 ^ (t + 1) + 8 ^ (t + 1) := by rw [Nat.add_mul (t + 1) 1, Nat.one_mul]
      omega
    · show (foundL m t).1 ++ layerL m (foundL m t).2 = _
      rw [h4]; rfl
theorem last_at {α : Type} {l : List α} {a : α} (h : l.getLast? = some a) : L2.atI l (-1) = some a := by
  have hl : l ≠ [] := fun z => by rw [z] at h; cases h
  have hp : 0 < l.length := List.length_pos_iff.mpr hl
  rw [List.getLast?_eq_getElem?] at h
  unfold L2.atI L2.ixN
  rw [if_neg (by decide), if_pos (by omega)]
  have e : ((-1 : Int) + (l.length : Int)).toNat = l.length - 1 := by omega
  have e' : ((l.length : Int) + -1).toNat = l.length - 1 := by omega
  first
    | simpa [e] using h
    | simpa [e'] using h
theorem sp_lots_of {h : Int} {m : Nat} {k : Nat} {μ : Mu} (h0 : 0 ≤ h) (h3 : h ≤ 3) (hm : m ≤ 8) (hq : q (.lst ((daysL h.toNat m).map dayD)) ⟨k, μ⟩) : F_lots_of Γ [.int h, .int (m : Nat)] ⟨k, μ⟩ q x := by
  wp_walk using F_lots_of, t_lots_of, t_lots_of_2
  intro a ha
  refine ⟨by omega, ?_⟩
  refine for_inv (I := fun ds ρ s => ∃ t : Nat, ds.length + t = h.toNat ∧ s = ⟨k, μ.put a (.lst ((foundL m t).1.map dayD))⟩ ∧ ∃ o4 : Option D, ρ = [some (.int h), some (.int (m : Nat)), some (.mref a), some (.lst ((foundL m t).2.map dayD)), o4, none, none]) ?_ ?_ _ _ _ ⟨0, by rw [range_len]; omega, rfl, none, rfl⟩
  · rintro d ds ρ s k' ⟨t, ht, rfl, o4, rfl⟩ k1 k2
    rw [List.length_cons] at ht
    obtain ⟨f1, f2, f3, M, f4⟩ := found_ok hm t
    have t3 : t ≤ 2 := by omega
    have p3 : 8 ^ t ≤ 64 := Nat.le_trans (Nat.pow_le_pow_right (by decide) t3) (by decide)
    wp_walk using t_lots_of_3
    refine lc2_map (M := 8) (f := fun d => match d with | .tup l => (rangeI (startL ((intsOf l).getD [])) m).map fun k => .tup (l ++ [.int k]) | _ => []) (fun d hd n cc k hcc hk => ?_) (fun d hd => ?_) (by rw [List.length_map]; omega) ?_
    · obtain ⟨l, hl, rfl⟩ := List.mem_map.mp hd
      have s0 := start_ge fun z hz => (f1 l hl z hz).1
      wp_walk using wipeE, dayD
      have fin : ∀ b : Int, b = startL l → -(2 ^ 62) ≤ b ∧ b < 2 ^ 62 → (-(2 ^ 62) ≤ b ∧ b < 2 ^ 62 ∧ -(2 ^ 62) ≤ ((m : Nat) : Int) ∧ ((m : Nat) : Int) < 2 ^ 62) ∧ cc + (rangeD b ((m : Int) - b).toNat).length ≤ 1000000 ∧
          lcW (gname 6) (fun _ => Wp.ret true) (ttup (tstar (tvar 5) (tcons (tvar 6) tnil))) [some (.int h), some (.int (m : Nat)), some (.mref a), some (.lst (List.map dayD (foundL m t).2)), some d, some (.tup (l.map D.int)), none] (rangeD b ((m : Int) - b).toNat) n k (fun _ _ => False) := fun b hb h62 => by
        refine ⟨⟨h62.1, h62.2, by omega, by omega⟩, by rw [range_len]; omega, ?_⟩
        rw [range_I]
        refine lc_map (f := fun d => .tup (l.map D.int ++ [d])) (fun d hd n k hk => ?_) ?_
        · rw [s_lc1]
          wp_walk
          exact ⟨by rw [List.length_append, List.length_map, found_at t l hl]; simp; omega, hk⟩
        · rw [List.map_map, hb]
          have e : (intsOf (l.map D.int)).getD [] = l := by
            have := ints_map (fun z : Int => z) l
            rw [List.map_id'] at this
            rw [this]; rfl
          simp -implicitDefEqProofs only [dayD, e] at hk
          exact hk
      cases l with
      | nil =>
        wp_walk using List.map_nil, List.isEmpty_nil, Bool.true_xor, Bool.not_true
        exact fin 0 rfl (by decide)
      | cons z l =>
        obtain ⟨w, hw⟩ : ∃ w, (z :: l).getLast? = some w := ⟨_, List.getLast?_cons ..⟩
        have e1 : startL (z :: l) = w + 1 := by unfold startL; rw [hw]
        have hat : L2.atI ((z :: l).map D.int) (-1) = some (.int w) := last_at (by rw [List.getLast?_map, hw]; rfl)
        have hw2 : w ∈ z :: l := List.mem_of_getLast? hw
        simp -implicitDefEqProofs only [List.map_cons, List.isEmpty_cons, Bool.true_xor, Bool.not_false, OE.w_g0, OE.w_gs, OE.w_s0, OE.w_ss, OE.w_some, OE.w_ex, OE.w_lc, OE.w_ln, OE.w_at, OE.w_ta, OE.w_nt, OE.w_nf, OE.w_it, OE.w_if, OE.w_itP, OE.w_ifP, OE.w_ft, OE.w_mc, OE.w_mn, OE.w_rs, OE.w_r0, OE.w_ca, OE.w_na, OE.w_za, OE.w_sb, OE.w_sz, OE.s_then, OE.k_seqN, OE.k_seqR, OE.k_seqB, OE.k_seqC, OE.s_next, OE.s_ret, OE.k_ret, OE.s_set, OE.k_set, OE.s_ite, OE.k_ite, OE.o_rt, OE.o_nx, OE.s_run, OE.s_var, OE.s_const, OE.s_nil, OE.s_cons, OE.k_cons, OE.k_cons2, OE.s_tup, OE.s_lst, OE.k_tup, OE.k_lst, OE.s_bin, OE.k_bin, OE.k_bin2, OE.s_bind, OE.k_ap, OE.s_call, OE.k_apL, OE.s_fn, OE.k_fn, OE.s_test, OE.k_test, OE.s_and, OE.k_and, OE.s_or, OE.k_or, OE.s_not, OE.k_not, OE.s_andV, OE.k_andV, OE.s_orV, OE.k_orV, OE.s_notV, OE.k_notV, OE.s_if, OE.k_if, OE.s_isN, OE.k_isN, OE.s_noN, OE.k_noN, OE.s_chain, OE.k_ch1, OE.k_ch2, OE.k_ch3, OE.s_isi, OE.k_isi, OE.s_part, OE.k_part, OE.s_slice, OE.k_sl1, OE.k_sl2, OE.k_sl3, OE.s_retO, OE.s_slL, OE.s_slT, OE.s_slS, OE.s_seq, OE.k_itmL, OE.k_itmT, OE.k_itmS, OE.s_its, OE.k_its, OE.s_rng1, OE.s_rng2, OE.s_enT, OE.s_enL, OE.s_zipL, OE.s_zipT, OE.s_for, OE.k_for, OE.for_nil, OE.k_go, OE.k_tN, OE.k_tC, OE.k_tB, OE.k_tR, OE.g_name, OE.g_tup, OE.g_cons, OE.k_gs, OE.g_nil, OE.s_asg, OE.k_asg, OE.k_nx, OE.s_par, OE.k_par, OE.s_lc, OE.k_lc, OE.k_lc1, OE.k_lc2, OE.k_some, OE.s_fail, OE.k_fail, OE.s_fail0, OE.s_try, OE.k_unN, OE.k_unR, OE.s_fld, OE.k_fld, OE.f_addI, OE.f_addT, OE.f_addL, OE.f_addS, OE.f_ii, OE.f_i0, OE.f_mulI, OE.f_mulT, OE.f_mulL, OE.f_neg, OE.f_ixL, OE.f_ixT, OE.f_ixS, OE.f_lenL, OE.f_lenT, OE.f_lenS, OE.f_int, OE.f_min, OE.f_max, OE.f_tupL, OE.f_lstT, OE.f_lstL, OE.f_repr, OE.f_cmpS, OE.f_cmpI, OE.f_cmpT, OE.f_cmpL, OE.s_dict, OE.k_dic, OE.f_getM, OE.s_putM, OE.k_put1, OE.k_put2, OE.s_dm, OE.mGet_left, OE.mGet_seed, OE.mGet_cells, OE.mGet_spot, OE.mPut_left, OE.mPut_spot, OE.k_wh, OE.s_star, OE.k_starT, OE.k_starL, OE.k_star2, OE.s_drop, OE.k_drop, OE.s_par3, OE.k_par3, OE.f_lrg1, OE.f_trg1, OE.f_lrg2, OE.f_trg2, OE.f_ixM, OE.f_lenM, OE.f_inT, OE.f_inL, OE.f_inS, OE.s_tryN, OE.c_nil, OE.f_all, OE.f_any, OE.f_sum, OE.s_frz, OE.k_frzS, OE.k_fz, OE.f_frzLs, OE.f_frzT, OE.f_frzI, OE.f_frzN, OE.s_mlst, OE.k_ml, OE.s_meth, OE.k_me, OE.f_app, OE.f_extd, OE.f_sorted, OE.s_lc2, OE.k_lcc, OE.f_isB, OE.s_isi2, OE.k_isi2, OE.s_aug, OE.k_aug, OE.w_int, OE.f_revL, OE.f_revT, OE.s_isx, OE.k_isx, OE.startE, Nat.reduceAdd, Nat.reduceLeDiff, Nat.reduceSub] at hat ⊢
        refine ⟨.int w, hat, ?_⟩
        wp_walk
        refine fin (w + 1) e1.symm ?_
        have := f1 _ hl w hw2
        omega
    · obtain ⟨l, hl, rfl⟩ := List.mem_map.mp hd
      have s0 := start_ge fun z hz => (f1 l hl z hz).1
      have e : (intsOf (l.map D.int)).getD [] = l := by
        have := ints_map (fun z : Int => z) l
        rw [List.map_id'] at this
        rw [this]; rfl
      simp -implicitDefEqProofs only [dayD, e, List.length_map, rangeI_len]
      omega
    · wp_walk using t_lots_of_4
      have e : (((foundL m t).2.map dayD).flatMap fun d => match d with | .tup l => (rangeI (startL ((intsOf l).getD [])) m).map fun k => D.tup (l ++ [.int k]) | _ => []) = (layerL m (foundL m t).2).map dayD := by
        unfold layerL
        rw [List.flatMap_map, List.map_flatMap]
        refine congrArg (fun f => (foundL m t).2.flatMap f) (funext fun l => ?_)
        have e : (intsOf (l.map D.int)).getD [] = l := by
          have := ints_map (fun z : Int => z) l
          rw [List.map_id'] at this
          rw [this]; rfl
        simp -implicitDefEqProofs only [dayD, e, List.map_map]
        refine List.map_congr_left fun k _ => ?_
        simp [dayD]
      rw [e]
      obtain ⟨g1, g2, g3, _⟩ := found_ok hm (t + 1)
      have g2' : (layerL m (foundL m t).2).length ≤ 8 ^ (t + 1) := g2
      have p4 : 8 ^ (t + 1) ≤ 512 := Nat.le_trans (Nat.pow_le_pow_right (by decide) (by omega : t + 1 ≤ 3)) (by decide)
      have f3' : (foundL m t).1.length ≤ 192 := Nat.le_trans f3 (Nat.le_trans (Nat.mul_le_mul (by omega : t + 1 ≤ 3) p3) (by decide))
      refine ⟨⟨_, Mu.put_same⟩, _, Mu.put_same, by rw [List.length_map, List.length_map]; omega, ?_⟩
      refine k1 _ _ ⟨t + 1, by omega, ?_, _, rfl⟩
      rw [Mu.put_put, ← List.map_append]
      rfl
  · rintro ρ s ⟨t, ht, rfl, o4, rfl⟩
    have et : t = h.toNat := by simpa using ht
    subst et
    wp_walk using t_lots_of_5
    refine f_frzL Mu.put_same ?_
    rw [Mu.del_put ha]
    wp_walk
    refine ⟨sort_ok_days (found_ok hm _).2.2.2, ?_⟩
    rw [sort_days]
    exact hq
theorem sp_days_of {h : Int} {gs : List Int} {k : Nat} {μ : Mu} (ok : PlanOk h gs) (hq : q (.tup ((daysL h.toNat gs.length).map dayD)) ⟨k, μ⟩) : F_days_of Γ [planD h gs] ⟨k, μ⟩ q x := by
  have := ok.h1
  wp_walk using t_days_of_2, t_days_of, F_days_of
  refine sp_needOk ok ?_
  wp_walk using planD, at0, at1, List.length_map
  refine sp_lots_of (by omega) ok.h3 ok.l8 ?_
  wp_walk
  exact hq
/-! has_due, later_of -/
def enumI : Nat → List Int → List (Nat × Int)
  | _, [] => []
  | i, z :: l => (i, z) :: enumI (i + 1) l
theorem enumI_D : ∀ (l : List Int) (i : Nat), enumD i (l.map D.int) = (enumI i l).map fun p => .tup [.int (p.1 : Nat), .int p.2]
  | [], _ => rfl
  | z :: l, i => by rw [List.map_cons, enumD, enumI_D l (i + 1)]; rfl
theorem enumI_len : ∀ (l : List Int) (i : Nat), (enumI i l).length = l.length
  | [], _ => rfl
  | z :: l, i => by rw [enumI, List.length_cons, List.length_cons, enumI_len l (i + 1)]
theorem enumI_lt : ∀ {l : List Int} {i : Nat} {p : Nat × Int}, p ∈ enumI i l → i ≤ p.1 ∧ p.1 < i + l.length ∧ l[p.1 - i]? = some p.2
  | [], _, _, h => nomatch h
  | z :: l, i, p, h => by
    rw [enumI] at h
    rcases List.mem_cons.mp h with e | h
    · subst e; simp
    · obtain ⟨h1, h2, h3⟩ := enumI_lt h
      refine ⟨by omega, by rw [List.length_cons]; omega, ?_⟩
      have e : p.1 - i = (p.1 - (i + 1)) + 1 := by omega
      rw [e, List.getElem?_cons_succ]; exact h3
def isIn (l : List Int) (i : Nat) : Bool := l.any fun z => z == ((i : Nat) : Int)
theorem any_ints (l : List Int) (i : Nat) : ((l.map D.int).any fun e => eqF e (.int ((i : Nat) : Int))) = isIn l i := by
  unfold isIn
  rw [List.any_map]
  rfl
theorem flat_ints : ∀ l : List Int, (l.map D.int).all flatD = true
  | [] => rfl
  | z :: l => by rw [List.map_cons, List.all_cons, flat_ints l]; rfl
def hasDue (st l : List Int) : Bool := (enumI 0 st).all fun p => decide (1 < p.2) || isIn l p.1
theorem sp_has_due {st l : List Int} (hs : st.length ≤ 1000) (hq : q (.bl (hasDue st l)) n) : F_has_due Γ [dayD st, dayD l] n q x := by
  wp_walk using t_has_due, F_has_due, dayD, enumI_D
  refine ⟨by rw [List.length_map, enumI_len]; omega, lc_map (f := fun d => match d with | .tup [.int i, .int s] => .bl (decide (1 < s) || (l.map D.int).any fun e => eqF e (.int i)) | _ => .non) (fun d hd n k hk => ?_) ?_⟩
  · obtain ⟨p, hp, rfl⟩ := List.mem_map.mp hd
    rw [s_lc1]
    wp_walk using wipeE
    by_cases c : 1 < p.2
    · simp -implicitDefEqProofs only [c, decide_true, OE.w_g0, OE.w_gs, OE.w_s0, OE.w_ss, OE.w_some, OE.w_ex, OE.w_lc, OE.w_ln, OE.w_at, OE.w_ta, OE.w_nt, OE.w_nf, OE.w_it, OE.w_if, OE.w_itP, OE.w_ifP, OE.w_ft, OE.w_mc, OE.w_mn, OE.w_rs, OE.w_r0, OE.w_ca, OE.w_na, OE.w_za, OE.w_sb, OE.w_sz, OE.s_then, OE.k_seqN, OE.k_seqR, OE.k_seqB, OE.k_seqC, OE.s_next, OE.s_ret, OE.k_ret, OE.s_set, OE.k_set, OE.s_ite, OE.k_ite, OE.o_rt, OE.o_nx, OE.s_run, OE.s_var, OE.s_const, OE.s_nil, OE.s_cons, OE.k_cons, OE.k_cons2, OE.s_tup, OE.s_lst, OE.k_tup, OE.k_lst, OE.s_bin, OE.k_bin, OE.k_bin2, OE.s_bind, OE.k_ap, OE.s_call, OE.k_apL, OE.s_fn, OE.k_fn, OE.s_test, OE.k_test, OE.s_and, OE.k_and, OE.s_or, OE.k_or, OE.s_not, OE.k_not, OE.s_andV, OE.k_andV, OE.s_orV, OE.k_orV, OE.s_notV, OE.k_notV, OE.s_if, OE.k_if, OE.s_isN, OE.k_isN, OE.s_noN, OE.k_noN, OE.s_chain, OE.k_ch1, OE.k_ch2, OE.k_ch3, OE.s_isi, OE.k_isi, OE.s_part, OE.k_part, OE.s_slice, OE.k_sl1, OE.k_sl2, OE.k_sl3, OE.s_retO, OE.s_slL, OE.s_slT, OE.s_slS, OE.s_seq, OE.k_itmL, OE.k_itmT, OE.k_itmS, OE.s_its, OE.k_its, OE.s_rng1, OE.s_rng2, OE.s_enT, OE.s_enL, OE.s_zipL, OE.s_zipT, OE.s_for, OE.k_for, OE.for_nil, OE.k_go, OE.k_tN, OE.k_tC, OE.k_tB, OE.k_tR, OE.g_name, OE.g_tup, OE.g_cons, OE.k_gs, OE.g_nil, OE.s_asg, OE.k_asg, OE.k_nx, OE.s_par, OE.k_par, OE.s_lc, OE.k_lc, OE.k_lc1, OE.k_lc2, OE.k_some, OE.s_fail, OE.k_fail, OE.s_fail0, OE.s_try, OE.k_unN, OE.k_unR, OE.s_fld, OE.k_fld, OE.f_addI, OE.f_addT, OE.f_addL, OE.f_addS, OE.f_ii, OE.f_i0, OE.f_mulI, OE.f_mulT, OE.f_mulL, OE.f_neg, OE.f_ixL, OE.f_ixT, OE.f_ixS, OE.f_lenL, OE.f_lenT, OE.f_lenS, OE.f_int, OE.f_min, OE.f_max, OE.f_tupL, OE.f_lstT, OE.f_lstL, OE.f_repr, OE.f_cmpS, OE.f_cmpI, OE.f_cmpT, OE.f_cmpL, OE.s_dict, OE.k_dic, OE.f_getM, OE.s_putM, OE.k_put1, OE.k_put2, OE.s_dm, OE.mGet_left, OE.mGet_seed, OE.mGet_cells, OE.mGet_spot, OE.mPut_left, OE.mPut_spot, OE.k_wh, OE.s_star, OE.k_starT, OE.k_starL, OE.k_star2, OE.s_drop, OE.k_drop, OE.s_par3, OE.k_par3, OE.f_lrg1, OE.f_trg1, OE.f_lrg2, OE.f_trg2, OE.f_ixM, OE.f_lenM, OE.f_inT, OE.f_inL, OE.f_inS, OE.s_tryN, OE.c_nil, OE.f_all, OE.f_any, OE.f_sum, OE.s_frz, OE.k_frzS, OE.k_fz, OE.f_frzLs, OE.f_frzT, OE.f_frzI, OE.f_frzN, OE.s_mlst, OE.k_ml, OE.s_meth, OE.k_me, OE.f_app, OE.f_extd, OE.f_sorted, OE.s_lc2, OE.k_lcc, OE.f_isB, OE.s_isi2, OE.k_isi2, OE.s_aug, OE.k_aug, OE.w_int, OE.f_revL, OE.f_revT, OE.s_isx, OE.k_isx, OE.startE, Nat.reduceAdd, Nat.reduceLeDiff, Nat.reduceSub, Bool.true_or] at hk ⊢
      exact hk
    · simp -implicitDefEqProofs only [c, decide_false, OE.w_g0, OE.w_gs, OE.w_s0, OE.w_ss, OE.w_some, OE.w_ex, OE.w_lc, OE.w_ln, OE.w_at, OE.w_ta, OE.w_nt, OE.w_nf, OE.w_it, OE.w_if, OE.w_itP, OE.w_ifP, OE.w_ft, OE.w_mc, OE.w_mn, OE.w_rs, OE.w_r0, OE.w_ca, OE.w_na, OE.w_za, OE.w_sb, OE.w_sz, OE.s_then, OE.k_seqN, OE.k_seqR, OE.k_seqB, OE.k_seqC, OE.s_next, OE.s_ret, OE.k_ret, OE.s_set, OE.k_set, OE.s_ite, OE.k_ite, OE.o_rt, OE.o_nx, OE.s_run, OE.s_var, OE.s_const, OE.s_nil, OE.s_cons, OE.k_cons, OE.k_cons2, OE.s_tup, OE.s_lst, OE.k_tup, OE.k_lst, OE.s_bin, OE.k_bin, OE.k_bin2, OE.s_bind, OE.k_ap, OE.s_call, OE.k_apL, OE.s_fn, OE.k_fn, OE.s_test, OE.k_test, OE.s_and, OE.k_and, OE.s_or, OE.k_or, OE.s_not, OE.k_not, OE.s_andV, OE.k_andV, OE.s_orV, OE.k_orV, OE.s_notV, OE.k_notV, OE.s_if, OE.k_if, OE.s_isN, OE.k_isN, OE.s_noN, OE.k_noN, OE.s_chain, OE.k_ch1, OE.k_ch2, OE.k_ch3, OE.s_isi, OE.k_isi, OE.s_part, OE.k_part, OE.s_slice, OE.k_sl1, OE.k_sl2, OE.k_sl3, OE.s_retO, OE.s_slL, OE.s_slT, OE.s_slS, OE.s_seq, OE.k_itmL, OE.k_itmT, OE.k_itmS, OE.s_its, OE.k_its, OE.s_rng1, OE.s_rng2, OE.s_enT, OE.s_enL, OE.s_zipL, OE.s_zipT, OE.s_for, OE.k_for, OE.for_nil, OE.k_go, OE.k_tN, OE.k_tC, OE.k_tB, OE.k_tR, OE.g_name, OE.g_tup, OE.g_cons, OE.k_gs, OE.g_nil, OE.s_asg, OE.k_asg, OE.k_nx, OE.s_par, OE.k_par, OE.s_lc, OE.k_lc, OE.k_lc1, OE.k_lc2, OE.k_some, OE.s_fail, OE.k_fail, OE.s_fail0, OE.s_try, OE.k_unN, OE.k_unR, OE.s_fld, OE.k_fld, OE.f_addI, OE.f_addT, OE.f_addL, OE.f_addS, OE.f_ii, OE.f_i0, OE.f_mulI, OE.f_mulT, OE.f_mulL, OE.f_neg, OE.f_ixL, OE.f_ixT, OE.f_ixS, OE.f_lenL, OE.f_lenT, OE.f_lenS, OE.f_int, OE.f_min, OE.f_max, OE.f_tupL, OE.f_lstT, OE.f_lstL, OE.f_repr, OE.f_cmpS, OE.f_cmpI, OE.f_cmpT, OE.f_cmpL, OE.s_dict, OE.k_dic, OE.f_getM, OE.s_putM, OE.k_put1, OE.k_put2, OE.s_dm, OE.mGet_left, OE.mGet_seed, OE.mGet_cells, OE.mGet_spot, OE.mPut_left, OE.mPut_spot, OE.k_wh, OE.s_star, OE.k_starT, OE.k_starL, OE.k_star2, OE.s_drop, OE.k_drop, OE.s_par3, OE.k_par3, OE.f_lrg1, OE.f_trg1, OE.f_lrg2, OE.f_trg2, OE.f_ixM, OE.f_lenM, OE.f_inT, OE.f_inL, OE.f_inS, OE.s_tryN, OE.c_nil, OE.f_all, OE.f_any, OE.f_sum, OE.s_frz, OE.k_frzS, OE.k_fz, OE.f_frzLs, OE.f_frzT, OE.f_frzI, OE.f_frzN, OE.s_mlst, OE.k_ml, OE.s_meth, OE.k_me, OE.f_app, OE.f_extd, OE.f_sorted, OE.s_lc2, OE.k_lcc, OE.f_isB, OE.s_isi2, OE.k_isi2, OE.s_aug, OE.k_aug, OE.w_int, OE.f_revL, OE.f_revT, OE.s_isx, OE.k_isx, OE.startE, Nat.reduceAdd, Nat.reduceLeDiff, Nat.reduceSub, Bool.false_or] at hk ⊢
      exact ⟨⟨rfl, flat_ints l⟩, by simpa using hk⟩
  · rw [List.map_map]
    have e : ((fun d => match d with | .tup [.int i, .int s] => D.bl (decide (1 < s) || (l.map D.int).any fun e => eqF e (.int i)) | _ => .non) ∘ fun p : Nat × Int => D.tup [.int (p.1 : Nat), .int p.2]) = fun p => D.bl (decide (1 < p.2) || isIn l p.1) := by
      funext p
      show D.bl _ = D.bl _
      rw [any_ints]
    rw [e]
    refine ⟨_, bools_map _ _, ?_⟩
    rw [List.all_map]
    exact hq
def laterL (gs st l : List Int) : List Int := (enumI 0 st).map fun p => if isIn l p.1 = true then gs.getD p.1 0 else p.2 - 1
theorem later_len (gs st l : List Int) : (laterL gs st l).length = st.length := by unfold laterL; rw [List.length_map, enumI_len]
theorem sp_later_of {h : Int} {gs st l : List Int} (hg : gs.length = st.length) (hs : st.length ≤ 1000) (hq : q (dayD (laterL gs st l)) n) : F_later_of Γ [planD h gs, dayD st, dayD l] n q x := by
  wp_walk using t_later_of, F_later_of, dayD, planD, enumI_D
  refine ⟨by rw [List.length_map, enumI_len]; omega, lc_map (f := fun d => match d with | .tup [.int i, .int s] => .int (if isIn l i.toNat = true then gs.getD i.toNat 0 else s - 1) | _ => .non) (fun d hd n k hk => ?_) ?_⟩
  · obtain ⟨p, hp, rfl⟩ := List.mem_map.mp hd
    obtain ⟨p1, p2, _⟩ := enumI_lt hp
    rw [s_lc1]
    wp_walk using wipeE, at1
    refine ⟨⟨rfl, flat_ints l⟩, ?_⟩
    rw [any_ints]
    have et : ((p.1 : Nat) : Int).toNat = p.1 := Int.toNat_natCast _
    simp -implicitDefEqProofs only [et] at hk
    by_cases c : isIn l p.1 = true
    · rw [if_pos c] at hk
      rw [c]
      wp_walk using Bool.false_xor, at1
      have hlt : p.1 < gs.length := by omega
      refine ⟨.int (gs.getD p.1 0), at_nat (by rw [List.getElem?_map, List.getElem?_eq_getElem hlt, List.getD_eq_getElem?_getD, List.getElem?_eq_getElem hlt]; rfl), hk⟩
    · rw [if_neg c] at hk
      have c' : isIn l p.1 = false := by simpa using c
      rw [c']
      wp_walk using Bool.false_xor
      exact hk
  · rw [List.map_map]
    have e : ((fun d => match d with | .tup [.int i, .int s] => D.int (if isIn l i.toNat = true then gs.getD i.toNat 0 else s - 1) | _ => .non) ∘ fun p : Nat × Int => D.tup [.int (p.1 : Nat), .int p.2]) = D.int ∘ fun p => if isIn l p.1 = true then gs.getD p.1 0 else p.2 - 1 := by
      funext p
      show D.int _ = D.int _
      rw [Int.toNat_natCast]
    rw [e, ← List.map_map]
    exact hq
def dueL' (h : Nat) (gs st : List Int) : List (List Int) := (daysL h gs.length).filter (hasDue st)
theorem ints_day (l : List Int) : (intsOf (l.map D.int)).getD [] = l := by
  have := ints_map (fun z : Int => z) l
  rw [List.map_id'] at this
  rw [this]; rfl
/-- those of some days that are as p tells -/
def pickD (p : List Int → Bool) : D → Option D
  | .tup l => if p ((intsOf l).getD []) = true then some (.tup l) else none
  | _ => none
theorem pick_day {p : List Int → Bool} (l : List Int) : pickD p (dayD l) = if p l = true then some (dayD l) else none := by
  unfold dayD pickD
  dsimp only
  rw [ints_day]
theorem filter_map_day {p : List Int → Bool} : ∀ L : List (List Int), (L.map dayD).filterMap (pickD p) = (L.filter p).map dayD
  | [] => rfl
  | l :: L => by
    rw [List.map_cons, List.filterMap_cons, List.filter_cons, filter_map_day L, pick_day]
    by_cases c : p l = true
    · rw [if_pos c, if_pos c]; rfl
    · rw [if_neg c, if_neg c]
theorem days_len {h : Int} {m : Nat} (h3 : h ≤ 3) (hm : m ≤ 8) : (daysL h.toNat m).length ≤ 2048 := by
  unfold daysL
  rw [(isortL_perm _).length_eq]
  have := (found_ok hm h.toNat).2.2.1
  have e : h.toNat ≤ 3 := by omega
  exact Nat.le_trans this (Nat.le_trans (Nat.mul_le_mul (by omega : h.toNat + 1 ≤ 4) (Nat.pow_le_pow_right (by decide) e)) (by decide))
theorem sp_due_days {h : Int} {gs st : List Int} {k : Nat} {μ : Mu} (ok : PlanOk h gs) (hs : st.length ≤ 1000) (hq : q (.lst ((dueL' h.toNat gs st).map dayD)) ⟨k, μ⟩) : F_due_days Γ [planD h gs, dayD st] ⟨k, μ⟩ q x := by
  have := ok.h1
  wp_walk using t_due_days, F_due_days, planD, at0, at1, List.length_map
  refine sp_lots_of (by omega) ok.h3 ok.l8 ?_
  wp_walk
  refine ⟨by rw [List.length_map]; exact Nat.le_trans (days_len ok.h3 ok.l8) (by decide), lc_pure (f := pickD (hasDue st)) (fun d hd n k hk => ?_) ?_⟩
  · obtain ⟨l, hl, rfl⟩ := List.mem_map.mp hd
    rw [pick_day] at hk
    rw [s_lc1]
    wp_walk using wipeE
    refine sp_has_due hs ?_
    wp_walk
    by_cases c : hasDue st l = true
    · rw [if_pos c] at hk ⊢
      simpa [OE.w_g0, OE.w_gs, OE.w_s0, OE.w_ss, OE.w_some, OE.w_ex, OE.w_lc, OE.w_ln, OE.w_at, OE.w_ta, OE.w_nt, OE.w_nf, OE.w_it, OE.w_if, OE.w_itP, OE.w_ifP, OE.w_ft, OE.w_mc, OE.w_mn, OE.w_rs, OE.w_r0, OE.w_ca, OE.w_na, OE.w_za, OE.w_sb, OE.w_sz, OE.s_then, OE.k_seqN, OE.k_seqR, OE.k_seqB, OE.k_seqC, OE.s_next, OE.s_ret, OE.k_ret, OE.s_set, OE.k_set, OE.s_ite, OE.k_ite, OE.o_rt, OE.o_nx, OE.s_run, OE.s_var, OE.s_const, OE.s_nil, OE.s_cons, OE.k_cons, OE.k_cons2, OE.s_tup, OE.s_lst, OE.k_tup, OE.k_lst, OE.s_bin, OE.k_bin, OE.k_bin2, OE.s_bind, OE.k_ap, OE.s_call, OE.k_apL, OE.s_fn, OE.k_fn, OE.s_test, OE.k_test, OE.s_and, OE.k_and, OE.s_or, OE.k_or, OE.s_not, OE.k_not, OE.s_andV, OE.k_andV, OE.s_orV, OE.k_orV, OE.s_notV, OE.k_notV, OE.s_if, OE.k_if, OE.s_isN, OE.k_isN, OE.s_noN, OE.k_noN, OE.s_chain, OE.k_ch1, OE.k_ch2, OE.k_ch3, OE.s_isi, OE.k_isi, OE.s_part, OE.k_part, OE.s_slice, OE.k_sl1, OE.k_sl2, OE.k_sl3, OE.s_retO, OE.s_slL, OE.s_slT, OE.s_slS, OE.s_seq, OE.k_itmL, OE.k_itmT, OE.k_itmS, OE.s_its, OE.k_its, OE.s_rng1, OE.s_rng2, OE.s_enT, OE.s_enL, OE.s_zipL, OE.s_zipT, OE.s_for, OE.k_for, OE.for_nil, OE.k_go, OE.k_tN, OE.k_tC, OE.k_tB, OE.k_tR, OE.g_name, OE.g_tup, OE.g_cons, OE.k_gs, OE.g_nil, OE.s_asg, OE.k_asg, OE.k_nx, OE.s_par, OE.k_par, OE.s_lc, OE.k_lc, OE.k_lc1, OE.k_lc2, OE.k_some, OE.s_fail, OE.k_fail, OE.s_fail0, OE.s_try, OE.k_unN, OE.k_unR, OE.s_fld, OE.k_fld, OE.f_addI, OE.f_addT, OE.f_addL, OE.f_addS, OE.f_ii, OE.f_i0, OE.f_mulI, OE.f_mulT, OE.f_mulL, OE.f_neg, OE.f_ixL, OE.f_ixT, OE.f_ixS, OE.f_lenL, OE.f_lenT, OE.f_lenS, OE.f_int, OE.f_min, OE.f_max, OE.f_tupL, OE.f_lstT, OE.f_lstL, OE.f_repr, OE.f_cmpS, OE.f_cmpI, OE.f_cmpT, OE.f_cmpL, OE.s_dict, OE.k_dic, OE.f_getM, OE.s_putM, OE.k_put1, OE.k_put2, OE.s_dm, OE.mGet_left, OE.mGet_seed, OE.mGet_cells, OE.mGet_spot, OE.mPut_left, OE.mPut_spot, OE.k_wh, OE.s_star, OE.k_starT, OE.k_starL, OE.k_star2, OE.s_drop, OE.k_drop, OE.s_par3, OE.k_par3, OE.f_lrg1, OE.f_trg1, OE.f_lrg2, OE.f_trg2, OE.f_ixM, OE.f_lenM, OE.f_inT, OE.f_inL, OE.f_inS, OE.s_tryN, OE.c_nil, OE.f_all, OE.f_any, OE.f_sum, OE.s_frz, OE.k_frzS, OE.k_fz, OE.f_frzLs, OE.f_frzT, OE.f_frzI, OE.f_frzN, OE.s_mlst, OE.k_ml, OE.s_meth, OE.k_me, OE.f_app, OE.f_extd, OE.f_sorted, OE.s_lc2, OE.k_lcc, OE.f_isB, OE.s_isi2, OE.k_isi2, OE.s_aug, OE.k_aug, OE.w_int, OE.f_revL, OE.f_revT, OE.s_isx, OE.k_isx, OE.startE, Nat.reduceAdd, Nat.reduceLeDiff, Nat.reduceSub] using hk
    · rw [if_neg c] at hk ⊢
      exact hk
  · rw [filter_map_day]
    exact hq
/-! standings, days as they are judged -/
def zipW : List D → List Int → Bool
  | d :: l, g :: gs => isW 1 g d && zipW l gs
  | _, _ => true
def isStand (gs : List Int) : D → Bool
  | .tup l => decide (l.length = gs.length) && zipW l gs
  | _ => false
theorem zip_mem : ∀ {l m : List D} {d : D}, d ∈ zipD l m → ∃ a b, d = .tup [a, b] ∧ a ∈ l ∧ b ∈ m
  | [], _, _, h => by cases h
  | _ :: _, [], _, h => by cases h
  | a :: l, b :: m, d, h => by
    rw [zipD] at h
    rcases List.mem_cons.mp h with e | h
    · exact ⟨a, b, e, List.mem_cons_self, List.mem_cons_self⟩
    · obtain ⟨a', b', h1, h2, h3⟩ := zip_mem h
      exact ⟨a', b', h1, List.mem_cons_of_mem _ h2, List.mem_cons_of_mem _ h3⟩
def zipP : D → Bool
  | .tup [d, .int g] => isW 1 g d
  | _ => false
theorem zipW_all : ∀ (l : List D) (gs : List Int), ((zipD l (gs.map D.int)).map zipP).all id = zipW l gs
  | [], gs => by cases gs <;> rfl
  | _ :: _, [] => rfl
  | d :: l, g :: gs => by
    rw [List.map_cons, zipD, List.map_cons, List.all_cons, zipW_all l gs]
    rfl
theorem sp_is_standing {h : Int} {gs : List Int} {d : D} (l8 : gs.length ≤ 8) (hp : d.plain = true) (hq : q (.bl (isStand gs d)) n) : F_is_standing Γ [planD h gs, d] n q x := by
  wp_walk using t_is_standing_3, t_is_standing, F_is_standing, isi_tup
  refine ⟨noE hp, ?_⟩
  cases d with
  | tup l =>
    wp_walk using isTp, planD, at1, List.length_map
    unfold isStand at hq
    by_cases c : l.length = gs.length
    · have c' : ((l.length : Nat) : Int) = (gs.length : Nat) := by omega
      simp -implicitDefEqProofs only [c, c', decide_true, Bool.true_xor, Bool.not_true, OE.w_g0, OE.w_gs, OE.w_s0, OE.w_ss, OE.w_some, OE.w_ex, OE.w_lc, OE.w_ln, OE.w_at, OE.w_ta, OE.w_nt, OE.w_nf, OE.w_it, OE.w_if, OE.w_itP, OE.w_ifP, OE.w_ft, OE.w_mc, OE.w_mn, OE.w_rs, OE.w_r0, OE.w_ca, OE.w_na, OE.w_za, OE.w_sb, OE.w_sz, OE.s_then, OE.k_seqN, OE.k_seqR, OE.k_seqB, OE.k_seqC, OE.s_next, OE.s_ret, OE.k_ret, OE.s_set, OE.k_set, OE.s_ite, OE.k_ite, OE.o_rt, OE.o_nx, OE.s_run, OE.s_var, OE.s_const, OE.s_nil, OE.s_cons, OE.k_cons, OE.k_cons2, OE.s_tup, OE.s_lst, OE.k_tup, OE.k_lst, OE.s_bin, OE.k_bin, OE.k_bin2, OE.s_bind, OE.k_ap, OE.s_call, OE.k_apL, OE.s_fn, OE.k_fn, OE.s_test, OE.k_test, OE.s_and, OE.k_and, OE.s_or, OE.k_or, OE.s_not, OE.k_not, OE.s_andV, OE.k_andV, OE.s_orV, OE.k_orV, OE.s_notV, OE.k_notV, OE.s_if, OE.k_if, OE.s_isN, OE.k_isN, OE.s_noN, OE.k_noN, OE.s_chain, OE.k_ch1, OE.k_ch2, OE.k_ch3, OE.s_isi, OE.k_isi, OE.s_part, OE.k_part, OE.s_slice, OE.k_sl1, OE.k_sl2, OE.k_sl3, OE.s_retO, OE.s_slL, OE.s_slT, OE.s_slS, OE.s_seq, OE.k_itmL, OE.k_itmT, OE.k_itmS, OE.s_its, OE.k_its, OE.s_rng1, OE.s_rng2, OE.s_enT, OE.s_enL, OE.s_zipL, OE.s_zipT, OE.s_for, OE.k_for, OE.for_nil, OE.k_go, OE.k_tN, OE.k_tC, OE.k_tB, OE.k_tR, OE.g_name, OE.g_tup, OE.g_cons, OE.k_gs, OE.g_nil, OE.s_asg, OE.k_asg, OE.k_nx, OE.s_par, OE.k_par, OE.s_lc, OE.k_lc, OE.k_lc1, OE.k_lc2, OE.k_some, OE.s_fail, OE.k_fail, OE.s_fail0, OE.s_try, OE.k_unN, OE.k_unR, OE.s_fld, OE.k_fld, OE.f_addI, OE.f_addT, OE.f_addL, OE.f_addS, OE.f_ii, OE.f_i0, OE.f_mulI, OE.f_mulT, OE.f_mulL, OE.f_neg, OE.f_ixL, OE.f_ixT, OE.f_ixS, OE.f_lenL, OE.f_lenT, OE.f_lenS, OE.f_int, OE.f_min, OE.f_max, OE.f_tupL, OE.f_lstT, OE.f_lstL, OE.f_repr, OE.f_cmpS, OE.f_cmpI, OE.f_cmpT, OE.f_cmpL, OE.s_dict, OE.k_dic, OE.f_getM, OE.s_putM, OE.k_put1, OE.k_put2, OE.s_dm, OE.mGet_left, OE.mGet_seed, OE.mGet_cells, OE.mGet_spot, OE.mPut_left, OE.mPut_spot, OE.k_wh, OE.s_star, OE.k_starT, OE.k_starL, OE.k_star2, OE.s_drop, OE.k_drop, OE.s_par3, OE.k_par3, OE.f_lrg1, OE.f_trg1, OE.f_lrg2, OE.f_trg2, OE.f_ixM, OE.f_lenM, OE.f_inT, OE.f_inL, OE.f_inS, OE.s_tryN, OE.c_nil, OE.f_all, OE.f_any, OE.f_sum, OE.s_frz, OE.k_frzS, OE.k_fz, OE.f_frzLs, OE.f_frzT, OE.f_frzI, OE.f_frzN, OE.s_mlst, OE.k_ml, OE.s_meth, OE.k_me, OE.f_app, OE.f_extd, OE.f_sorted, OE.s_lc2, OE.k_lcc, OE.f_isB, OE.s_isi2, OE.k_isi2, OE.s_aug, OE.k_aug, OE.w_int, OE.f_revL, OE.f_revT, OE.s_isx, OE.k_isx, OE.startE, Nat.reduceAdd, Nat.reduceLeDiff, Nat.reduceSub, at1, Bool.true_and] at hq ⊢
      refine ⟨by rw [zipD_length]; omega, lc_map (f := fun d => .bl (zipP d)) (fun d hd n k hk => ?_) ⟨_, bools_map zipP _, ?_⟩⟩
      · obtain ⟨a, b, rfl, ha, hb⟩ := zip_mem hd
        obtain ⟨g, _, rfl⟩ := List.mem_map.mp hb
        rw [s_lc1]
        wp_walk using wipeE
        refine sp_is_whole (noE (plain_mem (plain_tup hp) ha)) ?_
        exact hk
      · rw [zipW_all]
        exact hq
    · have c' : ¬ ((l.length : Nat) : Int) = (gs.length : Nat) := by omega
      simp -implicitDefEqProofs only [c, c', decide_false, Bool.true_xor, Bool.not_false, OE.w_g0, OE.w_gs, OE.w_s0, OE.w_ss, OE.w_some, OE.w_ex, OE.w_lc, OE.w_ln, OE.w_at, OE.w_ta, OE.w_nt, OE.w_nf, OE.w_it, OE.w_if, OE.w_itP, OE.w_ifP, OE.w_ft, OE.w_mc, OE.w_mn, OE.w_rs, OE.w_r0, OE.w_ca, OE.w_na, OE.w_za, OE.w_sb, OE.w_sz, OE.s_then, OE.k_seqN, OE.k_seqR, OE.k_seqB, OE.k_seqC, OE.s_next, OE.s_ret, OE.k_ret, OE.s_set, OE.k_set, OE.s_ite, OE.k_ite, OE.o_rt, OE.o_nx, OE.s_run, OE.s_var, OE.s_const, OE.s_nil, OE.s_cons, OE.k_cons, OE.k_cons2, OE.s_tup, OE.s_lst, OE.k_tup, OE.k_lst, OE.s_bin, OE.k_bin, OE.k_bin2, OE.s_bind, OE.k_ap, OE.s_call, OE.k_apL, OE.s_fn, OE.k_fn, OE.s_test, OE.k_test, OE.s_and, OE.k_and, OE.s_or, OE.k_or, OE.s_not, OE.k_not, OE.s_andV, OE.k_andV, OE.s_orV, OE.k_orV, OE.s_notV, OE.k_notV, OE.s_if, OE.k_if, OE.s_isN, OE.k_isN, OE.s_noN, OE.k_noN, OE.s_chain, OE.k_ch1, OE.k_ch2, OE.k_ch3, OE.s_isi, OE.k_isi, OE.s_part, OE.k_part, OE.s_slice, OE.k_sl1, OE.k_sl2, OE.k_sl3, OE.s_retO, OE.s_slL, OE.s_slT, OE.s_slS, OE.s_seq, OE.k_itmL, OE.k_itmT, OE.k_itmS, OE.s_its, OE.k_its, OE.s_rng1, OE.s_rng2, OE.s_enT, OE.s_enL, OE.s_zipL, OE.s_zipT, OE.s_for, OE.k_for, OE.for_nil, OE.k_go, OE.k_tN, OE.k_tC, OE.k_tB, OE.k_tR, OE.g_name, OE.g_tup, OE.g_cons, OE.k_gs, OE.g_nil, OE.s_asg, OE.k_asg, OE.k_nx, OE.s_par, OE.k_par, OE.s_lc, OE.k_lc, OE.k_lc1, OE.k_lc2, OE.k_some, OE.s_fail, OE.k_fail, OE.s_fail0, OE.s_try, OE.k_unN, OE.k_unR, OE.s_fld, OE.k_fld, OE.f_addI, OE.f_addT, OE.f_addL, OE.f_addS, OE.f_ii, OE.f_i0, OE.f_mulI, OE.f_mulT, OE.f_mulL, OE.f_neg, OE.f_ixL, OE.f_ixT, OE.f_ixS, OE.f_lenL, OE.f_lenT, OE.f_lenS, OE.f_int, OE.f_min, OE.f_max, OE.f_tupL, OE.f_lstT, OE.f_lstL, OE.f_repr, OE.f_cmpS, OE.f_cmpI, OE.f_cmpT, OE.f_cmpL, OE.s_dict, OE.k_dic, OE.f_getM, OE.s_putM, OE.k_put1, OE.k_put2, OE.s_dm, OE.mGet_left, OE.mGet_seed, OE.mGet_cells, OE.mGet_spot, OE.mPut_left, OE.mPut_spot, OE.k_wh, OE.s_star, OE.k_starT, OE.k_starL, OE.k_star2, OE.s_drop, OE.k_drop, OE.s_par3, OE.k_par3, OE.f_lrg1, OE.f_trg1, OE.f_lrg2, OE.f_trg2, OE.f_ixM, OE.f_lenM, OE.f_inT, OE.f_inL, OE.f_inS, OE.s_tryN, OE.c_nil, OE.f_all, OE.f_any, OE.f_sum, OE.s_frz, OE.k_frzS, OE.k_fz, OE.f_frzLs, OE.f_frzT, OE.f_frzI, OE.f_frzN, OE.s_mlst, OE.k_ml, OE.s_meth, OE.k_me, OE.f_app, OE.f_extd, OE.f_sorted, OE.s_lc2, OE.k_lcc, OE.f_isB, OE.s_isi2, OE.k_isi2, OE.s_aug, OE.k_aug, OE.w_int, OE.f_revL, OE.f_revT, OE.s_isx, OE.k_isx, OE.startE, Nat.reduceAdd, Nat.reduceLeDiff, Nat.reduceSub, Bool.false_and] at hq ⊢
      exact hq
  | _ => simpa [isTp, OE.w_g0, OE.w_gs, OE.w_s0, OE.w_ss, OE.w_some, OE.w_ex, OE.w_lc, OE.w_ln, OE.w_at, OE.w_ta, OE.w_nt, OE.w_nf, OE.w_it, OE.w_if, OE.w_itP, OE.w_ifP, OE.w_ft, OE.w_mc, OE.w_mn, OE.w_rs, OE.w_r0, OE.w_ca, OE.w_na, OE.w_za, OE.w_sb, OE.w_sz, OE.s_then, OE.k_seqN, OE.k_seqR, OE.k_seqB, OE.k_seqC, OE.s_next, OE.s_ret, OE.k_ret, OE.s_set, OE.k_set, OE.s_ite, OE.k_ite, OE.o_rt, OE.o_nx, OE.s_run, OE.s_var, OE.s_const, OE.s_nil, OE.s_cons, OE.k_cons, OE.k_cons2, OE.s_tup, OE.s_lst, OE.k_tup, OE.k_lst, OE.s_bin, OE.k_bin, OE.k_bin2, OE.s_bind, OE.k_ap, OE.s_call, OE.k_apL, OE.s_fn, OE.k_fn, OE.s_test, OE.k_test, OE.s_and, OE.k_and, OE.s_or, OE.k_or, OE.s_not, OE.k_not, OE.s_andV, OE.k_andV, OE.s_orV, OE.k_orV, OE.s_notV, OE.k_notV, OE.s_if, OE.k_if, OE.s_isN, OE.k_isN, OE.s_noN, OE.k_noN, OE.s_chain, OE.k_ch1, OE.k_ch2, OE.k_ch3, OE.s_isi, OE.k_isi, OE.s_part, OE.k_part, OE.s_slice, OE.k_sl1, OE.k_sl2, OE.k_sl3, OE.s_retO, OE.s_slL, OE.s_slT, OE.s_slS, OE.s_seq, OE.k_itmL, OE.k_itmT, OE.k_itmS, OE.s_its, OE.k_its, OE.s_rng1, OE.s_rng2, OE.s_enT, OE.s_enL, OE.s_zipL, OE.s_zipT, OE.s_for, OE.k_for, OE.for_nil, OE.k_go, OE.k_tN, OE.k_tC, OE.k_tB, OE.k_tR, OE.g_name, OE.g_tup, OE.g_cons, OE.k_gs, OE.g_nil, OE.s_asg, OE.k_asg, OE.k_nx, OE.s_par, OE.k_par, OE.s_lc, OE.k_lc, OE.k_lc1, OE.k_lc2, OE.k_some, OE.s_fail, OE.k_fail, OE.s_fail0, OE.s_try, OE.k_unN, OE.k_unR, OE.s_fld, OE.k_fld, OE.f_addI, OE.f_addT, OE.f_addL, OE.f_addS, OE.f_ii, OE.f_i0, OE.f_mulI, OE.f_mulT, OE.f_mulL, OE.f_neg, OE.f_ixL, OE.f_ixT, OE.f_ixS, OE.f_lenL, OE.f_lenT, OE.f_lenS, OE.f_int, OE.f_min, OE.f_max, OE.f_tupL, OE.f_lstT, OE.f_lstL, OE.f_repr, OE.f_cmpS, OE.f_cmpI, OE.f_cmpT, OE.f_cmpL, OE.s_dict, OE.k_dic, OE.f_getM, OE.s_putM, OE.k_put1, OE.k_put2, OE.s_dm, OE.mGet_left, OE.mGet_seed, OE.mGet_cells, OE.mGet_spot, OE.mPut_left, OE.mPut_spot, OE.k_wh, OE.s_star, OE.k_starT, OE.k_starL, OE.k_star2, OE.s_drop, OE.k_drop, OE.s_par3, OE.k_par3, OE.f_lrg1, OE.f_trg1, OE.f_lrg2, OE.f_trg2, OE.f_ixM, OE.f_lenM, OE.f_inT, OE.f_inL, OE.f_inS, OE.s_tryN, OE.c_nil, OE.f_all, OE.f_any, OE.f_sum, OE.s_frz, OE.k_frzS, OE.k_fz, OE.f_frzLs, OE.f_frzT, OE.f_frzI, OE.f_frzN, OE.s_mlst, OE.k_ml, OE.s_meth, OE.k_me, OE.f_app, OE.f_extd, OE.f_sorted, OE.s_lc2, OE.k_lcc, OE.f_isB, OE.s_isi2, OE.k_isi2, OE.s_aug, OE.k_aug, OE.w_int, OE.f_revL, OE.f_revT, OE.s_isx, OE.k_isx, OE.startE, Nat.reduceAdd, Nat.reduceLeDiff, Nat.reduceSub, isStand] using hq
theorem sp_need_standing {h : Int} {gs : List Int} {d : D} (ok : PlanOk h gs) (hp : d.plain = true) (hq : if isStand gs d = true then q d n else x ⟨"BadStanding", some d⟩ n) : F_need_standing Γ [planD h gs, d] n q x := by
  wp_walk using t_need_standing_4, t_need_standing_2, t_need_standing, F_need_standing
  refine sp_needOk ok ?_
  wp_walk
  refine sp_is_standing ok.l8 hp ?_
  by_cases c : isStand gs d = true
  · rw [if_pos c] at hq
    rw [c]
    wp_walk
    exact hq
  · rw [if_neg c] at hq
    have c' : isStand gs d = false := by simpa using c
    rw [c']
    wp_walk
    exact hq
def ascD : List D → Bool
  | .int a :: .int b :: l => decide (a < b) && ascD (.int b :: l)
  | _ => true
def isDayD (h : Int) (m : Nat) : D → Bool
  | .tup l => decide (((l.length : Nat) : Int) ≤ h) && (l.all (isW 0 ((m : Nat) - 1)) && ascD l)
  | _ => false
def ascP : D → Bool
  | .tup [.int a, .int b] => decide (a < b)
  | _ => false
theorem asc_all : ∀ l : List Int, ((zipD (l.map D.int) ((l.map D.int).drop 1)).map ascP).all id = ascD (l.map D.int)
  | [] => rfl
  | [_] => rfl
  | a :: b :: l => by
    have ih := asc_all (b :: l)
    simp -implicitDefEqProofs only [List.map_cons, List.drop_succ_cons, List.drop_zero] at ih ⊢
    rw [zipD, List.map_cons, List.all_cons, ascD, ← ih]
    rfl
theorem all_isW {lo hi : Int} : ∀ {l : List D}, l.all (isW lo hi) = true → ∃ gs : List Int, l = gs.map D.int ∧ ∀ z ∈ gs, lo ≤ z ∧ z ≤ hi
  | [], _ => ⟨[], rfl, fun _ h => nomatch h⟩
  | d :: l, h => by
    rw [List.all_cons, Bool.and_eq_true] at h
    obtain ⟨i, rfl, h1, h2⟩ := isW_some h.1
    obtain ⟨gs, rfl, hg⟩ := all_isW h.2
    exact ⟨i :: gs, rfl, fun z hz => by
      rcases List.mem_cons.mp hz with rfl | hz
      · exact ⟨h1, h2⟩
      · exact hg z hz⟩
theorem sp_is_day {h : Int} {gs : List Int} {d : D} (ok : PlanOk h gs) (hp : d.plain = true) (hq : q (.bl (isDayD h gs.length d)) n) : F_is_day Γ [planD h gs, d] n q x := by
  have h3 := ok.h3
  wp_walk using t_is_day_5, t_is_day_3, t_is_day, F_is_day, isi_tup
  refine ⟨noE hp, ?_⟩
  cases d with
  | tup l =>
    wp_walk using isTp, planD, at0, at1, List.length_map
    unfold isDayD at hq
    by_cases c : ((l.length : Nat) : Int) ≤ h
    · have c' : ¬ h < ((l.length : Nat) : Int) := by omega
      simp -implicitDefEqProofs only [c, c', decide_true, decide_false, OE.w_g0, OE.w_gs, OE.w_s0, OE.w_ss, OE.w_some, OE.w_ex, OE.w_lc, OE.w_ln, OE.w_at, OE.w_ta, OE.w_nt, OE.w_nf, OE.w_it, OE.w_if, OE.w_itP, OE.w_ifP, OE.w_ft, OE.w_mc, OE.w_mn, OE.w_rs, OE.w_r0, OE.w_ca, OE.w_na, OE.w_za, OE.w_sb, OE.w_sz, OE.s_then, OE.k_seqN, OE.k_seqR, OE.k_seqB, OE.k_seqC, OE.s_next, OE.s_ret, OE.k_ret, OE.s_set, OE.k_set, OE.s_ite, OE.k_ite, OE.o_rt, OE.o_nx, OE.s_run, OE.s_var, OE.s_const, OE.s_nil, OE.s_cons, OE.k_cons, OE.k_cons2, OE.s_tup, OE.s_lst, OE.k_tup, OE.k_lst, OE.s_bin, OE.k_bin, OE.k_bin2, OE.s_bind, OE.k_ap, OE.s_call, OE.k_apL, OE.s_fn, OE.k_fn, OE.s_test, OE.k_test, OE.s_and, OE.k_and, OE.s_or, OE.k_or, OE.s_not, OE.k_not, OE.s_andV, OE.k_andV, OE.s_orV, OE.k_orV, OE.s_notV, OE.k_notV, OE.s_if, OE.k_if, OE.s_isN, OE.k_isN, OE.s_noN, OE.k_noN, OE.s_chain, OE.k_ch1, OE.k_ch2, OE.k_ch3, OE.s_isi, OE.k_isi, OE.s_part, OE.k_part, OE.s_slice, OE.k_sl1, OE.k_sl2, OE.k_sl3, OE.s_retO, OE.s_slL, OE.s_slT, OE.s_slS, OE.s_seq, OE.k_itmL, OE.k_itmT, OE.k_itmS, OE.s_its, OE.k_its, OE.s_rng1, OE.s_rng2, OE.s_enT, OE.s_enL, OE.s_zipL, OE.s_zipT, OE.s_for, OE.k_for, OE.for_nil, OE.k_go, OE.k_tN, OE.k_tC, OE.k_tB, OE.k_tR, OE.g_name, OE.g_tup, OE.g_cons, OE.k_gs, OE.g_nil, OE.s_asg, OE.k_asg, OE.k_nx, OE.s_par, OE.k_par, OE.s_lc, OE.k_lc, OE.k_lc1, OE.k_lc2, OE.k_some, OE.s_fail, OE.k_fail, OE.s_fail0, OE.s_try, OE.k_unN, OE.k_unR, OE.s_fld, OE.k_fld, OE.f_addI, OE.f_addT, OE.f_addL, OE.f_addS, OE.f_ii, OE.f_i0, OE.f_mulI, OE.f_mulT, OE.f_mulL, OE.f_neg, OE.f_ixL, OE.f_ixT, OE.f_ixS, OE.f_lenL, OE.f_lenT, OE.f_lenS, OE.f_int, OE.f_min, OE.f_max, OE.f_tupL, OE.f_lstT, OE.f_lstL, OE.f_repr, OE.f_cmpS, OE.f_cmpI, OE.f_cmpT, OE.f_cmpL, OE.s_dict, OE.k_dic, OE.f_getM, OE.s_putM, OE.k_put1, OE.k_put2, OE.s_dm, OE.mGet_left, OE.mGet_seed, OE.mGet_cells, OE.mGet_spot, OE.mPut_left, OE.mPut_spot, OE.k_wh, OE.s_star, OE.k_starT, OE.k_starL, OE.k_star2, OE.s_drop, OE.k_drop, OE.s_par3, OE.k_par3, OE.f_lrg1, OE.f_trg1, OE.f_lrg2, OE.f_trg2, OE.f_ixM, OE.f_lenM, OE.f_inT, OE.f_inL, OE.f_inS, OE.s_tryN, OE.c_nil, OE.f_all, OE.f_any, OE.f_sum, OE.s_frz, OE.k_frzS, OE.k_fz, OE.f_frzLs, OE.f_frzT, OE.f_frzI, OE.f_frzN, OE.s_mlst, OE.k_ml, OE.s_meth, OE.k_me, OE.f_app, OE.f_extd, OE.f_sorted, OE.s_lc2, OE.k_lcc, OE.f_isB, OE.s_isi2, OE.k_isi2, OE.s_aug, OE.k_aug, OE.w_int, OE.f_revL, OE.f_revT, OE.s_isx, OE.k_isx, OE.startE, Nat.reduceAdd, Nat.reduceLeDiff, Nat.reduceSub, Bool.true_and] at hq ⊢
      refine ⟨by omega, lc_map (f := fun d => .bl (isW 0 ((gs.length : Nat) - 1) d)) (fun d hd n k hk => ?_) ⟨_, bools_map _ _, ?_⟩⟩
      · rw [s_lc1]
        wp_walk using wipeE, at1, List.length_map
        refine sp_is_whole (noE (plain_mem (plain_tup hp) hd)) ?_
        exact hk
      · rw [List.all_map]
        by_cases c2 : l.all (isW 0 ((gs.length : Nat) - 1)) = true
        · have e : l.all (id ∘ isW 0 ((gs.length : Nat) - 1)) = true := c2
          rw [c2] at hq
          rw [e]
          obtain ⟨zs, rfl, hz⟩ := all_isW c2
          have el : ((zs.map D.int).length : Nat) = zs.length := List.length_map ..
          rw [el] at c
          wp_walk
          have ec : cut (zs.map D.int) (some 1) none = (zs.map D.int).drop 1 := by
            cases zs with
            | nil => rfl
            | cons z zs => exact cut_drop (by decide) (by rw [List.length_map, List.length_cons]; omega)
          rw [ec]
          refine ⟨by rw [zipD_length, List.length_map]; omega, lc_map (f := fun d => .bl (ascP d)) (fun d hd n k hk => ?_) ⟨_, bools_map ascP _, ?_⟩⟩
          · obtain ⟨a, b, rfl, ha, hb⟩ := zip_mem hd
            obtain ⟨u, _, rfl⟩ := List.mem_map.mp ha
            obtain ⟨v, _, rfl⟩ := List.mem_map.mp (List.mem_of_mem_drop hb)
            rw [s_lc1]
            wp_walk using wipeE
            exact hk
          · rw [asc_all]
            simpa using hq
        · have c3 : l.all (isW 0 ((gs.length : Nat) - 1)) = false := by simpa using c2
          have e : l.all (id ∘ isW 0 ((gs.length : Nat) - 1)) = false := c3
          rw [c3] at hq
          rw [e]
          wp_walk
          exact hq
    · have c' : h < ((l.length : Nat) : Int) := by omega
      simp -implicitDefEqProofs only [c, c', decide_true, decide_false, OE.w_g0, OE.w_gs, OE.w_s0, OE.w_ss, OE.w_some, OE.w_ex, OE.w_lc, OE.w_ln, OE.w_at, OE.w_ta, OE.w_nt, OE.w_nf, OE.w_it, OE.w_if, OE.w_itP, OE.w_ifP, OE.w_ft, OE.w_mc, OE.w_mn, OE.w_rs, OE.w_r0, OE.w_ca, OE.w_na, OE.w_za, OE.w_sb, OE.w_sz, OE.s_then, OE.k_seqN, OE.k_seqR, OE.k_seqB, OE.k_seqC, OE.s_next, OE.s_ret, OE.k_ret, OE.s_set, OE.k_set, OE.s_ite, OE.k_ite, OE.o_rt, OE.o_nx, OE.s_run, OE.s_var, OE.s_const, OE.s_nil, OE.s_cons, OE.k_cons, OE.k_cons2, OE.s_tup, OE.s_lst, OE.k_tup, OE.k_lst, OE.s_bin, OE.k_bin, OE.k_bin2, OE.s_bind, OE.k_ap, OE.s_call, OE.k_apL, OE.s_fn, OE.k_fn, OE.s_test, OE.k_test, OE.s_and, OE.k_and, OE.s_or, OE.k_or, OE.s_not, OE.k_not, OE.s_andV, OE.k_andV, OE.s_orV, OE.k_orV, OE.s_notV, OE.k_notV, OE.s_if, OE.k_if, OE.s_isN, OE.k_isN, OE.s_noN, OE.k_noN, OE.s_chain, OE.k_ch1, OE.k_ch2, OE.k_ch3, OE.s_isi, OE.k_isi, OE.s_part, OE.k_part, OE.s_slice, OE.k_sl1, OE.k_sl2, OE.k_sl3, OE.s_retO, OE.s_slL, OE.s_slT, OE.s_slS, OE.s_seq, OE.k_itmL, OE.k_itmT, OE.k_itmS, OE.s_its, OE.k_its, OE.s_rng1, OE.s_rng2, OE.s_enT, OE.s_enL, OE.s_zipL, OE.s_zipT, OE.s_for, OE.k_for, OE.for_nil, OE.k_go, OE.k_tN, OE.k_tC, OE.k_tB, OE.k_tR, OE.g_name, OE.g_tup, OE.g_cons, OE.k_gs, OE.g_nil, OE.s_asg, OE.k_asg, OE.k_nx, OE.s_par, OE.k_par, OE.s_lc, OE.k_lc, OE.k_lc1, OE.k_lc2, OE.k_some, OE.s_fail, OE.k_fail, OE.s_fail0, OE.s_try, OE.k_unN, OE.k_unR, OE.s_fld, OE.k_fld, OE.f_addI, OE.f_addT, OE.f_addL, OE.f_addS, OE.f_ii, OE.f_i0, OE.f_mulI, OE.f_mulT, OE.f_mulL, OE.f_neg, OE.f_ixL, OE.f_ixT, OE.f_ixS, OE.f_lenL, OE.f_lenT, OE.f_lenS, OE.f_int, OE.f_min, OE.f_max, OE.f_tupL, OE.f_lstT, OE.f_lstL, OE.f_repr, OE.f_cmpS, OE.f_cmpI, OE.f_cmpT, OE.f_cmpL, OE.s_dict, OE.k_dic, OE.f_getM, OE.s_putM, OE.k_put1, OE.k_put2, OE.s_dm, OE.mGet_left, OE.mGet_seed, OE.mGet_cells, OE.mGet_spot, OE.mPut_left, OE.mPut_spot, OE.k_wh, OE.s_star, OE.k_starT, OE.k_starL, OE.k_star2, OE.s_drop, OE.k_drop, OE.s_par3, OE.k_par3, OE.f_lrg1, OE.f_trg1, OE.f_lrg2, OE.f_trg2, OE.f_ixM, OE.f_lenM, OE.f_inT, OE.f_inL, OE.f_inS, OE.s_tryN, OE.c_nil, OE.f_all, OE.f_any, OE.f_sum, OE.s_frz, OE.k_frzS, OE.k_fz, OE.f_frzLs, OE.f_frzT, OE.f_frzI, OE.f_frzN, OE.s_mlst, OE.k_ml, OE.s_meth, OE.k_me, OE.f_app, OE.f_extd, OE.f_sorted, OE.s_lc2, OE.k_lcc, OE.f_isB, OE.s_isi2, OE.k_isi2, OE.s_aug, OE.k_aug, OE.w_int, OE.f_revL, OE.f_revT, OE.s_isx, OE.k_isx, OE.startE, Nat.reduceAdd, Nat.reduceLeDiff, Nat.reduceSub, Bool.false_and] at hq ⊢
      exact hq
  | _ => simpa [isTp, OE.w_g0, OE.w_gs, OE.w_s0, OE.w_ss, OE.w_some, OE.w_ex, OE.w_lc, OE.w_ln, OE.w_at, OE.w_ta, OE.w_nt, OE.w_nf, OE.w_it, OE.w_if, OE.w_itP, OE.w_ifP, OE.w_ft, OE.w_mc, OE.w_mn, OE.w_rs, OE.w_r0, OE.w_ca, OE.w_na, OE.w_za, OE.w_sb, OE.w_sz, OE.s_then, OE.k_seqN, OE.k_seqR, OE.k_seqB, OE.k_seqC, OE.s_next, OE.s_ret, OE.k_ret, OE.s_set, OE.k_set, OE.s_ite, OE.k_ite, OE.o_rt, OE.o_nx, OE.s_run, OE.s_var, OE.s_const, OE.s_nil, OE.s_cons, OE.k_cons, OE.k_cons2, OE.s_tup, OE.s_lst, OE.k_tup, OE.k_lst, OE.s_bin, OE.k_bin, OE.k_bin2, OE.s_bind, OE.k_ap, OE.s_call, OE.k_apL, OE.s_fn, OE.k_fn, OE.s_test, OE.k_test, OE.s_and, OE.k_and, OE.s_or, OE.k_or, OE.s_not, OE.k_not, OE.s_andV, OE.k_andV, OE.s_orV, OE.k_orV, OE.s_notV, OE.k_notV, OE.s_if, OE.k_if, OE.s_isN, OE.k_isN, OE.s_noN, OE.k_noN, OE.s_chain, OE.k_ch1, OE.k_ch2, OE.k_ch3, OE.s_isi, OE.k_isi, OE.s_part, OE.k_part, OE.s_slice, OE.k_sl1, OE.k_sl2, OE.k_sl3, OE.s_retO, OE.s_slL, OE.s_slT, OE.s_slS, OE.s_seq, OE.k_itmL, OE.k_itmT, OE.k_itmS, OE.s_its, OE.k_its, OE.s_rng1, OE.s_rng2, OE.s_enT, OE.s_enL, OE.s_zipL, OE.s_zipT, OE.s_for, OE.k_for, OE.for_nil, OE.k_go, OE.k_tN, OE.k_tC, OE.k_tB, OE.k_tR, OE.g_name, OE.g_tup, OE.g_cons, OE.k_gs, OE.g_nil, OE.s_asg, OE.k_asg, OE.k_nx, OE.s_par, OE.k_par, OE.s_lc, OE.k_lc, OE.k_lc1, OE.k_lc2, OE.k_some, OE.s_fail, OE.k_fail, OE.s_fail0, OE.s_try, OE.k_unN, OE.k_unR, OE.s_fld, OE.k_fld, OE.f_addI, OE.f_addT, OE.f_addL, OE.f_addS, OE.f_ii, OE.f_i0, OE.f_mulI, OE.f_mulT, OE.f_mulL, OE.f_neg, OE.f_ixL, OE.f_ixT, OE.f_ixS, OE.f_lenL, OE.f_lenT, OE.f_lenS, OE.f_int, OE.f_min, OE.f_max, OE.f_tupL, OE.f_lstT, OE.f_lstL, OE.f_repr, OE.f_cmpS, OE.f_cmpI, OE.f_cmpT, OE.f_cmpL, OE.s_dict, OE.k_dic, OE.f_getM, OE.s_putM, OE.k_put1, OE.k_put2, OE.s_dm, OE.mGet_left, OE.mGet_seed, OE.mGet_cells, OE.mGet_spot, OE.mPut_left, OE.mPut_spot, OE.k_wh, OE.s_star, OE.k_starT, OE.k_starL, OE.k_star2, OE.s_drop, OE.k_drop, OE.s_par3, OE.k_par3, OE.f_lrg1, OE.f_trg1, OE.f_lrg2, OE.f_trg2, OE.f_ixM, OE.f_lenM, OE.f_inT, OE.f_inL, OE.f_inS, OE.s_tryN, OE.c_nil, OE.f_all, OE.f_any, OE.f_sum, OE.s_frz, OE.k_frzS, OE.k_fz, OE.f_frzLs, OE.f_frzT, OE.f_frzI, OE.f_frzN, OE.s_mlst, OE.k_ml, OE.s_meth, OE.k_me, OE.f_app, OE.f_extd, OE.f_sorted, OE.s_lc2, OE.k_lcc, OE.f_isB, OE.s_isi2, OE.k_isi2, OE.s_aug, OE.k_aug, OE.w_int, OE.f_revL, OE.f_revT, OE.s_isx, OE.k_isx, OE.startE, Nat.reduceAdd, Nat.reduceLeDiff, Nat.reduceSub, isDayD] using hq
theorem day_ints {h : Int} {m : Nat} {d : D} (hd : isDayD h m d = true) : ∃ l : List Int, d = dayD l ∧ (l.length : Nat) ≤ h ∧ ∀ z ∈ l, 0 ≤ z ∧ z ≤ (m : Nat) - 1 := by
  cases d with
  | tup l =>
    simp -implicitDefEqProofs only [isDayD, Bool.and_eq_true, decide_eq_true_eq] at hd
    obtain ⟨gs, rfl, hg⟩ := all_isW hd.2.1
    exact ⟨gs, rfl, by simpa using hd.1, hg⟩
  | _ => cases hd
theorem stand_ints : ∀ {gs : List Int} {l : List D}, l.length = gs.length → zipW l gs = true → ∃ st : List Int, l = st.map D.int ∧ ∀ z ∈ st, 1 ≤ z
  | [], [], _, _ => ⟨[], rfl, fun _ h => nomatch h⟩
  | [], _ :: _, h, _ => by cases h
  | _ :: _, [], h, _ => by cases h
  | g :: gs, d :: l, h, hz => by
    rw [zipW, Bool.and_eq_true] at hz
    obtain ⟨i, rfl, i1, i2⟩ := isW_some hz.1
    obtain ⟨st, rfl, hs⟩ := stand_ints (by simpa using h) hz.2
    exact ⟨i :: st, rfl, fun z hz => by
      rcases List.mem_cons.mp hz with rfl | hz
      · exact i1
      · exact hs z hz⟩
theorem isStand_ints {gs : List Int} {d : D} (h : isStand gs d = true) : ∃ st : List Int, d = dayD st ∧ st.length = gs.length ∧ ∀ z ∈ st, 1 ≤ z := by
  cases d with
  | tup l =>
    simp -implicitDefEqProofs only [isStand, Bool.and_eq_true, decide_eq_true_eq] at h
    obtain ⟨st, rfl, hs⟩ := stand_ints h.1 h.2
    exact ⟨st, rfl, by simpa using h.1, hs⟩
  | _ => cases h
theorem sp_right_days {h : Int} {gs : List Int} {d : D} {k : Nat} {μ : Mu} (ok : PlanOk h gs) (hp : d.plain = true) (hq : if isStand gs d = true then (∀ st : List Int, d = dayD st → q (.tup ((dueL' h.toNat gs st).map dayD)) ⟨k, μ⟩) else x ⟨"BadStanding", some d⟩ ⟨k, μ⟩) : F_right_days Γ [planD h gs, d] ⟨k, μ⟩ q x := by
  wp_walk using t_right_days_2, t_right_days, F_right_days
  refine sp_need_standing ok hp ?_
  by_cases c : isStand gs d = true
  · rw [if_pos c] at hq ⊢
    obtain ⟨st, rfl, hl, _⟩ := isStand_ints c
    wp_walk
    refine sp_due_days ok (by have := ok.l8; omega) ?_
    wp_walk
    exact hq st rfl
  · rw [if_neg c] at hq ⊢
    exact hq
theorem sp_behind {h : Int} {gs : List Int} {d e : D} (ok : PlanOk h gs) (hp : d.plain = true) (he : e.plain = true)
    (hq : if isStand gs d = true then (∀ st : List Int, d = dayD st → if isDayD h gs.length e = true then (∀ l : List Int, e = dayD l → if hasDue st l = true then q (dayD (laterL gs st l)) n else x ⟨"BadDay", some e⟩ n) else x ⟨"BadDay", some e⟩ n) else x ⟨"BadStanding", some d⟩ n) : F_behind Γ [planD h gs, d, e] n q x := by
  wp_walk using t_behind_4, t_behind_2, t_behind, F_behind
  refine sp_need_standing ok hp ?_
  by_cases c : isStand gs d = true
  · rw [if_pos c] at hq ⊢
    obtain ⟨st, rfl, hl, _⟩ := isStand_ints c
    have hs : st.length ≤ 1000 := by have := ok.l8; omega
    wp_walk
    refine sp_is_day ok he ?_
    have hq := hq st rfl
    by_cases c2 : isDayD h gs.length e = true
    · rw [if_pos c2] at hq
      rw [c2]
      obtain ⟨l, rfl, _, _⟩ := day_ints c2
      have hq := hq l rfl
      wp_walk
      refine sp_has_due hs ?_
      by_cases c3 : hasDue st l = true
      · rw [if_pos c3] at hq
        rw [c3]
        wp_walk
        exact sp_later_of hl.symm hs (by wp_walk; exact hq)
      · rw [if_neg c3] at hq
        have c3' : hasDue st l = false := by simpa using c3
        rw [c3']
        wp_walk
        exact hq
    · rw [if_neg c2] at hq
      have c2' : isDayD h gs.length e = false := by simpa using c2
      rw [c2']
      wp_walk
      exact hq
  · rw [if_neg c] at hq ⊢
    exact hq
end PL

namespace PL
open OE
open PySem (Str)
def t_walked_6 (Γ : Gam) : Ev → Wp Out :=
  tret (ttup (tcons (tvar 2) (tcons (tconst .non) (tnil))))
def t_walked_5 (Γ : Gam) : Ev → Wp Out :=
  tset 2 (tfn 3 (F_later_of Γ) (tcons (tvar 0) (tcons (tvar 2) (tcons (tvar 4) (tnil)))))
def t_walked_3 (Γ : Gam) : Ev → Wp Out :=
  tthen (tite (tor (tnot (ttest (tfn 2 (F_is_day Γ) (tcons (tvar 0) (tcons (tvar 4) (tnil)))))) (tnot (ttest (tfn 2 (F_has_due Γ) (tcons (tvar 2) (tcons (tvar 4) (tnil))))))) (tret (ttup (tcons (tvar 2) (tcons (tvar 3) (tnil))))) (tnext))
  (t_walked_5 Γ)
def t_walked_2 (Γ : Gam) : Ev → Wp Out :=
  tthen (tfor (tits fEnum (tcons (tvar 1) (tnil))) (gtup 2 (gcons (gname 3) (gcons (gname 4) (gnil)))) (t_walked_3 Γ))
  (t_walked_6 Γ)
def t_walked (Γ : Gam) : Ev → Wp Out :=
  tthen (tset 2 (tbin fIx (tvar 0) (tconst (.int 1))))
  (t_walked_2 Γ)
def F_walked (Γ : Gam) : List D → Wp D := runDef 5 (t_walked Γ)
def t_row_behind_7 (Γ : Gam) : Ev → Wp Out :=
  tret (tvar 2)
def t_row_behind_5 (Γ : Gam) : Ev → Wp Out :=
  tthen (tite (ttest (tnotN (tvar 3))) (tfail1 "BadRow" (tcons (tvar 3) (tnil))) (tnext))
  (t_row_behind_7 Γ)
def t_row_behind_4 (Γ : Gam) : Ev → Wp Out :=
  tthen (tasg (tfn 2 (F_walked Γ) (tcons (tvar 0) (tcons (tvar 1) (tnil)))) (gtup 2 (gcons (gname 2) (gcons (gname 3) (gnil)))))
  (t_row_behind_5 Γ)
def t_row_behind_2 (Γ : Gam) : Ev → Wp Out :=
  tthen (tite (tor (tnot (ttest (tisi2 "list" "tuple" (tvar 1)))) (ttest (tbin fGt (tcall fLen (tcons (tvar 1) (tnil))) (tconst (.int 1000))))) (tfail1 "BadRow" (tcons (tconst .non) (tnil))) (tnext))
  (t_row_behind_4 Γ)
def t_row_behind (Γ : Gam) : Ev → Wp Out :=
  tthen (tdrop (tfn 1 (F_need_plan Γ) (tcons (tvar 0) (tnil))))
  (t_row_behind_2 Γ)
def F_row_behind (Γ : Gam) : List D → Wp D := runDef 4 (t_row_behind Γ)
def t_is_right_2 (Γ : Gam) : Ev → Wp Out :=
  tret (tandV (tisi "tuple" (tvar 1)) (tisN (tbin fIx (tfn 2 (F_walked Γ) (tcons (tvar 0) (tcons (tvar 1) (tnil)))) (tconst (.int 1)))))
def t_is_right (Γ : Gam) : Ev → Wp Out :=
  tthen (tdrop (tfn 1 (F_need_plan Γ) (tcons (tvar 0) (tnil))))
  (t_is_right_2 Γ)
def F_is_right (Γ : Gam) : List D → Wp D := runDef 2 (t_is_right Γ)
end PL


namespace PL
open OE PySem
local macro_rules | `(tactic| wp_walk) => `(tactic| simp -implicitDefEqProofs only [OE.w_g0, OE.w_gs, OE.w_s0, OE.w_ss, OE.w_some, OE.w_ex, OE.w_lc, OE.w_ln, OE.w_at, OE.w_ta, OE.w_nt, OE.w_nf, OE.w_it, OE.w_if, OE.w_itP, OE.w_ifP, OE.w_ft, OE.w_mc, OE.w_mn, OE.w_rs, OE.w_r0, OE.w_ca, OE.w_na, OE.w_za, OE.w_sb, OE.w_sz, OE.s_then, OE.k_seqN, OE.k_seqR, OE.k_seqB, OE.k_seqC, OE.s_next, OE.s_ret, OE.k_ret, OE.s_set, OE.k_set, OE.s_ite, OE.k_ite, OE.o_rt, OE.o_nx, OE.s_run, OE.s_var, OE.s_const, OE.s_nil, OE.s_cons, OE.k_cons, OE.k_cons2, OE.s_tup, OE.s_lst, OE.k_tup, OE.k_lst, OE.s_bin, OE.k_bin, OE.k_bin2, OE.s_bind, OE.k_ap, OE.s_call, OE.k_apL, OE.s_fn, OE.k_fn, OE.s_test, OE.k_test, OE.s_and, OE.k_and, OE.s_or, OE.k_or, OE.s_not, OE.k_not, OE.s_andV, OE.k_andV, OE.s_orV, OE.k_orV, OE.s_notV, OE.k_notV, OE.s_if, OE.k_if, OE.s_isN, OE.k_isN, OE.s_noN, OE.k_noN, OE.s_chain, OE.k_ch1, OE.k_ch2, OE.k_ch3, OE.s_isi, OE.k_isi, OE.s_part, OE.k_part, OE.s_slice, OE.k_sl1, OE.k_sl2, OE.k_sl3, OE.s_retO, OE.s_slL, OE.s_slT, OE.s_slS, OE.s_seq, OE.k_itmL, OE.k_itmT, OE.k_itmS, OE.s_its, OE.k_its, OE.s_rng1, OE.s_rng2, OE.s_enT, OE.s_enL, OE.s_zipL, OE.s_zipT, OE.s_for, OE.k_for, OE.for_nil, OE.k_go, OE.k_tN, OE.k_tC, OE.k_tB, OE.k_tR, OE.g_name, OE.g_tup, OE.g_cons, OE.k_gs, OE.g_nil, OE.s_asg, OE.k_asg, OE.k_nx, OE.s_par, OE.k_par, OE.s_lc, OE.k_lc, OE.k_lc1, OE.k_lc2, OE.k_some, OE.s_fail, OE.k_fail, OE.s_fail0, OE.s_try, OE.k_unN, OE.k_unR, OE.s_fld, OE.k_fld, OE.f_addI, OE.f_addT, OE.f_addL, OE.f_addS, OE.f_ii, OE.f_i0, OE.f_mulI, OE.f_mulT, OE.f_mulL, OE.f_neg, OE.f_ixL, OE.f_ixT, OE.f_ixS, OE.f_lenL, OE.f_lenT, OE.f_lenS, OE.f_int, OE.f_min, OE.f_max, OE.f_tupL, OE.f_lstT, OE.f_lstL, OE.f_repr, OE.f_cmpS, OE.f_cmpI, OE.f_cmpT, OE.f_cmpL, OE.s_dict, OE.k_dic, OE.f_getM, OE.s_putM, OE.k_put1, OE.k_put2, OE.s_dm, OE.mGet_left, OE.mGet_seed, OE.mGet_cells, OE.mGet_spot, OE.mPut_left, OE.mPut_spot, OE.k_wh, OE.s_star, OE.k_starT, OE.k_starL, OE.k_star2, OE.s_drop, OE.k_drop, OE.s_par3, OE.k_par3, OE.f_lrg1, OE.f_trg1, OE.f_lrg2, OE.f_trg2, OE.f_ixM, OE.f_lenM, OE.f_inT, OE.f_inL, OE.f_inS, OE.s_tryN, OE.c_nil, OE.f_all, OE.f_any, OE.f_sum, OE.s_frz, OE.k_frzS, OE.k_fz, OE.f_frzLs, OE.f_frzT, OE.f_frzI, OE.f_frzN, OE.s_mlst, OE.k_ml, OE.s_meth, OE.k_me, OE.f_app, OE.f_extd, OE.f_sorted, OE.s_lc2, OE.k_lcc, OE.f_isB, OE.s_isi2, OE.k_isi2, OE.s_aug, OE.k_aug, OE.w_int, OE.f_revL, OE.f_revT, OE.s_isx, OE.k_isx, OE.startE, Nat.reduceAdd, Nat.reduceLeDiff, Nat.reduceSub])
local macro_rules | `(tactic| wp_walk using $[$ts],*) => `(tactic| simp -implicitDefEqProofs only [$[$ts:term],*, OE.w_g0, OE.w_gs, OE.w_s0, OE.w_ss, OE.w_some, OE.w_ex, OE.w_lc, OE.w_ln, OE.w_at, OE.w_ta, OE.w_nt, OE.w_nf, OE.w_it, OE.w_if, OE.w_itP, OE.w_ifP, OE.w_ft, OE.w_mc, OE.w_mn, OE.w_rs, OE.w_r0, OE.w_ca, OE.w_na, OE.w_za, OE.w_sb, OE.w_sz, OE.s_then, OE.k_seqN, OE.k_seqR, OE.k_seqB, OE.k_seqC, OE.s_next, OE.s_ret, OE.k_ret, OE.s_set, OE.k_set, OE.s_ite, OE.k_ite, OE.o_rt, OE.o_nx, OE.s_run, OE.s_var, OE.s_const, OE.s_nil, OE.s_cons, OE.k_cons, OE.k_cons2, OE.s_tup, OE.s_lst, OE.k_tup, OE.k_lst, OE.s_bin, OE.k_bin, OE.k_bin2, OE.s_bind, OE.k_ap, OE.s_call, OE.k_apL, OE.s_fn, OE.k_fn, OE.s_test, OE.k_test, OE.s_and, OE.k_and, OE.s_or, OE.k_or, OE.s_not, OE.k_not, OE.s_andV, OE.k_andV, OE.s_orV, OE.k_orV, OE.s_notV, OE.k_notV, OE.s_if, OE.k_if, OE.s_isN, OE.k_isN, OE.s_noN, OE.k_noN, OE.s_chain, OE.k_ch1, OE.k_ch2, OE.k_ch3, OE.s_isi, OE.k_isi, OE.s_part, OE.k_part, OE.s_slice, OE.k_sl1, OE.k_sl2, OE.k_sl3, OE.s_retO, OE.s_slL, OE.s_slT, OE.s_slS, OE.s_seq, OE.k_itmL, OE.k_itmT, OE.k_itmS, OE.s_its, OE.k_its, OE.s_rng1, OE.s_rng2, OE.s_enT, OE.s_enL, OE.s_zipL, OE.s_zipT, OE.s_for, OE.k_for, OE.for_nil, OE.k_go, OE.k_tN, OE.k_tC, OE.k_tB, OE.k_tR, OE.g_name, OE.g_tup, OE.g_cons, OE.k_gs, OE.g_nil, OE.s_asg, OE.k_asg, OE.k_nx, OE.s_par, OE.k_par, OE.s_lc, OE.k_lc, OE.k_lc1, OE.k_lc2, OE.k_some, OE.s_fail, OE.k_fail, OE.s_fail0, OE.s_try, OE.k_unN, OE.k_unR, OE.s_fld, OE.k_fld, OE.f_addI, OE.f_addT, OE.f_addL, OE.f_addS, OE.f_ii, OE.f_i0, OE.f_mulI, OE.f_mulT, OE.f_mulL, OE.f_neg, OE.f_ixL, OE.f_ixT, OE.f_ixS, OE.f_lenL, OE.f_lenT, OE.f_lenS, OE.f_int, OE.f_min, OE.f_max, OE.f_tupL, OE.f_lstT, OE.f_lstL, OE.f_repr, OE.f_cmpS, OE.f_cmpI, OE.f_cmpT, OE.f_cmpL, OE.s_dict, OE.k_dic, OE.f_getM, OE.s_putM, OE.k_put1, OE.k_put2, OE.s_dm, OE.mGet_left, OE.mGet_seed, OE.mGet_cells, OE.mGet_spot, OE.mPut_left, OE.mPut_spot, OE.k_wh, OE.s_star, OE.k_starT, OE.k_starL, OE.k_star2, OE.s_drop, OE.k_drop, OE.s_par3, OE.k_par3, OE.f_lrg1, OE.f_trg1, OE.f_lrg2, OE.f_trg2, OE.f_ixM, OE.f_lenM, OE.f_inT, OE.f_inL, OE.f_inS, OE.s_tryN, OE.c_nil, OE.f_all, OE.f_any, OE.f_sum, OE.s_frz, OE.k_frzS, OE.k_fz, OE.f_frzLs, OE.f_frzT, OE.f_frzI, OE.f_frzN, OE.s_mlst, OE.k_ml, OE.s_meth, OE.k_me, OE.f_app, OE.f_extd, OE.f_sorted, OE.s_lc2, OE.k_lcc, OE.f_isB, OE.s_isi2, OE.k_isi2, OE.s_aug, OE.k_aug, OE.w_int, OE.f_revL, OE.f_revT, OE.s_isx, OE.k_isx, OE.startE, Nat.reduceAdd, Nat.reduceLeDiff, Nat.reduceSub])
variable [TN] {Γ : Gam} {n : S} {q : D → S → Prop} {x : Exn → S → Prop}
/-! ### rows walked -/
def dayI : D → List Int
  | .tup l => (intsOf l).getD []
  | _ => []
theorem dayI_day (l : List Int) : dayI (dayD l) = l := ints_day l
def walkP (h : Int) (gs : List Int) : List Int → Nat → List D → List Int × Option Nat
  | st, _, [] => (st, none)
  | st, i, d :: ds => if (isDayD h gs.length d && hasDue st (dayI d)) = true then walkP h gs (laterL gs st (dayI d)) (i + 1) ds else (st, some i)
def plD : Option Nat → D
  | none => .non
  | some i => .int ((i : Nat) : Int)
theorem sp_walked {h : Int} {gs : List Int} {row : D} {l : List D} (ok : PlanOk h gs) (hr : row = .tup l ∨ row = .lst l) (hp : ∀ d ∈ l, d.plain = true) (hq : q (.tup [dayD (walkP h gs gs 0 l).1, plD (walkP h gs gs 0 l).2]) n) : F_walked Γ [planD h gs, row] n q x := by
  have l8 := ok.l8
  have go : forW (gtup 2 (gcons (gname 3) (gcons (gname 4) gnil))) (t_walked_3 Γ) (enumD 0 l) [some (planD h gs), some row, some (dayD gs), none, none] n (kSeq (t_walked_6 Γ) (outQ q) x) x := by
    refine for_inv (I := fun ds ρ s => s = n ∧ ∃ (i : Nat) (l' : List D) (st : List Int), ds = enumD i l' ∧ (∀ d ∈ l', d.plain = true) ∧ st.length = gs.length ∧ walkP h gs st i l' = walkP h gs gs 0 l ∧ ∃ o3 o4 : Option D, ρ = [some (planD h gs), some row, some (dayD st), o3, o4]) ?_ ?_ _ _ _ ⟨rfl, 0, l, gs, rfl, hp, rfl, rfl, _, _, rfl⟩
    · rintro d ds ρ s k ⟨rfl, i, l', st, hd, hp', hl, hw, o3, o4, rfl⟩ k1 k2
      cases l' with
      | nil => cases hd
      | cons e l' =>
        cases hd
        have he := hp' e List.mem_cons_self
        have hs : st.length ≤ 1000 := by omega
        wp_walk using t_walked_3
        refine sp_is_day (Γ := Γ) ok he ?_
        rw [walkP] at hw
        by_cases c : isDayD h gs.length e = true
        · obtain ⟨z, rfl, _, _⟩ := day_ints c
          rw [dayI_day] at hw
          rw [c]
          wp_walk
          refine sp_has_due (Γ := Γ) hs ?_
          by_cases c2 : hasDue st z = true
          · rw [c, c2, Bool.true_and, if_pos rfl] at hw
            rw [c2]
            wp_walk using t_walked_5
            refine sp_later_of (Γ := Γ) hl.symm hs ?_
            wp_walk
            exact k1 _ _ ⟨rfl, i + 1, l', _, rfl, fun d hd => hp' d (List.mem_cons_of_mem _ hd), by rw [later_len]; exact hl, hw, _, _, rfl⟩
          · have c2' : hasDue st z = false := by simpa using c2
            rw [c, c2', Bool.true_and, if_neg (by decide)] at hw
            rw [c2']
            wp_walk
            refine k2 _ _ ?_
            rw [← hw] at hq
            wp_walk
            exact hq
        · have c' : isDayD h gs.length e = false := by simpa using c
          rw [c', Bool.false_and, if_neg (by decide)] at hw
          rw [c']
          wp_walk
          refine k2 _ _ ?_
          rw [← hw] at hq
          wp_walk
          exact hq
    · rintro ρ s ⟨rfl, i, l', st, hd, hp', hl, hw, o3, o4, rfl⟩
      cases l' with
      | cons e l' => cases hd
      | nil =>
        rw [walkP] at hw
        rw [← hw] at hq
        wp_walk using t_walked_6
        exact hq
  rcases hr with rfl | rfl
  · wp_walk using F_walked, t_walked, t_walked_2, planD, at1
    exact go
  · wp_walk using F_walked, t_walked, t_walked_2, planD, at1
    exact go
def rowL : D → Option (List D)
  | .tup l => some l
  | .lst l => some l
  | _ => none
theorem plain_lst {l : List D} (h : (D.lst l).plain = true) : D.plainAll l = true := by rw [D.plain] at h; exact h
theorem sp_row_behind {h : Int} {gs : List Int} {row : D} (ok : PlanOk h gs) (hp : row.plain = true) (hsc : ∀ ns, row ≠ .scr ns)
    (hq : match rowL row with
      | none => x ⟨"BadRow", some .non⟩ n
      | some l => if l.length ≤ 1000 then (match (walkP h gs gs 0 l).2 with | none => q (dayD (walkP h gs gs 0 l).1) n | some i => x ⟨"BadRow", some (.int ((i : Nat) : Int))⟩ n) else x ⟨"BadRow", some .non⟩ n) : F_row_behind Γ [planD h gs, row] n q x := by
  have fin : ∀ l, (row = .tup l ∨ row = .lst l) → rowL row = some l → (∀ d ∈ l, d.plain = true) → F_row_behind Γ [planD h gs, row] n q x := fun l hr er hl => by
    rw [er] at hq
    dsimp only at hq
    wp_walk using F_row_behind, t_row_behind
    refine sp_needOk (Γ := Γ) ok ?_
    wp_walk using t_row_behind_2
    refine ⟨noE hp, ?_⟩
    have e : (isiB "list" row || isiB "tuple" row) = true := by rcases hr with rfl | rfl <;> rfl
    rw [e]
    have fin2 : ((if 1000 < ((l.length : Nat) : Int) then x ⟨"BadRow", some .non⟩ n else t_row_behind_4 Γ [some (planD h gs), some row, none, none] n (outQ q) x)) := by
      by_cases c : l.length ≤ 1000
      · rw [if_pos c] at hq
        rw [if_neg (by omega)]
        wp_walk using t_row_behind_4
        refine sp_walked (Γ := Γ) ok hr hl ?_
        cases ew : (walkP h gs gs 0 l).2 with
        | none =>
          rw [ew] at hq
          wp_walk using plD, t_row_behind_5, t_row_behind_7, isNon
          exact hq
        | some i =>
          rw [ew] at hq
          wp_walk using plD, t_row_behind_5, t_row_behind_7, isNon
          exact hq
      · rw [if_neg c] at hq
        rw [if_pos (by omega)]
        exact hq
    rcases hr with rfl | rfl
    · wp_walk
      by_cases c : 1000 < ((l.length : Nat) : Int)
      · rw [if_pos c] at fin2
        wp_walk using c, decide_true
        exact fin2
      · rw [if_neg c] at fin2
        wp_walk using c, decide_false
        exact fin2
    · wp_walk
      by_cases c : 1000 < ((l.length : Nat) : Int)
      · rw [if_pos c] at fin2
        wp_walk using c, decide_true
        exact fin2
      · rw [if_neg c] at fin2
        wp_walk using c, decide_false
        exact fin2
  cases row with
  | tup l => exact fin l (.inl rfl) rfl fun d hd => plain_mem (plain_tup hp) hd
  | lst l => exact fin l (.inr rfl) rfl fun d hd => plain_mem (plain_lst hp) hd
  | scr ns => exact absurd rfl (hsc ns)
  | _ =>
    wp_walk using F_row_behind, t_row_behind
    refine sp_needOk (Γ := Γ) ok ?_
    wp_walk using t_row_behind_2
    refine ⟨noE hp, ?_⟩
    simpa [isiB, isiN, tyName, rowL, D.plain] using hq
def isRightD (h : Int) (gs : List Int) : D → Bool
  | .tup l => (walkP h gs gs 0 l).2.isNone
  | _ => false
theorem sp_is_right {h : Int} {gs : List Int} {row : D} (ok : PlanOk h gs) (hp : row.plain = true) (hq : q (.bl (isRightD h gs row)) n) : F_is_right Γ [planD h gs, row] n q x := by
  wp_walk using F_is_right, t_is_right
  refine sp_needOk (Γ := Γ) ok ?_
  wp_walk using t_is_right_2, isi_tup
  refine ⟨noE hp, ?_⟩
  cases row with
  | tup l =>
    wp_walk using isTp
    refine sp_walked (Γ := Γ) ok (.inl rfl) (fun d hd => plain_mem (plain_tup hp) hd) ?_
    wp_walk using at1
    unfold isRightD at hq
    dsimp only at hq
    cases e : (walkP h gs gs 0 l).2 with
    | none => rw [e] at hq; exact hq
    | some i => rw [e] at hq; exact hq
  | _ => simpa [isTp, isRightD, OE.w_g0, OE.w_gs, OE.w_s0, OE.w_ss, OE.w_some, OE.w_ex, OE.w_lc, OE.w_ln, OE.w_at, OE.w_ta, OE.w_nt, OE.w_nf, OE.w_it, OE.w_if, OE.w_itP, OE.w_ifP, OE.w_ft, OE.w_mc, OE.w_mn, OE.w_rs, OE.w_r0, OE.w_ca, OE.w_na, OE.w_za, OE.w_sb, OE.w_sz, OE.s_then, OE.k_seqN, OE.k_seqR, OE.k_seqB, OE.k_seqC, OE.s_next, OE.s_ret, OE.k_ret, OE.s_set, OE.k_set, OE.s_ite, OE.k_ite, OE.o_rt, OE.o_nx, OE.s_run, OE.s_var, OE.s_const, OE.s_nil, OE.s_cons, OE.k_cons, OE.k_cons2, OE.s_tup, OE.s_lst, OE.k_tup, OE.k_lst, OE.s_bin, OE.k_bin, OE.k_bin2, OE.s_bind, OE.k_ap, OE.s_call, OE.k_apL, OE.s_fn, OE.k_fn, OE.s_test, OE.k_test, OE.s_and, OE.k_and, OE.s_or, OE.k_or, OE.s_not, OE.k_not, OE.s_andV, OE.k_andV, OE.s_orV, OE.k_orV, OE.s_notV, OE.k_notV, OE.s_if, OE.k_if, OE.s_isN, OE.k_isN, OE.s_noN, OE.k_noN, OE.s_chain, OE.k_ch1, OE.k_ch2, OE.k_ch3, OE.s_isi, OE.k_isi, OE.s_part, OE.k_part, OE.s_slice, OE.k_sl1, OE.k_sl2, OE.k_sl3, OE.s_retO, OE.s_slL, OE.s_slT, OE.s_slS, OE.s_seq, OE.k_itmL, OE.k_itmT, OE.k_itmS, OE.s_its, OE.k_its, OE.s_rng1, OE.s_rng2, OE.s_enT, OE.s_enL, OE.s_zipL, OE.s_zipT, OE.s_for, OE.k_for, OE.for_nil, OE.k_go, OE.k_tN, OE.k_tC, OE.k_tB, OE.k_tR, OE.g_name, OE.g_tup, OE.g_cons, OE.k_gs, OE.g_nil, OE.s_asg, OE.k_asg, OE.k_nx, OE.s_par, OE.k_par, OE.s_lc, OE.k_lc, OE.k_lc1, OE.k_lc2, OE.k_some, OE.s_fail, OE.k_fail, OE.s_fail0, OE.s_try, OE.k_unN, OE.k_unR, OE.s_fld, OE.k_fld, OE.f_addI, OE.f_addT, OE.f_addL, OE.f_addS, OE.f_ii, OE.f_i0, OE.f_mulI, OE.f_mulT, OE.f_mulL, OE.f_neg, OE.f_ixL, OE.f_ixT, OE.f_ixS, OE.f_lenL, OE.f_lenT, OE.f_lenS, OE.f_int, OE.f_min, OE.f_max, OE.f_tupL, OE.f_lstT, OE.f_lstL, OE.f_repr, OE.f_cmpS, OE.f_cmpI, OE.f_cmpT, OE.f_cmpL, OE.s_dict, OE.k_dic, OE.f_getM, OE.s_putM, OE.k_put1, OE.k_put2, OE.s_dm, OE.mGet_left, OE.mGet_seed, OE.mGet_cells, OE.mGet_spot, OE.mPut_left, OE.mPut_spot, OE.k_wh, OE.s_star, OE.k_starT, OE.k_starL, OE.k_star2, OE.s_drop, OE.k_drop, OE.s_par3, OE.k_par3, OE.f_lrg1, OE.f_trg1, OE.f_lrg2, OE.f_trg2, OE.f_ixM, OE.f_lenM, OE.f_inT, OE.f_inL, OE.f_inS, OE.s_tryN, OE.c_nil, OE.f_all, OE.f_any, OE.f_sum, OE.s_frz, OE.k_frzS, OE.k_fz, OE.f_frzLs, OE.f_frzT, OE.f_frzI, OE.f_frzN, OE.s_mlst, OE.k_ml, OE.s_meth, OE.k_me, OE.f_app, OE.f_extd, OE.f_sorted, OE.s_lc2, OE.k_lcc, OE.f_isB, OE.s_isi2, OE.k_isi2, OE.s_aug, OE.k_aug, OE.w_int, OE.f_revL, OE.f_revT, OE.s_isx, OE.k_isx, OE.startE, Nat.reduceAdd, Nat.reduceLeDiff, Nat.reduceSub] using hq
end PL

namespace PL
open OE
open PySem (Str)
def t__law_lots_4 (Γ : Gam) : Ev → Wp Out :=
  tret (tcall fSorted (tcons (tvar 2) (tnil)))
def t__law_lots_3 (Γ : Gam) : Ev → Wp Out :=
  tset 2 (tbin fAdd (tvar 2) (tlc (tseq (tvar 2)) (gname 4) (ttest (tbin fLt (tcall fLen (tcons (tvar 4) (tnil))) (tvar 0))) (tbin fAdd (tvar 4) (ttup (tcons (tvar 3) (tnil)))) [4]))
def t__law_lots_2 (Γ : Gam) : Ev → Wp Out :=
  tthen (tfor (tits fRange1 (tcons (tvar 1) (tnil))) (gname 3) (t__law_lots_3 Γ))
  (t__law_lots_4 Γ)
def t__law_lots (Γ : Gam) : Ev → Wp Out :=
  tthen (tset 2 (tlst (tcons (ttup (tnil)) (tnil))))
  (t__law_lots_2 Γ)
def F__law_lots (Γ : Gam) : List D → Wp D := runDef 5 (t__law_lots Γ)
def t__law_go_3 (Γ : Gam) : Ev → Wp Out :=
  tret (tif (ttest (tbin fNe (tvar 4) (tlst (tnil)))) (tconst .non) (tvar 3))
def t__law_go_2 (Γ : Gam) : Ev → Wp Out :=
  tthen (tset 4 (tlc (tits fZip (tcons (tvar 3) (tcons (tbin fIx (tvar 0) (tconst (.int 1))) (tnil)))) (gtup 2 (gcons (gname 6) (gcons (gname 7) (gnil)))) (ttest (tbin fGe (tvar 6) (tvar 7))) (tconst (.int 1)) [6, 7]))
  (t__law_go_3 Γ)
def t__law_go (Γ : Gam) : Ev → Wp Out :=
  tthen (tset 3 (tcall fTuple (tcons (tlc (tits fEnum (tcons (tvar 1) (tnil))) (gtup 2 (gcons (gname 5) (gcons (gname 6) (gnil)))) (fun _ => Wp.ret true) (tif (ttest (tbin (fIn false) (tvar 5) (tvar 2))) (tconst (.int 0)) (tbin fAdd (tvar 6) (tconst (.int 1)))) [5, 6]) (tnil))))
  (t__law_go_2 Γ)
def F__law_go (Γ : Gam) : List D → Wp D := runDef 8 (t__law_go Γ)
def t__law_shown (Γ : Gam) : Ev → Wp Out :=
  tret (tcall fTuple (tcons (tlc (tits fZip (tcons (tbin fIx (tvar 0) (tconst (.int 1))) (tcons (tvar 1) (tnil)))) (gtup 2 (gcons (gname 2) (gcons (gname 3) (gnil)))) (fun _ => Wp.ret true) (tbin fSub (tvar 2) (tvar 3)) [2, 3]) (tnil)))
def F__law_shown (Γ : Gam) : List D → Wp D := runDef 4 (t__law_shown Γ)
def t__law_start (Γ : Gam) : Ev → Wp Out :=
  tret (tbin fMul (ttup (tcons (tconst (.int 0)) (tnil))) (tcall fLen (tcons (tbin fIx (tvar 0) (tconst (.int 1))) (tnil))))
def F__law_start (Γ : Gam) : List D → Wp D := runDef 1 (t__law_start Γ)
def t__law_size_4 (Γ : Gam) : Ev → Wp Out :=
  tret (tvar 1)
def t__law_size_3 (Γ : Gam) : Ev → Wp Out :=
  tset 1 (tbin fMul (tvar 1) (tvar 2))
def t__law_size_2 (Γ : Gam) : Ev → Wp Out :=
  tthen (tfor (tseq (tvar 0)) (gname 2) (t__law_size_3 Γ))
  (t__law_size_4 Γ)
def t__law_size (Γ : Gam) : Ev → Wp Out :=
  tthen (tset 1 (tconst (.int 1)))
  (t__law_size_2 Γ)
def F__law_size (Γ : Gam) : List D → Wp D := runDef 3 (t__law_size Γ)
end PL


namespace PL
open OE PySem
local macro_rules | `(tactic| wp_walk) => `(tactic| simp -implicitDefEqProofs only [OE.w_g0, OE.w_gs, OE.w_s0, OE.w_ss, OE.w_some, OE.w_ex, OE.w_lc, OE.w_ln, OE.w_at, OE.w_ta, OE.w_nt, OE.w_nf, OE.w_it, OE.w_if, OE.w_itP, OE.w_ifP, OE.w_ft, OE.w_mc, OE.w_mn, OE.w_rs, OE.w_r0, OE.w_ca, OE.w_na, OE.w_za, OE.w_sb, OE.w_sz, OE.s_then, OE.k_seqN, OE.k_seqR, OE.k_seqB, OE.k_seqC, OE.s_next, OE.s_ret, OE.k_ret, OE.s_set, OE.k_set, OE.s_ite, OE.k_ite, OE.o_rt, OE.o_nx, OE.s_run, OE.s_var, OE.s_const, OE.s_nil, OE.s_cons, OE.k_cons, OE.k_cons2, OE.s_tup, OE.s_lst, OE.k_tup, OE.k_lst, OE.s_bin, OE.k_bin, OE.k_bin2, OE.s_bind, OE.k_ap, OE.s_call, OE.k_apL, OE.s_fn, OE.k_fn, OE.s_test, OE.k_test, OE.s_and, OE.k_and, OE.s_or, OE.k_or, OE.s_not, OE.k_not, OE.s_andV, OE.k_andV, OE.s_orV, OE.k_orV, OE.s_notV, OE.k_notV, OE.s_if, OE.k_if, OE.s_isN, OE.k_isN, OE.s_noN, OE.k_noN, OE.s_chain, OE.k_ch1, OE.k_ch2, OE.k_ch3, OE.s_isi, OE.k_isi, OE.s_part, OE.k_part, OE.s_slice, OE.k_sl1, OE.k_sl2, OE.k_sl3, OE.s_retO, OE.s_slL, OE.s_slT, OE.s_slS, OE.s_seq, OE.k_itmL, OE.k_itmT, OE.k_itmS, OE.s_its, OE.k_its, OE.s_rng1, OE.s_rng2, OE.s_enT, OE.s_enL, OE.s_zipL, OE.s_zipT, OE.s_for, OE.k_for, OE.for_nil, OE.k_go, OE.k_tN, OE.k_tC, OE.k_tB, OE.k_tR, OE.g_name, OE.g_tup, OE.g_cons, OE.k_gs, OE.g_nil, OE.s_asg, OE.k_asg, OE.k_nx, OE.s_par, OE.k_par, OE.s_lc, OE.k_lc, OE.k_lc1, OE.k_lc2, OE.k_some, OE.s_fail, OE.k_fail, OE.s_fail0, OE.s_try, OE.k_unN, OE.k_unR, OE.s_fld, OE.k_fld, OE.f_addI, OE.f_addT, OE.f_addL, OE.f_addS, OE.f_ii, OE.f_i0, OE.f_mulI, OE.f_mulT, OE.f_mulL, OE.f_neg, OE.f_ixL, OE.f_ixT, OE.f_ixS, OE.f_lenL, OE.f_lenT, OE.f_lenS, OE.f_int, OE.f_min, OE.f_max, OE.f_tupL, OE.f_lstT, OE.f_lstL, OE.f_repr, OE.f_cmpS, OE.f_cmpI, OE.f_cmpT, OE.f_cmpL, OE.s_dict, OE.k_dic, OE.f_getM, OE.s_putM, OE.k_put1, OE.k_put2, OE.s_dm, OE.mGet_left, OE.mGet_seed, OE.mGet_cells, OE.mGet_spot, OE.mPut_left, OE.mPut_spot, OE.k_wh, OE.s_star, OE.k_starT, OE.k_starL, OE.k_star2, OE.s_drop, OE.k_drop, OE.s_par3, OE.k_par3, OE.f_lrg1, OE.f_trg1, OE.f_lrg2, OE.f_trg2, OE.f_ixM, OE.f_lenM, OE.f_inT, OE.f_inL, OE.f_inS, OE.s_tryN, OE.c_nil, OE.f_all, OE.f_any, OE.f_sum, OE.s_frz, OE.k_frzS, OE.k_fz, OE.f_frzLs, OE.f_frzT, OE.f_frzI, OE.f_frzN, OE.s_mlst, OE.k_ml, OE.s_meth, OE.k_me, OE.f_app, OE.f_extd, OE.f_sorted, OE.s_lc2, OE.k_lcc, OE.f_isB, OE.s_isi2, OE.k_isi2, OE.s_aug, OE.k_aug, OE.w_int, OE.f_revL, OE.f_revT, OE.s_isx, OE.k_isx, OE.startE, Nat.reduceAdd, Nat.reduceLeDiff, Nat.reduceSub])
local macro_rules | `(tactic| wp_walk using $[$ts],*) => `(tactic| simp -implicitDefEqProofs only [$[$ts:term],*, OE.w_g0, OE.w_gs, OE.w_s0, OE.w_ss, OE.w_some, OE.w_ex, OE.w_lc, OE.w_ln, OE.w_at, OE.w_ta, OE.w_nt, OE.w_nf, OE.w_it, OE.w_if, OE.w_itP, OE.w_ifP, OE.w_ft, OE.w_mc, OE.w_mn, OE.w_rs, OE.w_r0, OE.w_ca, OE.w_na, OE.w_za, OE.w_sb, OE.w_sz, OE.s_then, OE.k_seqN, OE.k_seqR, OE.k_seqB, OE.k_seqC, OE.s_next, OE.s_ret, OE.k_ret, OE.s_set, OE.k_set, OE.s_ite, OE.k_ite, OE.o_rt, OE.o_nx, OE.s_run, OE.s_var, OE.s_const, OE.s_nil, OE.s_cons, OE.k_cons, OE.k_cons2, OE.s_tup, OE.s_lst, OE.k_tup, OE.k_lst, OE.s_bin, OE.k_bin, OE.k_bin2, OE.s_bind, OE.k_ap, OE.s_call, OE.k_apL, OE.s_fn, OE.k_fn, OE.s_test, OE.k_test, OE.s_and, OE.k_and, OE.s_or, OE.k_or, OE.s_not, OE.k_not, OE.s_andV, OE.k_andV, OE.s_orV, OE.k_orV, OE.s_notV, OE.k_notV, OE.s_if, OE.k_if, OE.s_isN, OE.k_isN, OE.s_noN, OE.k_noN, OE.s_chain, OE.k_ch1, OE.k_ch2, OE.k_ch3, OE.s_isi, OE.k_isi, OE.s_part, OE.k_part, OE.s_slice, OE.k_sl1, OE.k_sl2, OE.k_sl3, OE.s_retO, OE.s_slL, OE.s_slT, OE.s_slS, OE.s_seq, OE.k_itmL, OE.k_itmT, OE.k_itmS, OE.s_its, OE.k_its, OE.s_rng1, OE.s_rng2, OE.s_enT, OE.s_enL, OE.s_zipL, OE.s_zipT, OE.s_for, OE.k_for, OE.for_nil, OE.k_go, OE.k_tN, OE.k_tC, OE.k_tB, OE.k_tR, OE.g_name, OE.g_tup, OE.g_cons, OE.k_gs, OE.g_nil, OE.s_asg, OE.k_asg, OE.k_nx, OE.s_par, OE.k_par, OE.s_lc, OE.k_lc, OE.k_lc1, OE.k_lc2, OE.k_some, OE.s_fail, OE.k_fail, OE.s_fail0, OE.s_try, OE.k_unN, OE.k_unR, OE.s_fld, OE.k_fld, OE.f_addI, OE.f_addT, OE.f_addL, OE.f_addS, OE.f_ii, OE.f_i0, OE.f_mulI, OE.f_mulT, OE.f_mulL, OE.f_neg, OE.f_ixL, OE.f_ixT, OE.f_ixS, OE.f_lenL, OE.f_lenT, OE.f_lenS, OE.f_int, OE.f_min, OE.f_max, OE.f_tupL, OE.f_lstT, OE.f_lstL, OE.f_repr, OE.f_cmpS, OE.f_cmpI, OE.f_cmpT, OE.f_cmpL, OE.s_dict, OE.k_dic, OE.f_getM, OE.s_putM, OE.k_put1, OE.k_put2, OE.s_dm, OE.mGet_left, OE.mGet_seed, OE.mGet_cells, OE.mGet_spot, OE.mPut_left, OE.mPut_spot, OE.k_wh, OE.s_star, OE.k_starT, OE.k_starL, OE.k_star2, OE.s_drop, OE.k_drop, OE.s_par3, OE.k_par3, OE.f_lrg1, OE.f_trg1, OE.f_lrg2, OE.f_trg2, OE.f_ixM, OE.f_lenM, OE.f_inT, OE.f_inL, OE.f_inS, OE.s_tryN, OE.c_nil, OE.f_all, OE.f_any, OE.f_sum, OE.s_frz, OE.k_frzS, OE.k_fz, OE.f_frzLs, OE.f_frzT, OE.f_frzI, OE.f_frzN, OE.s_mlst, OE.k_ml, OE.s_meth, OE.k_me, OE.f_app, OE.f_extd, OE.f_sorted, OE.s_lc2, OE.k_lcc, OE.f_isB, OE.s_isi2, OE.k_isi2, OE.s_aug, OE.k_aug, OE.w_int, OE.f_revL, OE.f_revT, OE.s_isx, OE.k_isx, OE.startE, Nat.reduceAdd, Nat.reduceLeDiff, Nat.reduceSub])
variable [TN] {Γ : Gam} {n : S} {q : D → S → Prop} {x : Exn → S → Prop}
/-! ### the law's own days -/
def lawFound (h : Nat) : Nat → List (List Int)
  | 0 => [[]]
  | m + 1 => lawFound h m ++ ((lawFound h m).filter fun l => decide (l.length < h)).map fun l => l ++ [((m : Nat) : Int)]
theorem law_days : (List.range 3).all (fun h => (List.range 8).all fun m => decide (isortL (lawFound (h + 1) (m + 1)) = daysL (h + 1) (m + 1))) = true := by decide +kernel
theorem law_days' {h : Int} {m : Nat} (h1 : 1 ≤ h) (h3 : h ≤ 3) (m1 : 1 ≤ m) (m8 : m ≤ 8) : isortL (lawFound h.toNat m) = daysL h.toNat m := by
  have z := law_days
  rw [List.all_eq_true] at z
  have z1 := z (h.toNat - 1) (List.mem_range.mpr (by omega))
  rw [List.all_eq_true] at z1
  have z2 := z1 (m - 1) (List.mem_range.mpr (by omega))
  have e1 : h.toNat - 1 + 1 = h.toNat := by omega
  have e2 : m - 1 + 1 = m := by omega
  rw [e1, e2] at z2
  exact of_decide_eq_true z2
theorem found_le (h : Nat) : ∀ m, (lawFound h m).length ≤ 2 ^ m
  | 0 => Nat.le_refl 1
  | m + 1 => by
    have ih := found_le h m
    rw [lawFound, List.length_append, List.length_map, Nat.pow_succ]
    have := List.length_filter_le (fun l : List Int => decide (l.length < h)) (lawFound h m)
    omega
theorem found_nil (h : Nat) : ∀ m, ∃ M, lawFound h m = [] :: M
  | 0 => ⟨[], rfl⟩
  | m + 1 => by
    obtain ⟨M, e⟩ := found_nil h m
    exact ⟨M ++ ((lawFound h m).filter fun l => decide (l.length < h)).map fun l => l ++ [((m : Nat) : Int)], by rw [lawFound]; exact congrArg (· ++ _) e⟩
theorem found_lens (h : Nat) : ∀ m, ∀ l ∈ lawFound h m, l.length ≤ m
  | 0, l, hl => by
    have : l = [] := by simpa [lawFound] using hl
    subst this; exact Nat.le_refl _
  | m + 1, l, hl => by
    rw [lawFound] at hl
    rcases List.mem_append.mp hl with hl | hl
    · exact Nat.le_succ_of_le (found_lens h m l hl)
    · obtain ⟨l', h1, rfl⟩ := List.mem_map.mp hl
      have := found_lens h m l' (List.mem_filter.mp h1).1
      rw [List.length_append]
      simpa using this
theorem sp_lots {h : Int} {m : Nat} (h1 : 1 ≤ h) (h3 : h ≤ 3) (m1 : 1 ≤ m) (m8 : m ≤ 8) (hq : q (.lst ((daysL h.toNat m).map dayD)) n) : F__law_lots Γ [.int h, .int (m : Nat)] n q x := by
  wp_walk using F__law_lots, t__law_lots, t__law_lots_2
  refine ⟨by omega, ?_⟩
  refine for_inv (I := fun ds ρ s => s = n ∧ ∃ k : Nat, k + ds.length = m ∧ ds = rangeD (k : Nat) ds.length ∧ ∃ o3 : Option D, ρ = [some (.int h), some (.int (m : Nat)), some (.lst ((lawFound h.toNat k).map dayD)), o3, none]) ?_ ?_ _ _ _ ⟨rfl, 0, by rw [range_len]; omega, by rw [range_len]; rfl, none, rfl⟩
  · rintro d ds ρ s k' ⟨rfl, k, hk, hd, o3, rfl⟩ k1 k2
    rw [List.length_cons] at hk hd
    have ed : d = .int (k : Nat) ∧ ds = rangeD ((k + 1 : Nat) : Int) ds.length := by
      unfold rangeD at hd ⊢
      rw [List.range_succ_eq_map, List.map_cons, List.map_map] at hd
      injection hd with e1 e2
      refine ⟨by rw [e1]; simp, ?_⟩
      rw [e2]
      simp -implicitDefEqProofs only [List.length_map, List.length_range]
      refine List.map_congr_left fun z _ => ?_
      show D.int _ = D.int _
      congr 1
      show (k : Int) + ((z + 1 : Nat) : Int) = _
      omega
    obtain ⟨rfl, eds⟩ := ed
    have fl := found_le h.toNat k
    have p8 : 2 ^ k ≤ 128 := Nat.le_trans (Nat.pow_le_pow_right (by decide) (by omega : k ≤ 7)) (by decide)
    wp_walk using t__law_lots_3
    refine ⟨by rw [List.length_map]; omega, lc_pure (f := fun d => match d with | .tup l => if decide (l.length < h.toNat) = true then some (.tup (l ++ [.int (k : Nat)])) else none | _ => none) (fun d hd n k' hk' => ?_) ?_⟩
    · obtain ⟨l, hl, rfl⟩ := List.mem_map.mp hd
      have := found_lens _ _ l hl
      rw [s_lc1]
      simp -implicitDefEqProofs only [wipeE, dayD, OE.w_g0, OE.w_gs, OE.w_s0, OE.w_ss, OE.w_some, OE.w_ex, OE.w_lc, OE.w_ln, OE.w_at, OE.w_ta, OE.w_nt, OE.w_nf, OE.w_it, OE.w_if, OE.w_itP, OE.w_ifP, OE.w_ft, OE.w_mc, OE.w_mn, OE.w_rs, OE.w_r0, OE.w_ca, OE.w_na, OE.w_za, OE.w_sb, OE.w_sz, OE.s_then, OE.k_seqN, OE.k_seqR, OE.k_seqB, OE.k_seqC, OE.s_next, OE.s_ret, OE.k_ret, OE.s_set, OE.k_set, OE.s_ite, OE.k_ite, OE.o_rt, OE.o_nx, OE.s_run, OE.s_var, OE.s_const, OE.s_nil, OE.s_cons, OE.k_cons, OE.k_cons2, OE.s_tup, OE.s_lst, OE.k_tup, OE.k_lst, OE.s_bin, OE.k_bin, OE.k_bin2, OE.s_bind, OE.k_ap, OE.s_call, OE.k_apL, OE.s_fn, OE.k_fn, OE.s_test, OE.k_test, OE.s_and, OE.k_and, OE.s_or, OE.k_or, OE.s_not, OE.k_not, OE.s_andV, OE.k_andV, OE.s_orV, OE.k_orV, OE.s_notV, OE.k_notV, OE.s_if, OE.k_if, OE.s_isN, OE.k_isN, OE.s_noN, OE.k_noN, OE.s_chain, OE.k_ch1, OE.k_ch2, OE.k_ch3, OE.s_isi, OE.k_isi, OE.s_part, OE.k_part, OE.s_slice, OE.k_sl1, OE.k_sl2, OE.k_sl3, OE.s_retO, OE.s_slL, OE.s_slT, OE.s_slS, OE.s_seq, OE.k_itmL, OE.k_itmT, OE.k_itmS, OE.s_its, OE.k_its, OE.s_rng1, OE.s_rng2, OE.s_enT, OE.s_enL, OE.s_zipL, OE.s_zipT, OE.s_for, OE.k_for, OE.for_nil, OE.k_go, OE.k_tN, OE.k_tC, OE.k_tB, OE.k_tR, OE.g_name, OE.g_tup, OE.g_cons, OE.k_gs, OE.g_nil, OE.s_asg, OE.k_asg, OE.k_nx, OE.s_par, OE.k_par, OE.s_lc, OE.k_lc, OE.k_lc1, OE.k_lc2, OE.k_some, OE.s_fail, OE.k_fail, OE.s_fail0, OE.s_try, OE.k_unN, OE.k_unR, OE.s_fld, OE.k_fld, OE.f_addI, OE.f_addT, OE.f_addL, OE.f_addS, OE.f_ii, OE.f_i0, OE.f_mulI, OE.f_mulT, OE.f_mulL, OE.f_neg, OE.f_ixL, OE.f_ixT, OE.f_ixS, OE.f_lenL, OE.f_lenT, OE.f_lenS, OE.f_int, OE.f_min, OE.f_max, OE.f_tupL, OE.f_lstT, OE.f_lstL, OE.f_repr, OE.f_cmpS, OE.f_cmpI, OE.f_cmpT, OE.f_cmpL, OE.s_dict, OE.k_dic, OE.f_getM, OE.s_putM, OE.k_put1, OE.k_put2, OE.s_dm, OE.mGet_left, OE.mGet_seed, OE.mGet_cells, OE.mGet_spot, OE.mPut_left, OE.mPut_spot, OE.k_wh, OE.s_star, OE.k_starT, OE.k_starL, OE.k_star2, OE.s_drop, OE.k_drop, OE.s_par3, OE.k_par3, OE.f_lrg1, OE.f_trg1, OE.f_lrg2, OE.f_trg2, OE.f_ixM, OE.f_lenM, OE.f_inT, OE.f_inL, OE.f_inS, OE.s_tryN, OE.c_nil, OE.f_all, OE.f_any, OE.f_sum, OE.s_frz, OE.k_frzS, OE.k_fz, OE.f_frzLs, OE.f_frzT, OE.f_frzI, OE.f_frzN, OE.s_mlst, OE.k_ml, OE.s_meth, OE.k_me, OE.f_app, OE.f_extd, OE.f_sorted, OE.s_lc2, OE.k_lcc, OE.f_isB, OE.s_isi2, OE.k_isi2, OE.s_aug, OE.k_aug, OE.w_int, OE.f_revL, OE.f_revT, OE.s_isx, OE.k_isx, OE.startE, Nat.reduceAdd, Nat.reduceLeDiff, Nat.reduceSub, List.length_map] at hk' ⊢
      by_cases c : l.length < h.toNat
      · have c' : ((l.length : Nat) : Int) < h := by omega
        simp -implicitDefEqProofs only [c, c', decide_true, OE.w_g0, OE.w_gs, OE.w_s0, OE.w_ss, OE.w_some, OE.w_ex, OE.w_lc, OE.w_ln, OE.w_at, OE.w_ta, OE.w_nt, OE.w_nf, OE.w_it, OE.w_if, OE.w_itP, OE.w_ifP, OE.w_ft, OE.w_mc, OE.w_mn, OE.w_rs, OE.w_r0, OE.w_ca, OE.w_na, OE.w_za, OE.w_sb, OE.w_sz, OE.s_then, OE.k_seqN, OE.k_seqR, OE.k_seqB, OE.k_seqC, OE.s_next, OE.s_ret, OE.k_ret, OE.s_set, OE.k_set, OE.s_ite, OE.k_ite, OE.o_rt, OE.o_nx, OE.s_run, OE.s_var, OE.s_const, OE.s_nil, OE.s_cons, OE.k_cons, OE.k_cons2, OE.s_tup, OE.s_lst, OE.k_tup, OE.k_lst, OE.s_bin, OE.k_bin, OE.k_bin2, OE.s_bind, OE.k_ap, OE.s_call, OE.k_apL, OE.s_fn, OE.k_fn, OE.s_test, OE.k_test, OE.s_and, OE.k_and, OE.s_or, OE.k_or, OE.s_not, OE.k_not, OE.s_andV, OE.k_andV, OE.s_orV, OE.k_orV, OE.s_notV, OE.k_notV, OE.s_if, OE.k_if, OE.s_isN, OE.k_isN, OE.s_noN, OE.k_noN, OE.s_chain, OE.k_ch1, OE.k_ch2, OE.k_ch3, OE.s_isi, OE.k_isi, OE.s_part, OE.k_part, OE.s_slice, OE.k_sl1, OE.k_sl2, OE.k_sl3, OE.s_retO, OE.s_slL, OE.s_slT, OE.s_slS, OE.s_seq, OE.k_itmL, OE.k_itmT, OE.k_itmS, OE.s_its, OE.k_its, OE.s_rng1, OE.s_rng2, OE.s_enT, OE.s_enL, OE.s_zipL, OE.s_zipT, OE.s_for, OE.k_for, OE.for_nil, OE.k_go, OE.k_tN, OE.k_tC, OE.k_tB, OE.k_tR, OE.g_name, OE.g_tup, OE.g_cons, OE.k_gs, OE.g_nil, OE.s_asg, OE.k_asg, OE.k_nx, OE.s_par, OE.k_par, OE.s_lc, OE.k_lc, OE.k_lc1, OE.k_lc2, OE.k_some, OE.s_fail, OE.k_fail, OE.s_fail0, OE.s_try, OE.k_unN, OE.k_unR, OE.s_fld, OE.k_fld, OE.f_addI, OE.f_addT, OE.f_addL, OE.f_addS, OE.f_ii, OE.f_i0, OE.f_mulI, OE.f_mulT, OE.f_mulL, OE.f_neg, OE.f_ixL, OE.f_ixT, OE.f_ixS, OE.f_lenL, OE.f_lenT, OE.f_lenS, OE.f_int, OE.f_min, OE.f_max, OE.f_tupL, OE.f_lstT, OE.f_lstL, OE.f_repr, OE.f_cmpS, OE.f_cmpI, OE.f_cmpT, OE.f_cmpL, OE.s_dict, OE.k_dic, OE.f_getM, OE.s_putM, OE.k_put1, OE.k_put2, OE.s_dm, OE.mGet_left, OE.mGet_seed, OE.mGet_cells, OE.mGet_spot, OE.mPut_left, OE.mPut_spot, OE.k_wh, OE.s_star, OE.k_starT, OE.k_starL, OE.k_star2, OE.s_drop, OE.k_drop, OE.s_par3, OE.k_par3, OE.f_lrg1, OE.f_trg1, OE.f_lrg2, OE.f_trg2, OE.f_ixM, OE.f_lenM, OE.f_inT, OE.f_inL, OE.f_inS, OE.s_tryN, OE.c_nil, OE.f_all, OE.f_any, OE.f_sum, OE.s_frz, OE.k_frzS, OE.k_fz, OE.f_frzLs, OE.f_frzT, OE.f_frzI, OE.f_frzN, OE.s_mlst, OE.k_ml, OE.s_meth, OE.k_me, OE.f_app, OE.f_extd, OE.f_sorted, OE.s_lc2, OE.k_lcc, OE.f_isB, OE.s_isi2, OE.k_isi2, OE.s_aug, OE.k_aug, OE.w_int, OE.f_revL, OE.f_revT, OE.s_isx, OE.k_isx, OE.startE, Nat.reduceAdd, Nat.reduceLeDiff, Nat.reduceSub] at hk' ⊢
        exact ⟨by omega, hk'⟩
      · have c' : ¬ ((l.length : Nat) : Int) < h := by omega
        simp -implicitDefEqProofs only [c, c', decide_false, OE.w_g0, OE.w_gs, OE.w_s0, OE.w_ss, OE.w_some, OE.w_ex, OE.w_lc, OE.w_ln, OE.w_at, OE.w_ta, OE.w_nt, OE.w_nf, OE.w_it, OE.w_if, OE.w_itP, OE.w_ifP, OE.w_ft, OE.w_mc, OE.w_mn, OE.w_rs, OE.w_r0, OE.w_ca, OE.w_na, OE.w_za, OE.w_sb, OE.w_sz, OE.s_then, OE.k_seqN, OE.k_seqR, OE.k_seqB, OE.k_seqC, OE.s_next, OE.s_ret, OE.k_ret, OE.s_set, OE.k_set, OE.s_ite, OE.k_ite, OE.o_rt, OE.o_nx, OE.s_run, OE.s_var, OE.s_const, OE.s_nil, OE.s_cons, OE.k_cons, OE.k_cons2, OE.s_tup, OE.s_lst, OE.k_tup, OE.k_lst, OE.s_bin, OE.k_bin, OE.k_bin2, OE.s_bind, OE.k_ap, OE.s_call, OE.k_apL, OE.s_fn, OE.k_fn, OE.s_test, OE.k_test, OE.s_and, OE.k_and, OE.s_or, OE.k_or, OE.s_not, OE.k_not, OE.s_andV, OE.k_andV, OE.s_orV, OE.k_orV, OE.s_notV, OE.k_notV, OE.s_if, OE.k_if, OE.s_isN, OE.k_isN, OE.s_noN, OE.k_noN, OE.s_chain, OE.k_ch1, OE.k_ch2, OE.k_ch3, OE.s_isi, OE.k_isi, OE.s_part, OE.k_part, OE.s_slice, OE.k_sl1, OE.k_sl2, OE.k_sl3, OE.s_retO, OE.s_slL, OE.s_slT, OE.s_slS, OE.s_seq, OE.k_itmL, OE.k_itmT, OE.k_itmS, OE.s_its, OE.k_its, OE.s_rng1, OE.s_rng2, OE.s_enT, OE.s_enL, OE.s_zipL, OE.s_zipT, OE.s_for, OE.k_for, OE.for_nil, OE.k_go, OE.k_tN, OE.k_tC, OE.k_tB, OE.k_tR, OE.g_name, OE.g_tup, OE.g_cons, OE.k_gs, OE.g_nil, OE.s_asg, OE.k_asg, OE.k_nx, OE.s_par, OE.k_par, OE.s_lc, OE.k_lc, OE.k_lc1, OE.k_lc2, OE.k_some, OE.s_fail, OE.k_fail, OE.s_fail0, OE.s_try, OE.k_unN, OE.k_unR, OE.s_fld, OE.k_fld, OE.f_addI, OE.f_addT, OE.f_addL, OE.f_addS, OE.f_ii, OE.f_i0, OE.f_mulI, OE.f_mulT, OE.f_mulL, OE.f_neg, OE.f_ixL, OE.f_ixT, OE.f_ixS, OE.f_lenL, OE.f_lenT, OE.f_lenS, OE.f_int, OE.f_min, OE.f_max, OE.f_tupL, OE.f_lstT, OE.f_lstL, OE.f_repr, OE.f_cmpS, OE.f_cmpI, OE.f_cmpT, OE.f_cmpL, OE.s_dict, OE.k_dic, OE.f_getM, OE.s_putM, OE.k_put1, OE.k_put2, OE.s_dm, OE.mGet_left, OE.mGet_seed, OE.mGet_cells, OE.mGet_spot, OE.mPut_left, OE.mPut_spot, OE.k_wh, OE.s_star, OE.k_starT, OE.k_starL, OE.k_star2, OE.s_drop, OE.k_drop, OE.s_par3, OE.k_par3, OE.f_lrg1, OE.f_trg1, OE.f_lrg2, OE.f_trg2, OE.f_ixM, OE.f_lenM, OE.f_inT, OE.f_inL, OE.f_inS, OE.s_tryN, OE.c_nil, OE.f_all, OE.f_any, OE.f_sum, OE.s_frz, OE.k_frzS, OE.k_fz, OE.f_frzLs, OE.f_frzT, OE.f_frzI, OE.f_frzN, OE.s_mlst, OE.k_ml, OE.s_meth, OE.k_me, OE.f_app, OE.f_extd, OE.f_sorted, OE.s_lc2, OE.k_lcc, OE.f_isB, OE.s_isi2, OE.k_isi2, OE.s_aug, OE.k_aug, OE.w_int, OE.f_revL, OE.f_revT, OE.s_isx, OE.k_isx, OE.startE, Nat.reduceAdd, Nat.reduceLeDiff, Nat.reduceSub] at hk' ⊢
        exact hk'
    · have e : ((lawFound h.toNat k).map dayD).filterMap (fun d => match d with | .tup l => if decide (l.length < h.toNat) = true then some (D.tup (l ++ [.int (k : Nat)])) else none | _ => none) = (((lawFound h.toNat k).filter fun l => decide (l.length < h.toNat)).map fun l => l ++ [((k : Nat) : Int)]).map dayD := by
        induction lawFound h.toNat k with
        | nil => rfl
        | cons l L ih =>
          rw [List.map_cons, List.filterMap_cons, List.filter_cons, ih]
          simp -implicitDefEqProofs only [dayD, List.length_map]
          by_cases c : l.length < h.toNat
          · simp [c, dayD]
          · simp [c]
      rw [e]
      have fl2 := found_le h.toNat (k + 1)
      rw [lawFound, List.length_append] at fl2
      have p9 : 2 ^ (k + 1) ≤ 256 := Nat.le_trans (Nat.pow_le_pow_right (by decide) (by omega : k + 1 ≤ 8)) (by decide)
      refine ⟨by rw [List.length_map, List.length_map]; omega, ?_⟩
      refine k1 _ _ ⟨rfl, k + 1, by omega, eds, some (.int (k : Nat)), ?_⟩
      rw [lawFound, List.map_append]
  · rintro ρ s ⟨rfl, k, hk, _, o3, rfl⟩
    have ek : k = m := by simpa using hk
    subst ek
    wp_walk using t__law_lots_4
    refine ⟨sort_ok_days (found_nil _ _), ?_⟩
    rw [sort_days, law_days' h1 h3 m1 m8]
    exact hq
/-! ### the law's going, plain -/
theorem enumI_get : ∀ (l : List Int) (i j : Nat), (enumI i l)[j]? = l[j]?.map fun z => (i + j, z)
  | [], _, _ => by simp [enumI]
  | z :: l, i, 0 => by simp [enumI]
  | z :: l, i, j + 1 => by
    rw [enumI, List.getElem?_cons_succ, List.getElem?_cons_succ, enumI_get l (i + 1) j]
    congr 1
    funext w
    rw [show i + 1 + j = i + (j + 1) by omega]
def agesL (l ages : List Int) : List Int := (enumI 0 ages).map fun p => if isIn l p.1 = true then 0 else p.2 + 1
def stOf : List Int → List Int → List Int
  | g :: gs, a :: as => (g - a) :: stOf gs as
  | _, _ => []
def lateL : List Int → List Int → Bool
  | a :: as, g :: gs => decide (g ≤ a) || lateL as gs
  | _, _ => false
def goL (gs ages l : List Int) : Option (List Int) := if lateL (agesL l ages) gs = true then none else some (agesL l ages)
/-- ages as they can be -/
structure AgOk (gs ages : List Int) : Prop where
  len : ages.length = gs.length
  at' : ∀ (i : Nat) (g a : Int), gs[i]? = some g → ages[i]? = some a → 0 ≤ a ∧ a < g
theorem stOf_get : ∀ (gs as : List Int) (i : Nat) (g a : Int), gs[i]? = some g → as[i]? = some a → (stOf gs as)[i]? = some (g - a)
  | [], _, _, _, _, h, _ => by simp at h
  | _ :: _, [], _, _, _, _, h => by simp at h
  | g :: gs, a :: as, 0, _, _, h, h' => by cases h; cases h'; rfl
  | g :: gs, a :: as, i + 1, _, _, h, h' => by
    rw [stOf, List.getElem?_cons_succ]
    exact stOf_get gs as i _ _ (by simpa using h) (by simpa using h')
theorem stOf_len : ∀ (gs as : List Int), as.length = gs.length → (stOf gs as).length = gs.length
  | [], _, _ => by simp [stOf]
  | _ :: _, [], h => by cases h
  | _ :: gs, _ :: as, h => by rw [stOf, List.length_cons, List.length_cons, stOf_len gs as (by simpa using h)]
theorem agesL_len (l ages : List Int) : (agesL l ages).length = ages.length := by unfold agesL; rw [List.length_map, enumI_len]
theorem agesL_get {l ages : List Int} {i : Nat} {a : Int} (h : ages[i]? = some a) : (agesL l ages)[i]? = some (if isIn l i = true then 0 else a + 1) := by
  unfold agesL
  rw [List.getElem?_map, enumI_get, h]
  simp
theorem late_iff : ∀ (as gs : List Int), lateL as gs = true ↔ ∃ (i : Nat) (a g : Int), as[i]? = some a ∧ gs[i]? = some g ∧ g ≤ a
  | [], gs => by simp [lateL]
  | _ :: _, [] => by simp [lateL]
  | a :: as, g :: gs => by
    rw [lateL, Bool.or_eq_true, late_iff as gs]
    constructor
    · rintro (h | ⟨i, a', g', h1, h2, h3⟩)
      · exact ⟨0, a, g, rfl, rfl, of_decide_eq_true h⟩
      · exact ⟨i + 1, a', g', by simpa using h1, by simpa using h2, h3⟩
    · rintro ⟨i, a', g', h1, h2, h3⟩
      cases i with
      | zero => cases h1; cases h2; exact .inl (decide_eq_true h3)
      | succ i => exact .inr ⟨i, a', g', by simpa using h1, by simpa using h2, h3⟩
theorem due_iff (st l : List Int) : hasDue st l = true ↔ ∀ (i : Nat) (s : Int), st[i]? = some s → 1 < s ∨ isIn l i = true := by
  unfold hasDue
  rw [List.all_eq_true]
  constructor
  · intro h i s hs
    have := h (i, s) (List.mem_of_getElem? (i := i) (by rw [enumI_get, hs]; simp))
    simpa using this
  · intro h p hp
    obtain ⟨j, hj⟩ := List.mem_iff_getElem?.mp hp
    rw [enumI_get] at hj
    cases e : st[j]? with
    | none => rw [e] at hj; cases hj
    | some s =>
      rw [e] at hj
      simp -implicitDefEqProofs only [Option.map_some, Option.some.injEq, Nat.zero_add] at hj
      subst hj
      simpa using h j s e
theorem get_of_len {α : Type} {l : List α} {i : Nat} (h : i < l.length) : ∃ a, l[i]? = some a := ⟨l[i], List.getElem?_eq_getElem h⟩
theorem lt_of_get {α : Type} {l : List α} {i : Nat} {a : α} (h : l[i]? = some a) : i < l.length := by
  rcases Nat.lt_or_ge i l.length with z | z
  · exact z
  · rw [List.getElem?_eq_none z] at h; cases h
theorem go_due {gs ages l : List Int} (ok : AgOk gs ages) : lateL (agesL l ages) gs = !hasDue (stOf gs ages) l := by
  cases e : hasDue (stOf gs ages) l with
  | true =>
    cases e2 : lateL (agesL l ages) gs with
    | false => rfl
    | true =>
      obtain ⟨i, a, g, h1, h2, h3⟩ := (late_iff _ _).mp e2
      have hi := lt_of_get h1
      rw [agesL_len] at hi
      obtain ⟨b, hb⟩ := get_of_len hi
      rw [agesL_get hb] at h1
      have h0 := ok.at' i g b h2 hb
      have h4 := (due_iff _ _).mp e i (g - b) (stOf_get gs ages i g b h2 hb)
      injection h1 with h1
      by_cases c : isIn l i = true
      · rw [if_pos c] at h1; omega
      · rw [if_neg c] at h1
        rcases h4 with z | z
        · omega
        · exact absurd z c
  | false =>
    refine (late_iff _ _).mpr ?_
    have e' : ¬ hasDue (stOf gs ages) l = true := by rw [e]; decide
    rw [due_iff] at e'
    have ⟨i, hi⟩ := Classical.not_forall.mp e'
    have ⟨s, hs⟩ := Classical.not_forall.mp hi
    have ⟨h1, h2⟩ := Classical.not_imp.mp hs
    have hl := lt_of_get h1
    rw [stOf_len gs ages ok.len] at hl
    obtain ⟨g, hg⟩ := get_of_len hl
    obtain ⟨b, hb⟩ := get_of_len (l := ages) (i := i) (by rw [ok.len]; exact hl)
    rw [stOf_get gs ages i g b hg hb] at h1
    injection h1 with h1
    refine ⟨i, _, g, agesL_get hb, hg, ?_⟩
    rw [not_or] at h2
    rw [if_neg h2.2]
    omega
theorem go_ok {gs ages l : List Int} (ok : AgOk gs ages) (hl : lateL (agesL l ages) gs = false) : AgOk gs (agesL l ages) := by
  refine ⟨by rw [agesL_len]; exact ok.len, fun i g a hg ha => ?_⟩
  have hi := lt_of_get ha
  rw [agesL_len] at hi
  obtain ⟨b, hb⟩ := get_of_len hi
  have h0 := ok.at' i g b hg hb
  have e := agesL_get (l := l) hb
  rw [e] at ha
  injection ha with ha
  have nl : ¬ g ≤ a := fun z => by
    have : lateL (agesL l ages) gs = true := (late_iff _ _).mpr ⟨i, a, g, by rw [e, ha], hg, z⟩
    rw [hl] at this; cases this
  refine ⟨?_, by omega⟩
  rw [← ha]; split <;> omega
theorem go_later {gs ages l : List Int} (ok : AgOk gs ages) : laterL gs (stOf gs ages) l = stOf gs (agesL l ages) := by
  refine List.ext_getElem? fun i => ?_
  by_cases hi : i < gs.length
  · obtain ⟨g, hg⟩ := get_of_len hi
    obtain ⟨b, hb⟩ := get_of_len (l := ages) (i := i) (by rw [ok.len]; exact hi)
    rw [stOf_get gs (agesL l ages) i g _ hg (agesL_get hb)]
    unfold laterL
    rw [List.getElem?_map, enumI_get, stOf_get gs ages i g b hg hb]
    simp -implicitDefEqProofs only [Option.map_some, Nat.zero_add, List.getD_eq_getElem?_getD, hg, Option.getD_some]
    congr 1
    split <;> omega
  · rw [List.getElem?_eq_none (by rw [later_len, stOf_len gs ages ok.len]; omega), List.getElem?_eq_none (by rw [stOf_len gs _ (by rw [agesL_len]; exact ok.len)]; omega)]
/-! ### the law's going, read -/
theorem sp_start {h : Int} {gs : List Int} (ok : PlanOk h gs) (hq : q (dayD (List.replicate gs.length 0)) n) : F__law_start Γ [planD h gs] n q x := by
  have l1 := ok.l1
  have l8 := ok.l8
  wp_walk using t__law_start, F__law_start, planD, at1, List.length_map
  refine ⟨⟨by simp, by omega, by omega⟩, ?_⟩
  have e : (List.replicate ((gs.length : Nat) : Int).toNat [D.int 0]).flatten = (List.replicate gs.length (0 : Int)).map D.int := by
    rw [Int.toNat_natCast]
    induction gs.length with
    | zero => rfl
    | succ k ih => rw [List.replicate_succ, List.flatten_cons, ih, List.replicate_succ]; rfl
  rw [e]
  exact hq
def lateD : D → Option D
  | .tup [.int a, .int g] => if g ≤ a then some (.int 1) else none
  | _ => none
theorem late_D : ∀ as gs : List Int, ((zipD (as.map D.int) (gs.map D.int)).filterMap lateD).isEmpty = !lateL as gs
  | [], _ => by simp [zipD, lateL]
  | _ :: _, [] => by simp [zipD, lateL]
  | a :: as, g :: gs => by
    rw [List.map_cons, List.map_cons, zipD, List.filterMap_cons, lateL]
    by_cases c : g ≤ a
    · simp [lateD, c]
    · simp -implicitDefEqProofs only [lateD, c, if_false, decide_false, Bool.false_or]
      exact late_D as gs
theorem sp_go {h : Int} {gs ages l : List Int} (ok : AgOk gs ages) (l8 : gs.length ≤ 8) (hq : q (match goL gs ages l with | none => .non | some a => dayD a) n) : F__law_go Γ [planD h gs, dayD ages, dayD l] n q x := by
  have el := ok.len
  wp_walk using t__law_go_3, t__law_go_2, t__law_go, F__law_go, dayD, planD, enumI_D, at1
  refine ⟨by rw [List.length_map, enumI_len]; omega, lc_map (f := fun d => match d with | .tup [.int i, .int s] => .int (if isIn l i.toNat = true then 0 else s + 1) | _ => .non) (fun d hd n k hk => ?_) ?_⟩
  · obtain ⟨p, hp, rfl⟩ := List.mem_map.mp hd
    rw [s_lc1]
    wp_walk using wipeE, at1
    refine ⟨⟨rfl, flat_ints l⟩, ?_⟩
    rw [PL.any_ints]
    have et : ((p.1 : Nat) : Int).toNat = p.1 := Int.toNat_natCast _
    simp -implicitDefEqProofs only [et] at hk
    by_cases c : isIn l p.1 = true
    · rw [if_pos c] at hk
      rw [c]
      wp_walk using Bool.false_xor
      exact hk
    · rw [if_neg c] at hk
      have c' : isIn l p.1 = false := by simpa using c
      rw [c']
      wp_walk using Bool.false_xor
      exact hk
  · rw [List.map_map]
    have e : ((fun d => match d with | .tup [.int i, .int s] => D.int (if isIn l i.toNat = true then 0 else s + 1) | _ => .non) ∘ fun p : Nat × Int => D.tup [.int (p.1 : Nat), .int p.2]) = D.int ∘ fun p => if isIn l p.1 = true then 0 else p.2 + 1 := by
      funext p
      show D.int _ = D.int _
      rw [Int.toNat_natCast]
    rw [e, ← List.map_map]
    refine ⟨by rw [zipD_length, List.length_map, List.length_map, enumI_len]; omega, lc_pure (f := lateD) (fun d hd n k hk => ?_) ?_⟩
    · obtain ⟨a, b, rfl, ha, hb⟩ := zip_mem hd
      obtain ⟨u, _, rfl⟩ := List.mem_map.mp ha
      obtain ⟨v, _, rfl⟩ := List.mem_map.mp hb
      rw [s_lc1]
      wp_walk using wipeE
      simp -implicitDefEqProofs only [lateD] at hk
      by_cases c : v ≤ u
      · rw [if_pos c] at hk
        wp_walk using c, decide_true
        exact hk
      · rw [if_neg c] at hk
        wp_walk using c, decide_false
        exact hk
    · have ez := late_D (agesL l ages) gs
      unfold agesL at ez
      wp_walk
      rw [ez]
      unfold goL at hq
      cases e2 : lateL (agesL l ages) gs with
      | true =>
        rw [if_pos e2] at hq
        unfold agesL at e2
        rw [e2]
        exact hq
      | false =>
        rw [if_neg (by rw [e2]; decide)] at hq
        unfold agesL at e2 hq
        rw [e2]
        exact hq
theorem shownD : ∀ gs as : List Int, (zipD (gs.map D.int) (as.map D.int)).map (fun d => match d with | .tup [.int g, .int a] => D.int (g - a) | _ => .non) = (stOf gs as).map D.int
  | [], _ => by simp [zipD, stOf]
  | _ :: _, [] => by simp [zipD, stOf]
  | g :: gs, a :: as => by rw [List.map_cons, List.map_cons, zipD, List.map_cons, stOf, List.map_cons, shownD gs as]
theorem sp_shown {h : Int} {gs ages : List Int} (hl : ages.length = gs.length) (l8 : gs.length ≤ 8) (hq : q (dayD (stOf gs ages)) n) : F__law_shown Γ [planD h gs, dayD ages] n q x := by
  wp_walk using t__law_shown, F__law_shown, dayD, planD, at1
  refine ⟨by rw [zipD_length, List.length_map, List.length_map]; omega, lc_map (f := fun d => match d with | .tup [.int g, .int a] => .int (g - a) | _ => .non) (fun d hd n k hk => ?_) ?_⟩
  · obtain ⟨a, b, rfl, ha, hb⟩ := zip_mem hd
    obtain ⟨u, _, rfl⟩ := List.mem_map.mp ha
    obtain ⟨v, _, rfl⟩ := List.mem_map.mp hb
    rw [s_lc1]
    wp_walk using wipeE
    exact hk
  · rw [shownD]
    exact hq
end PL

namespace PL
open OE PySem
local macro_rules | `(tactic| wp_walk) => `(tactic| simp -implicitDefEqProofs only [OE.w_g0, OE.w_gs, OE.w_s0, OE.w_ss, OE.w_some, OE.w_ex, OE.w_lc, OE.w_ln, OE.w_at, OE.w_ta, OE.w_nt, OE.w_nf, OE.w_it, OE.w_if, OE.w_itP, OE.w_ifP, OE.w_ft, OE.w_mc, OE.w_mn, OE.w_rs, OE.w_r0, OE.w_ca, OE.w_na, OE.w_za, OE.w_sb, OE.w_sz, OE.s_then, OE.k_seqN, OE.k_seqR, OE.k_seqB, OE.k_seqC, OE.s_next, OE.s_ret, OE.k_ret, OE.s_set, OE.k_set, OE.s_ite, OE.k_ite, OE.o_rt, OE.o_nx, OE.s_run, OE.s_var, OE.s_const, OE.s_nil, OE.s_cons, OE.k_cons, OE.k_cons2, OE.s_tup, OE.s_lst, OE.k_tup, OE.k_lst, OE.s_bin, OE.k_bin, OE.k_bin2, OE.s_bind, OE.k_ap, OE.s_call, OE.k_apL, OE.s_fn, OE.k_fn, OE.s_test, OE.k_test, OE.s_and, OE.k_and, OE.s_or, OE.k_or, OE.s_not, OE.k_not, OE.s_andV, OE.k_andV, OE.s_orV, OE.k_orV, OE.s_notV, OE.k_notV, OE.s_if, OE.k_if, OE.s_isN, OE.k_isN, OE.s_noN, OE.k_noN, OE.s_chain, OE.k_ch1, OE.k_ch2, OE.k_ch3, OE.s_isi, OE.k_isi, OE.s_part, OE.k_part, OE.s_slice, OE.k_sl1, OE.k_sl2, OE.k_sl3, OE.s_retO, OE.s_slL, OE.s_slT, OE.s_slS, OE.s_seq, OE.k_itmL, OE.k_itmT, OE.k_itmS, OE.s_its, OE.k_its, OE.s_rng1, OE.s_rng2, OE.s_enT, OE.s_enL, OE.s_zipL, OE.s_zipT, OE.s_for, OE.k_for, OE.for_nil, OE.k_go, OE.k_tN, OE.k_tC, OE.k_tB, OE.k_tR, OE.g_name, OE.g_tup, OE.g_cons, OE.k_gs, OE.g_nil, OE.s_asg, OE.k_asg, OE.k_nx, OE.s_par, OE.k_par, OE.s_lc, OE.k_lc, OE.k_lc1, OE.k_lc2, OE.k_some, OE.s_fail, OE.k_fail, OE.s_fail0, OE.s_try, OE.k_unN, OE.k_unR, OE.s_fld, OE.k_fld, OE.f_addI, OE.f_addT, OE.f_addL, OE.f_addS, OE.f_ii, OE.f_i0, OE.f_mulI, OE.f_mulT, OE.f_mulL, OE.f_neg, OE.f_ixL, OE.f_ixT, OE.f_ixS, OE.f_lenL, OE.f_lenT, OE.f_lenS, OE.f_int, OE.f_min, OE.f_max, OE.f_tupL, OE.f_lstT, OE.f_lstL, OE.f_repr, OE.f_cmpS, OE.f_cmpI, OE.f_cmpT, OE.f_cmpL, OE.s_dict, OE.k_dic, OE.f_getM, OE.s_putM, OE.k_put1, OE.k_put2, OE.s_dm, OE.mGet_left, OE.mGet_seed, OE.mGet_cells, OE.mGet_spot, OE.mPut_left, OE.mPut_spot, OE.k_wh, OE.s_star, OE.k_starT, OE.k_starL, OE.k_star2, OE.s_drop, OE.k_drop, OE.s_par3, OE.k_par3, OE.f_lrg1, OE.f_trg1, OE.f_lrg2, OE.f_trg2, OE.f_ixM, OE.f_lenM, OE.f_inT, OE.f_inL, OE.f_inS, OE.s_tryN, OE.c_nil, OE.f_all, OE.f_any, OE.f_sum, OE.s_frz, OE.k_frzS, OE.k_fz, OE.f_frzLs, OE.f_frzT, OE.f_frzI, OE.f_frzN, OE.s_mlst, OE.k_ml, OE.s_meth, OE.k_me, OE.f_app, OE.f_extd, OE.f_sorted, OE.s_lc2, OE.k_lcc, OE.f_isB, OE.s_isi2, OE.k_isi2, OE.s_aug, OE.k_aug, OE.w_int, OE.f_revL, OE.f_revT, OE.s_isx, OE.k_isx, OE.startE, Nat.reduceAdd, Nat.reduceLeDiff, Nat.reduceSub])
local macro_rules | `(tactic| wp_walk using $[$ts],*) => `(tactic| simp -implicitDefEqProofs only [$[$ts:term],*, OE.w_g0, OE.w_gs, OE.w_s0, OE.w_ss, OE.w_some, OE.w_ex, OE.w_lc, OE.w_ln, OE.w_at, OE.w_ta, OE.w_nt, OE.w_nf, OE.w_it, OE.w_if, OE.w_itP, OE.w_ifP, OE.w_ft, OE.w_mc, OE.w_mn, OE.w_rs, OE.w_r0, OE.w_ca, OE.w_na, OE.w_za, OE.w_sb, OE.w_sz, OE.s_then, OE.k_seqN, OE.k_seqR, OE.k_seqB, OE.k_seqC, OE.s_next, OE.s_ret, OE.k_ret, OE.s_set, OE.k_set, OE.s_ite, OE.k_ite, OE.o_rt, OE.o_nx, OE.s_run, OE.s_var, OE.s_const, OE.s_nil, OE.s_cons, OE.k_cons, OE.k_cons2, OE.s_tup, OE.s_lst, OE.k_tup, OE.k_lst, OE.s_bin, OE.k_bin, OE.k_bin2, OE.s_bind, OE.k_ap, OE.s_call, OE.k_apL, OE.s_fn, OE.k_fn, OE.s_test, OE.k_test, OE.s_and, OE.k_and, OE.s_or, OE.k_or, OE.s_not, OE.k_not, OE.s_andV, OE.k_andV, OE.s_orV, OE.k_orV, OE.s_notV, OE.k_notV, OE.s_if, OE.k_if, OE.s_isN, OE.k_isN, OE.s_noN, OE.k_noN, OE.s_chain, OE.k_ch1, OE.k_ch2, OE.k_ch3, OE.s_isi, OE.k_isi, OE.s_part, OE.k_part, OE.s_slice, OE.k_sl1, OE.k_sl2, OE.k_sl3, OE.s_retO, OE.s_slL, OE.s_slT, OE.s_slS, OE.s_seq, OE.k_itmL, OE.k_itmT, OE.k_itmS, OE.s_its, OE.k_its, OE.s_rng1, OE.s_rng2, OE.s_enT, OE.s_enL, OE.s_zipL, OE.s_zipT, OE.s_for, OE.k_for, OE.for_nil, OE.k_go, OE.k_tN, OE.k_tC, OE.k_tB, OE.k_tR, OE.g_name, OE.g_tup, OE.g_cons, OE.k_gs, OE.g_nil, OE.s_asg, OE.k_asg, OE.k_nx, OE.s_par, OE.k_par, OE.s_lc, OE.k_lc, OE.k_lc1, OE.k_lc2, OE.k_some, OE.s_fail, OE.k_fail, OE.s_fail0, OE.s_try, OE.k_unN, OE.k_unR, OE.s_fld, OE.k_fld, OE.f_addI, OE.f_addT, OE.f_addL, OE.f_addS, OE.f_ii, OE.f_i0, OE.f_mulI, OE.f_mulT, OE.f_mulL, OE.f_neg, OE.f_ixL, OE.f_ixT, OE.f_ixS, OE.f_lenL, OE.f_lenT, OE.f_lenS, OE.f_int, OE.f_min, OE.f_max, OE.f_tupL, OE.f_lstT, OE.f_lstL, OE.f_repr, OE.f_cmpS, OE.f_cmpI, OE.f_cmpT, OE.f_cmpL, OE.s_dict, OE.k_dic, OE.f_getM, OE.s_putM, OE.k_put1, OE.k_put2, OE.s_dm, OE.mGet_left, OE.mGet_seed, OE.mGet_cells, OE.mGet_spot, OE.mPut_left, OE.mPut_spot, OE.k_wh, OE.s_star, OE.k_starT, OE.k_starL, OE.k_star2, OE.s_drop, OE.k_drop, OE.s_par3, OE.k_par3, OE.f_lrg1, OE.f_trg1, OE.f_lrg2, OE.f_trg2, OE.f_ixM, OE.f_lenM, OE.f_inT, OE.f_inL, OE.f_inS, OE.s_tryN, OE.c_nil, OE.f_all, OE.f_any, OE.f_sum, OE.s_frz, OE.k_frzS, OE.k_fz, OE.f_frzLs, OE.f_frzT, OE.f_frzI, OE.f_frzN, OE.s_mlst, OE.k_ml, OE.s_meth, OE.k_me, OE.f_app, OE.f_extd, OE.f_sorted, OE.s_lc2, OE.k_lcc, OE.f_isB, OE.s_isi2, OE.k_isi2, OE.s_aug, OE.k_aug, OE.w_int, OE.f_revL, OE.f_revT, OE.s_isx, OE.k_isx, OE.startE, Nat.reduceAdd, Nat.reduceLeDiff, Nat.reduceSub])
variable [TN] {Γ : Gam} {n : S} {q : D → S → Prop} {x : Exn → S → Prop}
/-! ### simple data: equal just when they are one -/
def sm : Nat → D → Bool
  | _, .non => true
  | _, .int _ => true
  | _, .str y => PyData.strOk y
  | k + 1, .tup l => l.all (sm k)
  | k + 1, .lst l => l.all (sm k)
  | _, _ => false
theorem sm_all {k : Nat} (ih : ∀ d : D, sm k d = true → d.plain = true ∧ d.py.canLay0 = true ∧ d.py.depth ≤ k) : ∀ l : List D, l.all (sm k) = true → D.plainAll l = true ∧ PyData.canLayAll0 (D.pyAll l) = true ∧ PyData.depthAll (D.pyAll l) ≤ k
  | [], _ => ⟨rfl, rfl, Nat.zero_le _⟩
  | d :: l, h => by
    rw [List.all_cons, Bool.and_eq_true] at h
    obtain ⟨a, b, c⟩ := ih d h.1
    obtain ⟨a', b', c'⟩ := sm_all ih l h.2
    exact ⟨by rw [D.plainAll, a, a']; rfl, by rw [D.pyAll, PyData.canLayAll0, b, b']; rfl, by rw [D.pyAll, PyData.depthAll]; exact Nat.max_le.mpr ⟨c, c'⟩⟩
theorem sm_ok : ∀ (k : Nat) (d : D), sm k d = true → d.plain = true ∧ d.py.canLay0 = true ∧ d.py.depth ≤ k
  | k, .non, _ => ⟨rfl, rfl, Nat.zero_le _⟩
  | k, .int _, _ => ⟨rfl, rfl, Nat.zero_le _⟩
  | k, .str y, h => ⟨rfl, by unfold sm at h; rw [D.py, PyData.canLay0]; exact h, Nat.zero_le _⟩
  | k + 1, .tup l, h => by
    obtain ⟨a, b, c⟩ := sm_all (sm_ok k) l (by rw [sm] at h; exact h)
    exact ⟨by rw [D.plain]; exact a, by rw [D.py, PyData.canLay0]; exact b, by rw [D.py, PyData.depth]; omega⟩
  | k + 1, .lst l, h => by
    obtain ⟨a, b, c⟩ := sm_all (sm_ok k) l (by rw [sm] at h; exact h)
    exact ⟨by rw [D.plain]; exact a, by rw [D.py, PyData.canLay0]; exact b, by rw [D.py, PyData.depth]; omega⟩
  | 0, .tup _, h => by cases h
  | 0, .lst _, h => by cases h
  | 0, .bl _, h => by cases h
  | _ + 1, .bl _, h => by cases h
  | 0, .scr _, h => by cases h
  | _ + 1, .scr _, h => by cases h
  | 0, .dic _, h => by cases h
  | _ + 1, .dic _, h => by cases h
  | 0, .m, h => by cases h
  | _ + 1, .m, h => by cases h
  | 0, .exn .., h => by cases h
  | _ + 1, .exn .., h => by cases h
  | 0, .clo .., h => by cases h
  | _ + 1, .clo .., h => by cases h
  | 0, .mref .., h => by cases h
  | _ + 1, .mref .., h => by cases h
  | 0, .obj .., h => by cases h
  | _ + 1, .obj .., h => by cases h
theorem sm_eqs {k : Nat} (ih : ∀ a b : D, sm k a = true → sm k b = true → (PyData.eqv a.py b.py = true ↔ a = b)) : ∀ l m : List D, l.all (sm k) = true → m.all (sm k) = true → (PyData.eqvAll (D.pyAll l) (D.pyAll m) = true ↔ l = m)
  | [], [], _, _ => by simp [D.pyAll, PyData.eqvAll]
  | [], _ :: _, _, _ => by simp [D.pyAll, PyData.eqvAll]
  | _ :: _, [], _, _ => by simp [D.pyAll, PyData.eqvAll]
  | a :: l, b :: m, h1, h2 => by
    rw [List.all_cons, Bool.and_eq_true] at h1 h2
    rw [D.pyAll, D.pyAll, PyData.eqvAll, Bool.and_eq_true, ih a b h1.1 h2.1, sm_eqs ih l m h1.2 h2.2, List.cons.injEq]
theorem sm_eq : ∀ (k : Nat) (a b : D), sm k a = true → sm k b = true → (PyData.eqv a.py b.py = true ↔ a = b) := by
  intro k
  induction k with
  | zero =>
    intro a b ha hb
    cases a <;> simp [sm] at ha <;> cases b <;> simp [sm] at hb <;> simp [D.py, PyData.eqv]
  | succ k ih =>
    intro a b ha hb
    cases a <;> simp -implicitDefEqProofs only [sm, Bool.false_eq_true] at ha <;> cases b <;> simp -implicitDefEqProofs only [sm, Bool.false_eq_true] at hb <;> first
      | (simp [D.py, PyData.eqv]; done)
      | (rw [D.py, D.py, PyData.eqv, sm_eqs ih _ _ ha hb]; simp)
/-- a comparison of simple data -/
theorem f_cmpE {neg : Bool} {a b : D} {k : Nat} (hk : k ≤ 60) (ha : sm k a = true) (hb : sm k b = true) (h1 : a = b → q (.bl (!neg)) n) (h2 : a ≠ b → q (.bl neg) n) : fCmp neg a b n q x := by
  obtain ⟨p1, l1, d1⟩ := sm_ok k a ha
  obtain ⟨p2, l2, d2⟩ := sm_ok k b hb
  have e := sm_eq k a b ha hb
  have key : ∀ r : Bool, (r = true ↔ a = b) → q (.bl (neg.xor r)) n := fun r hr => by
    cases r with
    | true => rw [Bool.xor_true]; exact h1 (hr.mp rfl)
    | false => rw [Bool.xor_false]; exact h2 fun z => by have := hr.mpr z; cases this
  unfold fCmp
  cases eq : quick a b with
  | some r =>
    dsimp only
    refine key r ?_
    unfold quick at eq
    split at eq
    · cases eq; simp
    · cases eq; simp
    · cases eq; rename_i l; cases l <;> simp
    · cases eq; rename_i l; cases l <;> simp
    all_goals first | (cases eq; simp; done) | cases eq
  | none =>
    dsimp only
    have s1 : SeqAt.shaped a.py = true := by unfold SeqAt.shaped; rw [l1]; simp; omega
    have s2 : SeqAt.shaped b.py = true := by unfold SeqAt.shaped; rw [l2]; simp; omega
    exact ⟨⟨p1, p2, s1, s2⟩, key _ e⟩
theorem sm_ints {k : Nat} : ∀ l : List Int, (l.map D.int).all (sm k) = true
  | [] => rfl
  | z :: l => by rw [List.map_cons, List.all_cons, sm_ints l]; cases k <;> rfl
theorem ints_inj : ∀ {a b : List Int}, a.map D.int = b.map D.int → a = b
  | [], [], _ => rfl
  | [], _ :: _, h => by cases h
  | _ :: _, [], h => by cases h
  | x :: a, y :: b, h => by
    rw [List.map_cons, List.map_cons] at h
    injection h with h1 h2
    injection h1 with h1
    rw [h1, ints_inj h2]
theorem asc_unique : ∀ {a b : List Int}, a.Pairwise (· < ·) → b.Pairwise (· < ·) → (∀ k, k ∈ a ↔ k ∈ b) → a = b
  | [], [], _, _, _ => rfl
  | [], y :: b, _, _, h => nomatch (h y).mpr List.mem_cons_self
  | x :: a, [], _, _, h => nomatch (h x).mp List.mem_cons_self
  | x :: a, y :: b, ha, hb, h => by
    obtain ⟨a1, a2⟩ := List.pairwise_cons.mp ha
    obtain ⟨b1, b2⟩ := List.pairwise_cons.mp hb
    have e : x = y := by
      have h1 := (h x).mp List.mem_cons_self
      have h2 := (h y).mpr List.mem_cons_self
      rcases List.mem_cons.mp h1 with z | z
      · exact z
      · rcases List.mem_cons.mp h2 with w | w
        · exact w.symm
        · have := b1 x z; have := a1 y w; omega
    subst e
    rw [asc_unique a2 b2 fun k => ?_]
    constructor
    · intro hk
      rcases List.mem_cons.mp ((h k).mp (List.mem_cons_of_mem _ hk)) with z | z
      · have := a1 k hk; omega
      · exact z
    · intro hk
      rcases List.mem_cons.mp ((h k).mpr (List.mem_cons_of_mem _ hk)) with z | z
      · have := b1 k hk; omega
      · exact z
theorem asc_pair : ∀ l : List Int, ascD (l.map D.int) = true ↔ l.Pairwise (· < ·)
  | [] => by simp [ascD]
  | [_] => by simp [ascD]
  | a :: b :: l => by
    have ih := asc_pair (b :: l)
    rw [List.map_cons] at ih
    rw [List.map_cons, List.map_cons, ascD, Bool.and_eq_true, ih, decide_eq_true_eq]
    constructor
    · rintro ⟨h1, h2⟩
      refine List.pairwise_cons.mpr ⟨fun z hz => ?_, h2⟩
      rcases List.mem_cons.mp hz with e | e
      · omega
      · have := (List.pairwise_cons.mp h2).1 z e; omega
    · intro h
      obtain ⟨h1, h2⟩ := List.pairwise_cons.mp h
      exact ⟨h1 b List.mem_cons_self, h2⟩
end PL

namespace PL
open OE
open PySem (Str)
def t_is_part_3 (Γ : Gam) : Ev → Wp Out :=
  tret (tandV (tfn 3 (F_is_whole Γ) (tcons (tbin fIx (tvar 2) (tconst (.int 1))) (tcons (tconst (.int 1)) (tcons (tbin fIx (tbin fIx (tvar 0) (tconst (.int 1))) (tvar 1)) (tnil))))) (tfn 3 (F_is_whole Γ) (tcons (tbin fIx (tvar 2) (tconst (.int 2))) (tcons (tconst (.int 0)) (tcons (tbin fSub (tbin fIx (tvar 2) (tconst (.int 1))) (tconst (.int 1))) (tnil))))))
def t_is_part (Γ : Gam) : Ev → Wp Out :=
  tthen (tite (tor (tnot (ttest (tisi "tuple" (tvar 2)))) (tor (ttest (tbin fNe (tcall fLen (tcons (tvar 2) (tnil))) (tconst (.int 3)))) (tnot (ttest (tfn 3 (F_is_whole Γ) (tcons (tbin fIx (tvar 2) (tconst (.int 0))) (tcons (tconst (.int 0)) (tcons (tbin fSub (tbin fIx (tvar 0) (tconst (.int 0))) (tconst (.int 1))) (tnil))))))))) (tret (tconst (.bl false))) (tnext))
  (t_is_part_3 Γ)
def F_is_part (Γ : Gam) : List D → Wp D := runDef 3 (t_is_part Γ)
def t_do_meet (Γ : Gam) : Ev → Wp Out :=
  tret (tandV (tbin fEq (tbin fIx (tvar 0) (tconst (.int 0))) (tbin fIx (tvar 1) (tconst (.int 0)))) (tbin fEq (tbin fMod (tbin fSub (tbin fIx (tvar 0) (tconst (.int 2))) (tbin fIx (tvar 1) (tconst (.int 2)))) (tfn 2 (F_common Γ) (tcons (tbin fIx (tvar 0) (tconst (.int 1))) (tcons (tbin fIx (tvar 1) (tconst (.int 1))) (tnil))))) (tconst (.int 0))))
def F_do_meet (Γ : Gam) : List D → Wp D := runDef 2 (t_do_meet Γ)
def t_are_parts_of_5 (Γ : Gam) : Ev → Wp Out :=
  tret (tnotV (tcall fAny (tcons (tlc2 (tits fEnum (tcons (tvar 1) (tnil))) (gtup 2 (gcons (gname 2) (gcons (gname 4) (gnil)))) (fun _ => Wp.ret true) (tseq (tslice (tvar 1) (fun _ => Wp.ret none) (tpart (tvar 2)))) (gname 5) (fun _ => Wp.ret true) (tfn 2 (F_do_meet Γ) (tcons (tvar 4) (tcons (tvar 5) (tnil)))) [2, 4, 5] [5]) (tnil))))
def t_are_parts_of_3 (Γ : Gam) : Ev → Wp Out :=
  tthen (tite (tnot (ttest (tcall fAll (tcons (tlc (tits fEnum (tcons (tvar 1) (tnil))) (gtup 2 (gcons (gname 2) (gcons (gname 3) (gnil)))) (fun _ => Wp.ret true) (tfn 3 (F_is_part Γ) (tcons (tvar 0) (tcons (tvar 2) (tcons (tvar 3) (tnil))))) [2, 3]) (tnil))))) (tret (tconst (.bl false))) (tnext))
  (t_are_parts_of_5 Γ)
def t_are_parts_of (Γ : Gam) : Ev → Wp Out :=
  tthen (tite (tor (tnot (ttest (tisi "tuple" (tvar 1)))) (ttest (tbin fNe (tcall fLen (tcons (tvar 1) (tnil))) (tcall fLen (tcons (tbin fIx (tvar 0) (tconst (.int 1))) (tnil)))))) (tret (tconst (.bl false))) (tnext))
  (t_are_parts_of_3 Γ)
def F_are_parts_of (Γ : Gam) : List D → Wp D := runDef 6 (t_are_parts_of Γ)
def t_need_parts_4 (Γ : Gam) : Ev → Wp Out :=
  tret (tvar 1)
def t_need_parts_2 (Γ : Gam) : Ev → Wp Out :=
  tthen (tite (tnot (ttest (tfn 2 (F_are_parts_of Γ) (tcons (tvar 0) (tcons (tvar 1) (tnil)))))) (tfail1 "BadParts" (tcons (tvar 1) (tnil))) (tnext))
  (t_need_parts_4 Γ)
def t_need_parts (Γ : Gam) : Ev → Wp Out :=
  tthen (tdrop (tfn 1 (F_need_plan Γ) (tcons (tvar 0) (tnil))))
  (t_need_parts_2 Γ)
def F_need_parts (Γ : Gam) : List D → Wp D := runDef 2 (t_need_parts Γ)
def t_need_day (Γ : Gam) : Ev → Wp Out :=
  tite (tnot (ttest (tfn 3 (F_is_whole Γ) (tcons (tvar 0) (tcons (tconst (.int 0)) (tcons (tvar 1) (tnil))))))) (tfail1 "BadNumber" (tcons (tvar 0) (tnil))) (tnext)
def F_need_day (Γ : Gam) : List D → Wp D := runDef 2 (t_need_day Γ)
def t_day_in (Γ : Gam) : Ev → Wp Out :=
  tret (tcall fTuple (tcons (tlc (tits fEnum (tcons (tvar 0) (tnil))) (gtup 2 (gcons (gname 2) (gcons (gname 3) (gnil)))) (ttest (tbin fEq (tbin fMod (tvar 1) (tbin fIx (tvar 3) (tconst (.int 1)))) (tbin fIx (tvar 3) (tconst (.int 2))))) (tvar 2) [2, 3]) (tnil)))
def F_day_in (Γ : Gam) : List D → Wp D := runDef 4 (t_day_in Γ)
def t_day_by_3 (Γ : Gam) : Ev → Wp Out :=
  tret (tfn 2 (F_day_in Γ) (tcons (tvar 1) (tcons (tvar 2) (tnil))))
def t_day_by_2 (Γ : Gam) : Ev → Wp Out :=
  tthen (tdrop (tfn 2 (F_need_day Γ) (tcons (tvar 2) (tcons (tconst (.int 1000000000000000000000000000000)) (tnil)))))
  (t_day_by_3 Γ)
def t_day_by (Γ : Gam) : Ev → Wp Out :=
  tthen (tdrop (tfn 2 (F_need_parts Γ) (tcons (tvar 0) (tcons (tvar 1) (tnil)))))
  (t_day_by_2 Γ)
def F_day_by (Γ : Gam) : List D → Wp D := runDef 3 (t_day_by Γ)
def t_next_by_5 (Γ : Gam) : Ev → Wp Out :=
  tret (tbin fAdd (tvar 3) (tbin fMod (tbin fSub (tvar 6) (tvar 3)) (tvar 5)))
def t_next_by_4 (Γ : Gam) : Ev → Wp Out :=
  tthen (tasg (tbin fIx (tvar 1) (tvar 2)) (gtup 3 (gcons (gname 4) (gcons (gname 5) (gcons (gname 6) (gnil))))))
  (t_next_by_5 Γ)
def t_next_by_3 (Γ : Gam) : Ev → Wp Out :=
  tthen (tdrop (tfn 2 (F_need_day Γ) (tcons (tvar 3) (tcons (tconst (.int 1000000000000000000000000000000)) (tnil)))))
  (t_next_by_4 Γ)
def t_next_by_2 (Γ : Gam) : Ev → Wp Out :=
  tthen (tdrop (tfn 2 (F_need_thing Γ) (tcons (tvar 0) (tcons (tvar 2) (tnil)))))
  (t_next_by_3 Γ)
def t_next_by (Γ : Gam) : Ev → Wp Out :=
  tthen (tdrop (tfn 2 (F_need_parts Γ) (tcons (tvar 0) (tcons (tvar 1) (tnil)))))
  (t_next_by_2 Γ)
def F_next_by (Γ : Gam) : List D → Wp D := runDef 7 (t_next_by Γ)
def t_row_by_3 (Γ : Gam) : Ev → Wp Out :=
  tret (tcall fTuple (tcons (tlc (tits fRange1 (tcons (tvar 2) (tnil))) (gname 3) (fun _ => Wp.ret true) (tfn 2 (F_day_in Γ) (tcons (tvar 1) (tcons (tvar 3) (tnil)))) [3]) (tnil)))
def t_row_by_2 (Γ : Gam) : Ev → Wp Out :=
  tthen (tdrop (tfn 2 (F_need_day Γ) (tcons (tvar 2) (tcons (tconst (.int 1000)) (tnil)))))
  (t_row_by_3 Γ)
def t_row_by (Γ : Gam) : Ev → Wp Out :=
  tthen (tdrop (tfn 2 (F_need_parts Γ) (tcons (tvar 0) (tcons (tvar 1) (tnil)))))
  (t_row_by_2 Γ)
def F_row_by (Γ : Gam) : List D → Wp D := runDef 4 (t_row_by Γ)
end PL


namespace PL
open OE
open PySem (Str)
def t_are_parts_2 (Γ : Gam) : Ev → Wp Out :=
  tret (tfn 2 (F_are_parts_of Γ) (tcons (tvar 0) (tcons (tvar 1) (tnil))))
def t_are_parts (Γ : Gam) : Ev → Wp Out :=
  tthen (tdrop (tfn 1 (F_need_plan Γ) (tcons (tvar 0) (tnil))))
  (t_are_parts_2 Γ)
def F_are_parts (Γ : Gam) : List D → Wp D := runDef 2 (t_are_parts Γ)
def t__law_draw_11 (Γ : Gam) : Ev → Wp Out :=
  tret (tbin fMod (tbin fDiv (tbin fMod (tcall fInt (tcons (tbin fAdd (tbin fMul (tvar 7) (tconst (.int 48271))) (tvar 3)) (tnil))) (tconst (.int 2147483647))) (tconst (.int 11))) (tvar 1))
def t__law_draw_10 (Γ : Gam) : Ev → Wp Out :=
  tthen (tset 7 (tbin fMod (tcall fInt (tcons (tbin fAdd (tbin fAdd (tbin fMul (tvar 7) (tvar 7)) (tbin fMul (tconst (.int 69621)) (tvar 3))) (tbind (fGetS "seed") (tvar 0))) (tnil))) (tconst (.int 2147483629))))
  (t__law_draw_11 Γ)
def t__law_draw_9 (Γ : Gam) : Ev → Wp Out :=
  tthen (tset 7 (tbin fMod (tcall fInt (tcons (tbin fAdd (tbin fMul (tvar 6) (tbin fAdd (tbin fMul (tconst (.int 2)) (tvar 3)) (tconst (.int 3)))) (tvar 5)) (tnil))) (tconst (.int 2147483647))))
  (t__law_draw_10 Γ)
def t__law_draw_8 (Γ : Gam) : Ev → Wp Out :=
  tthen (tset 6 (tbin fIx (tvar 4) (tbin fMod (tcall fInt (tcons (tvar 3) (tnil))) (tcall fLen (tcons (tvar 4) (tnil))))))
  (t__law_draw_9 Γ)
def t__law_draw_7 (Γ : Gam) : Ev → Wp Out :=
  tthen (tpar 4 5 (tcons (tbind (fGetS "cells") (tvar 0)) (tcons (tbin fAdd (tbind (fGetS "seed") (tvar 0)) (tbin fMul (tbin fMul (tconst (.int 40503)) (tvar 3)) (tvar 3))) (tnil))))
  (t__law_draw_8 Γ)
def t__law_draw_6 (Γ : Gam) : Ev → Wp Out :=
  tthen (tputM "spot" (tvar 0) (tbin fAdd (tvar 3) (tconst (.int 1))))
  (t__law_draw_7 Γ)
def t__law_draw_5 (Γ : Gam) : Ev → Wp Out :=
  tthen (tset 3 (tbind (fGetS "spot") (tvar 0)))
  (t__law_draw_6 Γ)
def t__law_draw_4 (Γ : Gam) : Ev → Wp Out :=
  tret (tvar 2)
def t__law_draw_3 (Γ : Gam) : Ev → Wp Out :=
  tthen (tputM "left" (tvar 0) (tbin fDiv (tbind (fGetS "left") (tvar 0)) (tvar 1)))
  (t__law_draw_4 Γ)
def t__law_draw (Γ : Gam) : Ev → Wp Out :=
  tthen (tite (ttest (tbin fGt (tbind (fGetS "left") (tvar 0)) (tconst (.int 0)))) (tthen (tset 2 (tbin fMod (tcall fInt (tcons (tbind (fGetS "left") (tvar 0)) (tnil))) (tvar 1)))
  (t__law_draw_3 Γ)) (tnext))
  (t__law_draw_5 Γ)
def F__law_draw (Γ : Gam) : List D → Wp D := runDef 8 (t__law_draw Γ)
def t__law_of (Γ : Gam) : Ev → Wp Out :=
  tret (tbin fIx (tvar 1) (tfn 2 (F__law_draw Γ) (tcons (tvar 0) (tcons (tcall fLen (tcons (tvar 1) (tnil))) (tnil)))))
def F__law_of (Γ : Gam) : List D → Wp D := runDef 2 (t__law_of Γ)
def t__law_common_3 (Γ : Gam) : Ev → Wp Out :=
  tret (tvar 0)
def t__law_common_2 (Γ : Gam) : Ev → Wp Out :=
  tpar 0 1 (tcons (tvar 1) (tcons (tbin fMod (tcall fInt (tcons (tvar 0) (tnil))) (tcall fInt (tcons (tvar 1) (tnil)))) (tnil)))
def t__law_common (Γ : Gam) : Ev → Wp Out :=
  tthen (twhile (ttest (tbin fGt (tvar 1) (tconst (.int 0)))) (t__law_common_2 Γ))
  (t__law_common_3 Γ)
def F__law_common (Γ : Gam) : List D → Wp D := runDef 2 (t__law_common Γ)
def t__law_meet_6 (Γ : Gam) : Ev → Wp Out :=
  tret (tbin fEq (tbin fMod (tcall fInt (tcons (tbin fSub (tbin fIx (tvar 0) (tconst (.int 2))) (tbin fIx (tvar 1) (tconst (.int 2)))) (tnil))) (tfn 2 (F__law_common Γ) (tcons (tbin fIx (tvar 0) (tconst (.int 1))) (tcons (tbin fIx (tvar 1) (tconst (.int 1))) (tnil))))) (tconst (.int 0)))
def t__law_meet_5 (Γ : Gam) : Ev → Wp Out :=
  tret (tbin fNe (tvar 2) (tlst (tnil)))
def t__law_meet_3 (Γ : Gam) : Ev → Wp Out :=
  tthen (tite (ttest (tbin fLe (tbin fMul (tbin fIx (tvar 0) (tconst (.int 1))) (tbin fIx (tvar 1) (tconst (.int 1)))) (tconst (.int 400)))) (tthen (tset 2 (tlc (tits fRange1 (tcons (tbin fMul (tbin fIx (tvar 0) (tconst (.int 1))) (tbin fIx (tvar 1) (tconst (.int 1)))) (tnil))) (gname 3) (tand (ttest (tbin fEq (tbin fMod (tcall fInt (tcons (tvar 3) (tnil))) (tbin fIx (tvar 0) (tconst (.int 1)))) (tbin fIx (tvar 0) (tconst (.int 2))))) (ttest (tbin fEq (tbin fMod (tcall fInt (tcons (tvar 3) (tnil))) (tbin fIx (tvar 1) (tconst (.int 1)))) (tbin fIx (tvar 1) (tconst (.int 2)))))) (tvar 3) [3]))
  (t__law_meet_5 Γ)) (tnext))
  (t__law_meet_6 Γ)
def t__law_meet (Γ : Gam) : Ev → Wp Out :=
  tthen (tite (ttest (tbin fNe (tbin fIx (tvar 0) (tconst (.int 0))) (tbin fIx (tvar 1) (tconst (.int 0))))) (tret (tconst (.bl false))) (tnext))
  (t__law_meet_3 Γ)
def F__law_meet (Γ : Gam) : List D → Wp D := runDef 4 (t__law_meet Γ)
def t__law_is_num (Γ : Gam) : Ev → Wp Out :=
  tret (tandV (tisi "int" (tvar 0)) (tandV (tnotV (tisi "bool" (tvar 0))) (tchain fLe fLe (tvar 1) (tvar 0) (tvar 2))))
def F__law_is_num (Γ : Gam) : List D → Wp D := runDef 3 (t__law_is_num Γ)
def t__law_are_parts_11 (Γ : Gam) : Ev → Wp Out :=
  tret (tconst (.bl true))
def t__law_are_parts_9 (Γ : Gam) : Ev → Wp Out :=
  tite (ttest (tbin fNe (tlc (tseq (tslice (tvar 1) (tpart (tbin fAdd (tvar 4) (tconst (.int 1)))) (fun _ => Wp.ret none))) (gname 5) (ttest (tfn 2 (F__law_meet Γ) (tcons (tbin fIx (tvar 1) (tvar 4)) (tcons (tvar 5) (tnil))))) (tvar 5) [5]) (tlst (tnil)))) (tret (tconst (.bl false))) (tnext)
def t__law_are_parts_8 (Γ : Gam) : Ev → Wp Out :=
  tthen (tfor (tits fRange1 (tcons (tcall fLen (tcons (tvar 1) (tnil))) (tnil))) (gname 4) (t__law_are_parts_9 Γ))
  (t__law_are_parts_11 Γ)
def t__law_are_parts_6 (Γ : Gam) : Ev → Wp Out :=
  tite (tor (tnot (ttest (tfn 3 (F__law_is_num Γ) (tcons (tbin fIx (tvar 2) (tconst (.int 1))) (tcons (tconst (.int 1)) (tcons (tvar 3) (tnil))))))) (tnot (ttest (tfn 3 (F__law_is_num Γ) (tcons (tbin fIx (tvar 2) (tconst (.int 2))) (tcons (tconst (.int 0)) (tcons (tbin fSub (tbin fIx (tvar 2) (tconst (.int 1))) (tconst (.int 1))) (tnil)))))))) (tret (tconst (.bl false))) (tnext)
def t__law_are_parts_4 (Γ : Gam) : Ev → Wp Out :=
  tthen (tite (tor (tnot (ttest (tisi "tuple" (tvar 2)))) (tor (ttest (tbin fNe (tcall fLen (tcons (tvar 2) (tnil))) (tconst (.int 3)))) (tnot (ttest (tfn 3 (F__law_is_num Γ) (tcons (tbin fIx (tvar 2) (tconst (.int 0))) (tcons (tconst (.int 0)) (tcons (tbin fSub (tbin fIx (tvar 0) (tconst (.int 0))) (tconst (.int 1))) (tnil))))))))) (tret (tconst (.bl false))) (tnext))
  (t__law_are_parts_6 Γ)
def t__law_are_parts_3 (Γ : Gam) : Ev → Wp Out :=
  tthen (tfor (tits fZip (tcons (tvar 1) (tcons (tbin fIx (tvar 0) (tconst (.int 1))) (tnil)))) (gtup 2 (gcons (gname 2) (gcons (gname 3) (gnil)))) (t__law_are_parts_4 Γ))
  (t__law_are_parts_8 Γ)
def t__law_are_parts (Γ : Gam) : Ev → Wp Out :=
  tthen (tite (tor (tnot (ttest (tisi "tuple" (tvar 1)))) (ttest (tbin fNe (tcall fLen (tcons (tvar 1) (tnil))) (tcall fLen (tcons (tbin fIx (tvar 0) (tconst (.int 1))) (tnil)))))) (tret (tconst (.bl false))) (tnext))
  (t__law_are_parts_3 Γ)
def F__law_are_parts (Γ : Gam) : List D → Wp D := runDef 6 (t__law_are_parts Γ)
def t__law_made_8 (Γ : Gam) : Ev → Wp Out :=
  tfrz 2 (tret (ttup (tcons (ttup (tcons (tvar 1) (tcons (tcall fTuple (tcons (tvar 6) (tnil))) (tnil)))) (tcons (tcall fTuple (tcons (tvar 2) (tnil))) (tnil)))))
def t__law_made_7 (Γ : Gam) : Ev → Wp Out :=
  tfrz 2 (tthen (tset 6 (tlc (tseq (tvar 2)) (gname 5) (fun _ => Wp.ret true) (tbin fAdd (tbin fIx (tvar 5) (tconst (.int 1))) (tfn 2 (F__law_of Γ) (tcons (tvar 0) (tcons (tlst (tcons (tconst (.int 0)) (tcons (tconst (.int 0)) (tcons (tconst (.int 1)) (tcons (tfn 2 (F__law_draw Γ) (tcons (tvar 0) (tcons (tconst (.int 9)) (tnil)))) (tcons (tbin fPow (tconst (.int 10)) (tconst (.int 20))) (tnil))))))) (tnil))))) [5]))
  (t__law_made_8 Γ))
def t__law_made_5 (Γ : Gam) : Ev → Wp Out :=
  tite (tand (ttest (tbin fLt (tcall fLen (tcons (tvar 2) (tnil))) (tconst (.int 8)))) (ttest (tbin fEq (tlcG (tseqG (tvar 2)) (gname 7) (ttest (tfn 2 (F__law_meet Γ) (tcons (tvar 5) (tcons (tvar 7) (tnil))))) (tvar 7) [7]) (tlst (tnil))))) (tdrop (tmeth fAppend (tvar 2) (tvar 5))) (tnext)
def t__law_made_4 (Γ : Gam) : Ev → Wp Out :=
  tthen (tset 5 (ttup (tcons (tfn 2 (F__law_draw Γ) (tcons (tvar 0) (tcons (tvar 1) (tnil)))) (tcons (tvar 4) (tcons (tfn 2 (F__law_of Γ) (tcons (tvar 0) (tcons (tlst (tcons (tfn 2 (F__law_draw Γ) (tcons (tvar 0) (tcons (tvar 4) (tnil)))) (tcons (tbin fSub (tvar 4) (tconst (.int 1))) (tnil)))) (tnil)))) (tnil))))))
  (t__law_made_5 Γ)
def t__law_made_3 (Γ : Gam) : Ev → Wp Out :=
  tthen (tset 4 (tfn 2 (F__law_of Γ) (tcons (tvar 0) (tcons (tlst (tcons (tbin fAdd (tconst (.int 1)) (tfn 2 (F__law_draw Γ) (tcons (tvar 0) (tcons (tconst (.int 12)) (tnil))))) (tcons (tfn 2 (F__law_of Γ) (tcons (tvar 0) (tcons (tlst (tcons (tconst (.int 2)) (tcons (tconst (.int 4)) (tcons (tconst (.int 8)) (tcons (tconst (.int 16)) (tcons (tconst (.int 32)) (tnil))))))) (tnil)))) (tcons (tbin fMul (tbin fPow (tconst (.int 2)) (tconst (.int 60))) (tbin fAdd (tconst (.int 1)) (tfn 2 (F__law_draw Γ) (tcons (tvar 0) (tcons (tconst (.int 9)) (tnil)))))) (tnil))))) (tnil)))))
  (t__law_made_4 Γ)
def t__law_made_2 (Γ : Gam) : Ev → Wp Out :=
  tthen (tfor (tits fRange1 (tcons (tbin fMul (tconst (.int 4)) (tbin fAdd (tconst (.int 1)) (tfn 2 (F__law_draw Γ) (tcons (tvar 0) (tcons (tconst (.int 6)) (tnil)))))) (tnil))) (gname 3) (t__law_made_3 Γ))
  (t__law_made_7 Γ)
def t__law_made (Γ : Gam) : Ev → Wp Out :=
  tthen (tpar 1 2 (tcons (tbin fAdd (tconst (.int 1)) (tfn 2 (F__law_draw Γ) (tcons (tvar 0) (tcons (tconst (.int 3)) (tnil))))) (tcons (tmlst (tnil)) (tnil))))
  (t__law_made_2 Γ)
def F__law_made (Γ : Gam) : List D → Wp D := runDef 8 (t__law_made Γ)
end PL


namespace PL
open OE PySem
local macro_rules | `(tactic| wp_walk) => `(tactic| simp -implicitDefEqProofs only [OE.w_g0, OE.w_gs, OE.w_s0, OE.w_ss, OE.w_some, OE.w_ex, OE.w_lc, OE.w_ln, OE.w_at, OE.w_ta, OE.w_nt, OE.w_nf, OE.w_it, OE.w_if, OE.w_itP, OE.w_ifP, OE.w_ft, OE.w_mc, OE.w_mn, OE.w_rs, OE.w_r0, OE.w_ca, OE.w_na, OE.w_za, OE.w_sb, OE.w_sz, OE.s_then, OE.k_seqN, OE.k_seqR, OE.k_seqB, OE.k_seqC, OE.s_next, OE.s_ret, OE.k_ret, OE.s_set, OE.k_set, OE.s_ite, OE.k_ite, OE.o_rt, OE.o_nx, OE.s_run, OE.s_var, OE.s_const, OE.s_nil, OE.s_cons, OE.k_cons, OE.k_cons2, OE.s_tup, OE.s_lst, OE.k_tup, OE.k_lst, OE.s_bin, OE.k_bin, OE.k_bin2, OE.s_bind, OE.k_ap, OE.s_call, OE.k_apL, OE.s_fn, OE.k_fn, OE.s_test, OE.k_test, OE.s_and, OE.k_and, OE.s_or, OE.k_or, OE.s_not, OE.k_not, OE.s_andV, OE.k_andV, OE.s_orV, OE.k_orV, OE.s_notV, OE.k_notV, OE.s_if, OE.k_if, OE.s_isN, OE.k_isN, OE.s_noN, OE.k_noN, OE.s_chain, OE.k_ch1, OE.k_ch2, OE.k_ch3, OE.s_isi, OE.k_isi, OE.s_part, OE.k_part, OE.s_slice, OE.k_sl1, OE.k_sl2, OE.k_sl3, OE.s_retO, OE.s_slL, OE.s_slT, OE.s_slS, OE.s_seq, OE.k_itmL, OE.k_itmT, OE.k_itmS, OE.s_its, OE.k_its, OE.s_rng1, OE.s_rng2, OE.s_enT, OE.s_enL, OE.s_zipL, OE.s_zipT, OE.s_for, OE.k_for, OE.for_nil, OE.k_go, OE.k_tN, OE.k_tC, OE.k_tB, OE.k_tR, OE.g_name, OE.g_tup, OE.g_cons, OE.k_gs, OE.g_nil, OE.s_asg, OE.k_asg, OE.k_nx, OE.s_par, OE.k_par, OE.s_lc, OE.k_lc, OE.k_lc1, OE.k_lc2, OE.k_some, OE.s_fail, OE.k_fail, OE.s_fail0, OE.s_try, OE.k_unN, OE.k_unR, OE.s_fld, OE.k_fld, OE.f_addI, OE.f_addT, OE.f_addL, OE.f_addS, OE.f_ii, OE.f_i0, OE.f_mulI, OE.f_mulT, OE.f_mulL, OE.f_neg, OE.f_ixL, OE.f_ixT, OE.f_ixS, OE.f_lenL, OE.f_lenT, OE.f_lenS, OE.f_int, OE.f_min, OE.f_max, OE.f_tupL, OE.f_lstT, OE.f_lstL, OE.f_repr, OE.f_cmpS, OE.f_cmpI, OE.f_cmpT, OE.f_cmpL, OE.s_dict, OE.k_dic, OE.f_getM, OE.s_putM, OE.k_put1, OE.k_put2, OE.s_dm, OE.mGet_left, OE.mGet_seed, OE.mGet_cells, OE.mGet_spot, OE.mPut_left, OE.mPut_spot, OE.k_wh, OE.s_star, OE.k_starT, OE.k_starL, OE.k_star2, OE.s_drop, OE.k_drop, OE.s_par3, OE.k_par3, OE.f_lrg1, OE.f_trg1, OE.f_lrg2, OE.f_trg2, OE.f_ixM, OE.f_lenM, OE.f_inT, OE.f_inL, OE.f_inS, OE.s_tryN, OE.c_nil, OE.f_all, OE.f_any, OE.f_sum, OE.s_frz, OE.k_frzS, OE.k_fz, OE.f_frzLs, OE.f_frzT, OE.f_frzI, OE.f_frzN, OE.s_mlst, OE.k_ml, OE.s_meth, OE.k_me, OE.f_app, OE.f_extd, OE.f_sorted, OE.s_lc2, OE.k_lcc, OE.f_isB, OE.s_isi2, OE.k_isi2, OE.s_aug, OE.k_aug, OE.w_int, OE.f_revL, OE.f_revT, OE.s_isx, OE.k_isx, OE.s_seqG, OE.k_itmGL, OE.k_itmGT, OE.k_itmGM, OE.s_forG, OE.k_forG, OE.s_lcG, OE.k_lcG, OE.f_maddL, OE.s_mlc, OE.k_mlc, OE.k_newQ, OE.startE, Nat.reduceAdd, Nat.reduceLeDiff, Nat.reduceSub])
local macro_rules | `(tactic| wp_walk using $[$ts],*) => `(tactic| simp -implicitDefEqProofs only [$[$ts:term],*, OE.w_g0, OE.w_gs, OE.w_s0, OE.w_ss, OE.w_some, OE.w_ex, OE.w_lc, OE.w_ln, OE.w_at, OE.w_ta, OE.w_nt, OE.w_nf, OE.w_it, OE.w_if, OE.w_itP, OE.w_ifP, OE.w_ft, OE.w_mc, OE.w_mn, OE.w_rs, OE.w_r0, OE.w_ca, OE.w_na, OE.w_za, OE.w_sb, OE.w_sz, OE.s_then, OE.k_seqN, OE.k_seqR, OE.k_seqB, OE.k_seqC, OE.s_next, OE.s_ret, OE.k_ret, OE.s_set, OE.k_set, OE.s_ite, OE.k_ite, OE.o_rt, OE.o_nx, OE.s_run, OE.s_var, OE.s_const, OE.s_nil, OE.s_cons, OE.k_cons, OE.k_cons2, OE.s_tup, OE.s_lst, OE.k_tup, OE.k_lst, OE.s_bin, OE.k_bin, OE.k_bin2, OE.s_bind, OE.k_ap, OE.s_call, OE.k_apL, OE.s_fn, OE.k_fn, OE.s_test, OE.k_test, OE.s_and, OE.k_and, OE.s_or, OE.k_or, OE.s_not, OE.k_not, OE.s_andV, OE.k_andV, OE.s_orV, OE.k_orV, OE.s_notV, OE.k_notV, OE.s_if, OE.k_if, OE.s_isN, OE.k_isN, OE.s_noN, OE.k_noN, OE.s_chain, OE.k_ch1, OE.k_ch2, OE.k_ch3, OE.s_isi, OE.k_isi, OE.s_part, OE.k_part, OE.s_slice, OE.k_sl1, OE.k_sl2, OE.k_sl3, OE.s_retO, OE.s_slL, OE.s_slT, OE.s_slS, OE.s_seq, OE.k_itmL, OE.k_itmT, OE.k_itmS, OE.s_its, OE.k_its, OE.s_rng1, OE.s_rng2, OE.s_enT, OE.s_enL, OE.s_zipL, OE.s_zipT, OE.s_for, OE.k_for, OE.for_nil, OE.k_go, OE.k_tN, OE.k_tC, OE.k_tB, OE.k_tR, OE.g_name, OE.g_tup, OE.g_cons, OE.k_gs, OE.g_nil, OE.s_asg, OE.k_asg, OE.k_nx, OE.s_par, OE.k_par, OE.s_lc, OE.k_lc, OE.k_lc1, OE.k_lc2, OE.k_some, OE.s_fail, OE.k_fail, OE.s_fail0, OE.s_try, OE.k_unN, OE.k_unR, OE.s_fld, OE.k_fld, OE.f_addI, OE.f_addT, OE.f_addL, OE.f_addS, OE.f_ii, OE.f_i0, OE.f_mulI, OE.f_mulT, OE.f_mulL, OE.f_neg, OE.f_ixL, OE.f_ixT, OE.f_ixS, OE.f_lenL, OE.f_lenT, OE.f_lenS, OE.f_int, OE.f_min, OE.f_max, OE.f_tupL, OE.f_lstT, OE.f_lstL, OE.f_repr, OE.f_cmpS, OE.f_cmpI, OE.f_cmpT, OE.f_cmpL, OE.s_dict, OE.k_dic, OE.f_getM, OE.s_putM, OE.k_put1, OE.k_put2, OE.s_dm, OE.mGet_left, OE.mGet_seed, OE.mGet_cells, OE.mGet_spot, OE.mPut_left, OE.mPut_spot, OE.k_wh, OE.s_star, OE.k_starT, OE.k_starL, OE.k_star2, OE.s_drop, OE.k_drop, OE.s_par3, OE.k_par3, OE.f_lrg1, OE.f_trg1, OE.f_lrg2, OE.f_trg2, OE.f_ixM, OE.f_lenM, OE.f_inT, OE.f_inL, OE.f_inS, OE.s_tryN, OE.c_nil, OE.f_all, OE.f_any, OE.f_sum, OE.s_frz, OE.k_frzS, OE.k_fz, OE.f_frzLs, OE.f_frzT, OE.f_frzI, OE.f_frzN, OE.s_mlst, OE.k_ml, OE.s_meth, OE.k_me, OE.f_app, OE.f_extd, OE.f_sorted, OE.s_lc2, OE.k_lcc, OE.f_isB, OE.s_isi2, OE.k_isi2, OE.s_aug, OE.k_aug, OE.w_int, OE.f_revL, OE.f_revT, OE.s_isx, OE.k_isx, OE.s_seqG, OE.k_itmGL, OE.k_itmGT, OE.k_itmGM, OE.s_forG, OE.k_forG, OE.s_lcG, OE.k_lcG, OE.f_maddL, OE.s_mlc, OE.k_mlc, OE.k_newQ, OE.startE, Nat.reduceAdd, Nat.reduceLeDiff, Nat.reduceSub])
variable [TN] {Γ : Gam} {n : S} {q : D → S → Prop} {x : Exn → S → Prop}
/-! ### parts.py over data: judged, days by parts -/
abbrev P3 := Int × Int × Int
def partD (p : P3) : D := .tup [.int p.1, .int p.2.1, .int p.2.2]
def partsD (ps : List P3) : D := .tup (ps.map partD)
def isRest : D → D → Bool
  | .int e, c => isW 0 (e - 1) c
  | _, _ => false
def isPartD (h g : Int) : D → Bool
  | .tup [a, b, c] => isW 0 (h - 1) a && (isW 1 g b && isRest b c)
  | _ => false
theorem isPart_some {h g : Int} {d : D} (e : isPartD h g d = true) : ∃ p : P3, d = partD p ∧ 0 ≤ p.1 ∧ p.1 < h ∧ 1 ≤ p.2.1 ∧ p.2.1 ≤ g ∧ 0 ≤ p.2.2 ∧ p.2.2 < p.2.1 := by
  unfold isPartD at e
  split at e
  · rename_i a b c
    rw [Bool.and_eq_true, Bool.and_eq_true] at e
    obtain ⟨u, rfl, u0, u1⟩ := isW_some e.1
    obtain ⟨v, rfl, v0, v1⟩ := isW_some e.2.1
    obtain ⟨w, rfl, w0, w1⟩ := isW_some (show isW 0 (v - 1) c = true from e.2.2)
    exact ⟨(u, v, w), rfl, u0, by show u < h; omega, v0, v1, w0, by show w < v; omega⟩
  · cases e
theorem isPart_of {h g : Int} {p : P3} (h1 : 0 ≤ p.1) (h2 : p.1 < h) (h3 : 1 ≤ p.2.1) (h4 : p.2.1 ≤ g) (h5 : 0 ≤ p.2.2) (h6 : p.2.2 < p.2.1) : isPartD h g (partD p) = true := by
  obtain ⟨u, v, w⟩ := p
  dsimp only at h1 h2 h3 h4 h5 h6
  simp -implicitDefEqProofs only [partD, isPartD, isRest, isW, Bool.and_eq_true, decide_eq_true_eq]
  omega
theorem sp_is_part {h g : Int} {gs : List Int} {i : Nat} {d : D} (hg : gs[i]? = some g) (hp : d.plain = true) (hq : q (.bl (isPartD h g d)) n) : F_is_part Γ [planD h gs, .int (i : Nat), d] n q x := by
  wp_walk using F_is_part, t_is_part, isi_tup
  refine ⟨noE hp, ?_⟩
  cases d with
  | tup l =>
    wp_walk using isTp
    by_cases c : l.length = 3
    · obtain ⟨a, b, c', rfl⟩ : ∃ a b c, l = [a, b, c] := by
        match l, c with
        | [a, b, c], _ => exact ⟨a, b, c, rfl⟩
      have pa : a.plain = true := plain_mem (plain_tup hp) (by simp)
      have pb : b.plain = true := plain_mem (plain_tup hp) (by simp)
      have pc : c'.plain = true := plain_mem (plain_tup hp) (by simp)
      wp_walk using List.length_cons, List.length_nil, Nat.zero_add, Nat.reduceAdd, Int.cast_ofNat_Int, decide_true, Bool.true_xor, Bool.not_true, at0, at1, planD
      refine sp_is_whole (Γ := Γ) (noE pa) ?_
      rw [show isPartD h g (.tup [a, b, c']) = (isW 0 (h - 1) a && (isW 1 g b && isRest b c')) from rfl] at hq
      cases ea : isW 0 (h - 1) a with
      | false =>
        rw [ea, Bool.false_and] at hq
        wp_walk
        exact hq
      | true =>
        rw [ea, Bool.true_and] at hq
        wp_walk using t_is_part_3, at1, at2
        refine ⟨.int g, at_nat (by rw [List.getElem?_map, hg]; rfl), ?_⟩
        refine sp_is_whole (Γ := Γ) (noE pb) ?_
        cases eb : isW 1 g b with
        | false =>
          rw [eb, Bool.false_and] at hq
          wp_walk
          exact hq
        | true =>
          rw [eb, Bool.true_and] at hq
          obtain ⟨v, rfl, v0, v1⟩ := isW_some eb
          wp_walk using at1, at2
          refine sp_is_whole (Γ := Γ) (noE pc) ?_
          wp_walk
          exact hq
    · have c' : ¬ ((l.length : Nat) : Int) = 3 := by omega
      have e : isPartD h g (.tup l) = false := by
        match l, c with
        | [], _ => rfl
        | [_], _ => rfl
        | [_, _], _ => rfl
        | _ :: _ :: _ :: _ :: _, _ => rfl
      rw [e] at hq
      wp_walk using c', decide_false, Bool.true_xor, Bool.not_false
      exact hq
  | _ => simpa [isTp, OE.w_g0, OE.w_gs, OE.w_s0, OE.w_ss, OE.w_some, OE.w_ex, OE.w_lc, OE.w_ln, OE.w_at, OE.w_ta, OE.w_nt, OE.w_nf, OE.w_it, OE.w_if, OE.w_itP, OE.w_ifP, OE.w_ft, OE.w_mc, OE.w_mn, OE.w_rs, OE.w_r0, OE.w_ca, OE.w_na, OE.w_za, OE.w_sb, OE.w_sz, OE.s_then, OE.k_seqN, OE.k_seqR, OE.k_seqB, OE.k_seqC, OE.s_next, OE.s_ret, OE.k_ret, OE.s_set, OE.k_set, OE.s_ite, OE.k_ite, OE.o_rt, OE.o_nx, OE.s_run, OE.s_var, OE.s_const, OE.s_nil, OE.s_cons, OE.k_cons, OE.k_cons2, OE.s_tup, OE.s_lst, OE.k_tup, OE.k_lst, OE.s_bin, OE.k_bin, OE.k_bin2, OE.s_bind, OE.k_ap, OE.s_call, OE.k_apL, OE.s_fn, OE.k_fn, OE.s_test, OE.k_test, OE.s_and, OE.k_and, OE.s_or, OE.k_or, OE.s_not, OE.k_not, OE.s_andV, OE.k_andV, OE.s_orV, OE.k_orV, OE.s_notV, OE.k_notV, OE.s_if, OE.k_if, OE.s_isN, OE.k_isN, OE.s_noN, OE.k_noN, OE.s_chain, OE.k_ch1, OE.k_ch2, OE.k_ch3, OE.s_isi, OE.k_isi, OE.s_part, OE.k_part, OE.s_slice, OE.k_sl1, OE.k_sl2, OE.k_sl3, OE.s_retO, OE.s_slL, OE.s_slT, OE.s_slS, OE.s_seq, OE.k_itmL, OE.k_itmT, OE.k_itmS, OE.s_its, OE.k_its, OE.s_rng1, OE.s_rng2, OE.s_enT, OE.s_enL, OE.s_zipL, OE.s_zipT, OE.s_for, OE.k_for, OE.for_nil, OE.k_go, OE.k_tN, OE.k_tC, OE.k_tB, OE.k_tR, OE.g_name, OE.g_tup, OE.g_cons, OE.k_gs, OE.g_nil, OE.s_asg, OE.k_asg, OE.k_nx, OE.s_par, OE.k_par, OE.s_lc, OE.k_lc, OE.k_lc1, OE.k_lc2, OE.k_some, OE.s_fail, OE.k_fail, OE.s_fail0, OE.s_try, OE.k_unN, OE.k_unR, OE.s_fld, OE.k_fld, OE.f_addI, OE.f_addT, OE.f_addL, OE.f_addS, OE.f_ii, OE.f_i0, OE.f_mulI, OE.f_mulT, OE.f_mulL, OE.f_neg, OE.f_ixL, OE.f_ixT, OE.f_ixS, OE.f_lenL, OE.f_lenT, OE.f_lenS, OE.f_int, OE.f_min, OE.f_max, OE.f_tupL, OE.f_lstT, OE.f_lstL, OE.f_repr, OE.f_cmpS, OE.f_cmpI, OE.f_cmpT, OE.f_cmpL, OE.s_dict, OE.k_dic, OE.f_getM, OE.s_putM, OE.k_put1, OE.k_put2, OE.s_dm, OE.mGet_left, OE.mGet_seed, OE.mGet_cells, OE.mGet_spot, OE.mPut_left, OE.mPut_spot, OE.k_wh, OE.s_star, OE.k_starT, OE.k_starL, OE.k_star2, OE.s_drop, OE.k_drop, OE.s_par3, OE.k_par3, OE.f_lrg1, OE.f_trg1, OE.f_lrg2, OE.f_trg2, OE.f_ixM, OE.f_lenM, OE.f_inT, OE.f_inL, OE.f_inS, OE.s_tryN, OE.c_nil, OE.f_all, OE.f_any, OE.f_sum, OE.s_frz, OE.k_frzS, OE.k_fz, OE.f_frzLs, OE.f_frzT, OE.f_frzI, OE.f_frzN, OE.s_mlst, OE.k_ml, OE.s_meth, OE.k_me, OE.f_app, OE.f_extd, OE.f_sorted, OE.s_lc2, OE.k_lcc, OE.f_isB, OE.s_isi2, OE.k_isi2, OE.s_aug, OE.k_aug, OE.w_int, OE.f_revL, OE.f_revT, OE.s_isx, OE.k_isx, OE.s_seqG, OE.k_itmGL, OE.k_itmGT, OE.k_itmGM, OE.s_forG, OE.k_forG, OE.s_lcG, OE.k_lcG, OE.f_maddL, OE.s_mlc, OE.k_mlc, OE.k_newQ, OE.startE, Nat.reduceAdd, Nat.reduceLeDiff, Nat.reduceSub, isPartD] using hq
/-! meeting -/
def meetB (p o : P3) : Bool := decide (p.1 = o.1) && decide (((Int.gcd p.2.1 o.2.1 : Nat) : Int) ∣ p.2.2 - o.2.2)
theorem meet_comm (p o : P3) : meetB p o = meetB o p := by
  unfold meetB
  rw [Int.gcd_comm o.2.1 p.2.1]
  congr 1
  · exact decide_eq_decide.mpr ⟨Eq.symm, Eq.symm⟩
  · refine decide_eq_decide.mpr ⟨fun z => ?_, fun z => ?_⟩
    · have := Int.dvd_neg.mpr z; rwa [Int.neg_sub] at this
    · have := Int.dvd_neg.mpr z; rwa [Int.neg_sub] at this
theorem dvd_fmod {a g : Int} (hg : 0 < g) : decide (a.fmod g = 0) = decide (g ∣ a) := decide_eq_decide.mpr (by
  rw [Int.fmod_eq_emod_of_nonneg _ (by omega)]
  exact ⟨Int.dvd_of_emod_eq_zero, Int.emod_eq_zero_of_dvd⟩)
theorem sp_do_meet {p o : P3} (h1 : 1 ≤ p.2.1) (h2 : 1 ≤ o.2.1) (hq : q (.bl (meetB p o)) n) : F_do_meet Γ [partD p, partD o] n q x := by
  wp_walk using F_do_meet, t_do_meet, partD, at0, at1, at2
  unfold meetB at hq
  by_cases c : p.1 = o.1
  · rw [decide_eq_true c, Bool.true_and] at hq
    wp_walk using c, decide_true, Bool.false_xor, at1, at2
    refine sp_common (Γ := Γ) (by omega) (by omega) ?_
    have g0 := gcd_pos (a := p.2.1) h2
    wp_walk
    refine ⟨by omega, ?_⟩
    rw [dvd_fmod (by omega), Bool.false_xor]
    exact hq
  · rw [decide_eq_false c, Bool.false_and] at hq
    wp_walk using c, decide_false, Bool.false_xor
    exact hq
/-- all earlier ones asked of each -/
def meetFrom (all : List P3) : Nat → List P3 → List Bool
  | _, [] => []
  | i, p :: ps => (all.take i).map (meetB p) ++ meetFrom all (i + 1) ps
def Apart (ps : List P3) : Prop := ps.Pairwise fun p o => meetB p o = false
theorem meetFrom_iff : ∀ (ps pre : List P3), (meetFrom (pre ++ ps) pre.length ps).any id = false ↔ (∀ p ∈ ps, ∀ o ∈ pre, meetB p o = false) ∧ Apart ps
  | [], pre => by simp [meetFrom, Apart]
  | p :: ps, pre => by
    have ih := meetFrom_iff ps (pre ++ [p])
    rw [List.append_assoc, List.length_append, List.singleton_append] at ih
    rw [meetFrom, List.any_append, Bool.or_eq_false_iff, show pre.length + 1 = pre.length + [p].length from rfl, ih, List.take_left]
    unfold Apart
    rw [List.pairwise_cons]
    constructor
    · rintro ⟨h1, h2, h3⟩
      have h1 : ∀ o ∈ pre, meetB p o = false := fun o ho => by
        rw [List.any_map, List.any_eq_false] at h1
        simpa using h1 o ho
      refine ⟨fun p' hp' o ho => ?_, fun o ho => ?_, h3⟩
      · rcases List.mem_cons.mp hp' with rfl | hp'
        · exact h1 o ho
        · exact h2 p' hp' o (List.mem_append_left _ ho)
      · rw [meet_comm]; exact h2 o ho p (List.mem_append_right _ List.mem_cons_self)
    · rintro ⟨h1, h2, h3⟩
      refine ⟨?_, fun p' hp' o ho => ?_, h3⟩
      · rw [List.any_map, List.any_eq_false]
        intro o ho
        have := h1 p List.mem_cons_self o ho
        simp [this]
      · rcases List.mem_append.mp ho with ho | ho
        · exact h1 p' (List.mem_cons_of_mem _ hp') o ho
        · rw [List.mem_singleton] at ho
          subst ho
          rw [meet_comm]; exact h2 p' hp'
def meetsL (ps : List P3) : Bool := (meetFrom ps 0 ps).any id
theorem meets_iff (ps : List P3) : meetsL ps = false ↔ Apart ps := by
  have := meetFrom_iff ps []
  simp -implicitDefEqProofs only [List.nil_append, List.length_nil] at this
  unfold meetsL
  rw [this]
  exact ⟨fun h => h.2, fun h => ⟨fun _ _ _ z => (nomatch z), h⟩⟩
/-! parts judged -/
def partsW (h : Int) : List D → List Int → Bool
  | d :: l, g :: gs => isPartD h g d && partsW h l gs
  | _, _ => true
def toP : D → P3
  | .tup [.int a, .int b, .int c] => (a, b, c)
  | _ => (0, 0, 0)
theorem toP_part (p : P3) : toP (partD p) = p := rfl
def arePartsD (h : Int) (gs : List Int) : D → Bool
  | .tup l => decide (l.length = gs.length) && (partsW h l gs && !meetsL (l.map toP))
  | _ => false
/-- parts, each as its gap wants -/
inductive PartsOk (h : Int) : List P3 → List Int → Prop
  | nil : PartsOk h [] []
  | cons {p : P3} {ps : List P3} {g : Int} {gs : List Int} (u0 : 0 ≤ p.1) (u1 : p.1 < h) (e1 : 1 ≤ p.2.1) (eg : p.2.1 ≤ g) (r0 : 0 ≤ p.2.2) (r1 : p.2.2 < p.2.1) (t : PartsOk h ps gs) : PartsOk h (p :: ps) (g :: gs)
theorem PartsOk.len {h : Int} : ∀ {ps : List P3} {gs : List Int}, PartsOk h ps gs → ps.length = gs.length
  | _, _, .nil => rfl
  | _, _, .cons _ _ _ _ _ _ t => congrArg (· + 1) t.len
theorem PartsOk.w {h : Int} : ∀ {ps : List P3} {gs : List Int}, PartsOk h ps gs → partsW h (ps.map partD) gs = true
  | _, _, .nil => rfl
  | _, _, .cons a b c d e f t => by rw [List.map_cons, partsW, isPart_of a b c d e f, t.w]; rfl
theorem partsW_ok {h : Int} : ∀ {l : List D} {gs : List Int}, l.length = gs.length → partsW h l gs = true → ∃ ps, l = ps.map partD ∧ PartsOk h ps gs
  | [], [], _, _ => ⟨[], rfl, .nil⟩
  | [], _ :: _, h, _ => by cases h
  | _ :: _, [], h, _ => by cases h
  | d :: l, g :: gs, hl, hw => by
    rw [partsW, Bool.and_eq_true] at hw
    obtain ⟨p, rfl, a, b, c, d', e, f⟩ := isPart_some hw.1
    obtain ⟨ps, rfl, t⟩ := partsW_ok (by simpa using hl) hw.2
    exact ⟨p :: ps, rfl, .cons a b c d' e f t⟩
theorem map_toP : ∀ ps : List P3, (ps.map partD).map toP = ps
  | [] => rfl
  | p :: ps => by rw [List.map_cons, List.map_cons, map_toP ps, toP_part]
theorem PartsOk.at' {h : Int} : ∀ {ps : List P3} {gs : List Int} {i : Nat} {p : P3}, PartsOk h ps gs → ps[i]? = some p → ∃ g, gs[i]? = some g ∧ 0 ≤ p.1 ∧ p.1 < h ∧ 1 ≤ p.2.1 ∧ p.2.1 ≤ g ∧ 0 ≤ p.2.2 ∧ p.2.2 < p.2.1
  | _, _, _, _, .nil, e => by simp at e
  | _, _, 0, _, .cons a b c d e f t, z => by cases z; exact ⟨_, rfl, a, b, c, d, e, f⟩
  | _, _, i + 1, _, .cons _ _ _ _ _ _ t, z => by
    rw [List.getElem?_cons_succ] at z
    obtain ⟨g, h1, h2⟩ := t.at' z
    exact ⟨g, by rw [List.getElem?_cons_succ]; exact h1, h2⟩
theorem PartsOk.mem {h : Int} {ps : List P3} {gs : List Int} {p : P3} (t : PartsOk h ps gs) (hp : p ∈ ps) : ∃ g ∈ gs, 0 ≤ p.1 ∧ p.1 < h ∧ 1 ≤ p.2.1 ∧ p.2.1 ≤ g ∧ 0 ≤ p.2.2 ∧ p.2.2 < p.2.1 := by
  obtain ⟨i, hi⟩ := List.mem_iff_getElem?.mp hp
  obtain ⟨g, h1, h2⟩ := t.at' hi
  exact ⟨g, List.mem_of_getElem? h1, h2⟩
/-- what a value that is parts is -/
theorem areParts_some {h : Int} {gs : List Int} {d : D} (e : arePartsD h gs d = true) : ∃ ps, d = partsD ps ∧ PartsOk h ps gs ∧ Apart ps := by
  cases d with
  | tup l =>
    simp -implicitDefEqProofs only [arePartsD, Bool.and_eq_true, decide_eq_true_eq, Bool.not_eq_true'] at e
    obtain ⟨ps, rfl, t⟩ := partsW_ok e.1 e.2.1
    rw [map_toP] at e
    exact ⟨ps, rfl, t, (meets_iff ps).mp e.2.2⟩
  | _ => cases e
theorem areParts_of {h : Int} {gs : List Int} {ps : List P3} (t : PartsOk h ps gs) (a : Apart ps) : arePartsD h gs (partsD ps) = true := by
  show (decide ((ps.map partD).length = gs.length) && (partsW h (ps.map partD) gs && !meetsL ((ps.map partD).map toP))) = true
  rw [List.length_map, decide_eq_true t.len, t.w, map_toP, (meets_iff ps).mpr a]; rfl
theorem enum_mem : ∀ {l : List D} {i : Nat} {d : D}, d ∈ enumD i l → ∃ (j : Nat) (e : D), d = .tup [.int ((j : Nat) : Int), e] ∧ i ≤ j ∧ l[j - i]? = some e
  | [], _, _, h => nomatch h
  | a :: l, i, d, h => by
    rw [enumD] at h
    rcases List.mem_cons.mp h with e | h
    · exact ⟨i, a, e, Nat.le_refl _, by simp⟩
    · obtain ⟨j, e, h1, h2, h3⟩ := enum_mem h
      refine ⟨j, e, h1, by omega, ?_⟩
      rw [show j - i = (j - (i + 1)) + 1 by omega, List.getElem?_cons_succ]; exact h3
def partF (h : Int) (gs : List Int) : D → Bool
  | .tup [.int i, d] => isPartD h (gs.getD i.toNat 0) d
  | _ => false
theorem partsW_all {h : Int} {all : List Int} : ∀ (l : List D) (gs : List Int) (i : Nat), l.length = gs.length → (∀ j, gs[j]? = all[i + j]?) → ((enumD i l).map (partF h all)).all id = partsW h l gs
  | [], [], _, _, _ => rfl
  | [], _ :: _, _, h, _ => by cases h
  | _ :: _, [], _, h, _ => by cases h
  | d :: l, g :: gs, i, hl, ha => by
    have h0 := ha 0
    rw [Nat.add_zero, List.getElem?_cons_zero] at h0
    rw [enumD, List.map_cons, List.all_cons, partsW, partsW_all l gs (i + 1) (by simpa using hl) fun j => ?_]
    · show (isPartD h (all.getD ((i : Nat) : Int).toNat 0) d && _) = _
      rw [Int.toNat_natCast, List.getD_eq_getElem?_getD, ← h0]; rfl
    · have := ha (j + 1)
      rw [List.getElem?_cons_succ] at this
      rw [this]; congr 1; omega
theorem flat_meet (all : List P3) : ∀ (ps : List P3) (i : Nat), (enumD i (ps.map partD)).flatMap (fun d => match d with | .tup [.int i, e] => (all.take i.toNat).map fun o => D.bl (meetB (toP e) o) | _ => []) = (meetFrom all i ps).map fun b => D.bl b
  | [], _ => rfl
  | p :: ps, i => by
    rw [List.map_cons, enumD, List.flatMap_cons, flat_meet all ps (i + 1), meetFrom, List.map_append, List.map_map]
    show (all.take ((i : Nat) : Int).toNat).map _ ++ _ = _
    rw [Int.toNat_natCast]
    rfl
theorem sp_are_parts_of {h : Int} {gs : List Int} {d : D} (ok : PlanOk h gs) (hp : d.plain = true) (hq : q (.bl (arePartsD h gs d)) n) : F_are_parts_of Γ [planD h gs, d] n q x := by
  have l8 := ok.l8
  wp_walk using F_are_parts_of, t_are_parts_of, isi_tup
  refine ⟨noE hp, ?_⟩
  cases d with
  | tup l =>
    wp_walk using isTp, planD, at1, List.length_map
    rw [show arePartsD h gs (.tup l) = (decide (l.length = gs.length) && (partsW h l gs && !meetsL (l.map toP))) from rfl] at hq
    by_cases c : l.length = gs.length
    · have c' : ((l.length : Nat) : Int) = (gs.length : Nat) := by omega
      rw [decide_eq_true c, Bool.true_and] at hq
      wp_walk using c', decide_true, Bool.true_xor, Bool.not_true, t_are_parts_of_3
      refine ⟨by rw [enumD_length]; omega, lc_map (f := fun d => .bl (partF h gs d)) (fun d hd n k hk => ?_) ⟨_, bools_map _ _, ?_⟩⟩
      · obtain ⟨j, e, rfl, _, hj⟩ := enum_mem hd
        rw [Nat.sub_zero] at hj
        have hlt : j < gs.length := by rw [← c]; exact lt_of_get hj
        rw [s_lc1]
        wp_walk using wipeE
        refine sp_is_part (Γ := Γ) (g := gs[j]) (List.getElem?_eq_getElem hlt) (plain_mem (plain_tup hp) (List.mem_of_getElem? hj)) ?_
        have e2 : partF h gs (.tup [.int ((j : Nat) : Int), e]) = isPartD h gs[j] e := by
          show isPartD h (gs.getD ((j : Nat) : Int).toNat 0) e = _
          rw [Int.toNat_natCast, List.getD_eq_getElem?_getD, List.getElem?_eq_getElem hlt]; rfl
        rw [e2] at hk
        wp_walk
        exact hk
      · rw [partsW_all l gs 0 c fun j => by rw [Nat.zero_add]]
        by_cases w : partsW h l gs = true
        · rw [w, Bool.true_and] at hq
          obtain ⟨ps, rfl, t⟩ := partsW_ok c w
          rw [map_toP] at hq
          have pl := t.len
          rw [w]
          wp_walk using t_are_parts_of_5
          refine lc2_map (M := 8) (f := fun d => match d with | .tup [.int i, e] => (ps.take i.toNat).map fun o => D.bl (meetB (toP e) o) | _ => []) (fun d hd n cc k hcc hk => ?_) (fun d hd => ?_) (by rw [enumD_length, List.length_map]; omega) ?_
          · obtain ⟨j, e, rfl, _, hj⟩ := enum_mem hd
            rw [Nat.sub_zero, List.getElem?_map] at hj
            cases ep : ps[j]? with
            | none => rw [ep] at hj; cases hj
            | some p =>
              rw [ep] at hj
              cases hj
              have hlt := lt_of_get ep
              obtain ⟨_, _, _, _, pe, _⟩ := t.mem (List.mem_of_getElem? ep)
              wp_walk using wipeE
              rw [cut_take (by omega) (by rw [List.length_map]; omega), Int.toNat_natCast]
              refine ⟨by rw [List.length_take, List.length_map]; omega, lc_map (f := fun o => .bl (meetB p (toP o))) (fun d hd n k hk => ?_) ?_⟩
              · rw [← List.map_take] at hd
                obtain ⟨o, ho, rfl⟩ := List.mem_map.mp hd
                obtain ⟨_, _, _, _, oe, _⟩ := t.mem (List.mem_of_mem_take ho)
                rw [s_lc1]
                wp_walk using wipeE
                exact sp_do_meet (Γ := Γ) pe oe (by wp_walk; exact hk)
              · rw [← List.map_take, List.map_map]
                have hk : k ((ps.take ((j : Nat) : Int).toNat).map fun o => D.bl (meetB (toP (partD p)) o)) n := hk
                rw [Int.toNat_natCast] at hk
                exact hk
          · obtain ⟨j, e, rfl, _, hj⟩ := enum_mem hd
            show ((ps.take ((j : Nat) : Int).toNat).map _).length ≤ 8
            rw [List.length_map, List.length_take]; omega
          · rw [flat_meet]
            wp_walk
            refine ⟨_, bools_map _ _, ?_⟩
            wp_walk using List.map_id'
            exact hq
        · have w' : partsW h l gs = false := by simpa using w
          rw [w', Bool.false_and] at hq
          rw [w']
          wp_walk
          exact hq
    · have c' : ¬ ((l.length : Nat) : Int) = (gs.length : Nat) := by omega
      rw [decide_eq_false c, Bool.false_and] at hq
      wp_walk using c', decide_false, Bool.true_xor, Bool.not_false
      exact hq
  | _ => simpa [isTp, OE.w_g0, OE.w_gs, OE.w_s0, OE.w_ss, OE.w_some, OE.w_ex, OE.w_lc, OE.w_ln, OE.w_at, OE.w_ta, OE.w_nt, OE.w_nf, OE.w_it, OE.w_if, OE.w_itP, OE.w_ifP, OE.w_ft, OE.w_mc, OE.w_mn, OE.w_rs, OE.w_r0, OE.w_ca, OE.w_na, OE.w_za, OE.w_sb, OE.w_sz, OE.s_then, OE.k_seqN, OE.k_seqR, OE.k_seqB, OE.k_seqC, OE.s_next, OE.s_ret, OE.k_ret, OE.s_set, OE.k_set, OE.s_ite, OE.k_ite, OE.o_rt, OE.o_nx, OE.s_run, OE.s_var, OE.s_const, OE.s_nil, OE.s_cons, OE.k_cons, OE.k_cons2, OE.s_tup, OE.s_lst, OE.k_tup, OE.k_lst, OE.s_bin, OE.k_bin, OE.k_bin2, OE.s_bind, OE.k_ap, OE.s_call, OE.k_apL, OE.s_fn, OE.k_fn, OE.s_test, OE.k_test, OE.s_and, OE.k_and, OE.s_or, OE.k_or, OE.s_not, OE.k_not, OE.s_andV, OE.k_andV, OE.s_orV, OE.k_orV, OE.s_notV, OE.k_notV, OE.s_if, OE.k_if, OE.s_isN, OE.k_isN, OE.s_noN, OE.k_noN, OE.s_chain, OE.k_ch1, OE.k_ch2, OE.k_ch3, OE.s_isi, OE.k_isi, OE.s_part, OE.k_part, OE.s_slice, OE.k_sl1, OE.k_sl2, OE.k_sl3, OE.s_retO, OE.s_slL, OE.s_slT, OE.s_slS, OE.s_seq, OE.k_itmL, OE.k_itmT, OE.k_itmS, OE.s_its, OE.k_its, OE.s_rng1, OE.s_rng2, OE.s_enT, OE.s_enL, OE.s_zipL, OE.s_zipT, OE.s_for, OE.k_for, OE.for_nil, OE.k_go, OE.k_tN, OE.k_tC, OE.k_tB, OE.k_tR, OE.g_name, OE.g_tup, OE.g_cons, OE.k_gs, OE.g_nil, OE.s_asg, OE.k_asg, OE.k_nx, OE.s_par, OE.k_par, OE.s_lc, OE.k_lc, OE.k_lc1, OE.k_lc2, OE.k_some, OE.s_fail, OE.k_fail, OE.s_fail0, OE.s_try, OE.k_unN, OE.k_unR, OE.s_fld, OE.k_fld, OE.f_addI, OE.f_addT, OE.f_addL, OE.f_addS, OE.f_ii, OE.f_i0, OE.f_mulI, OE.f_mulT, OE.f_mulL, OE.f_neg, OE.f_ixL, OE.f_ixT, OE.f_ixS, OE.f_lenL, OE.f_lenT, OE.f_lenS, OE.f_int, OE.f_min, OE.f_max, OE.f_tupL, OE.f_lstT, OE.f_lstL, OE.f_repr, OE.f_cmpS, OE.f_cmpI, OE.f_cmpT, OE.f_cmpL, OE.s_dict, OE.k_dic, OE.f_getM, OE.s_putM, OE.k_put1, OE.k_put2, OE.s_dm, OE.mGet_left, OE.mGet_seed, OE.mGet_cells, OE.mGet_spot, OE.mPut_left, OE.mPut_spot, OE.k_wh, OE.s_star, OE.k_starT, OE.k_starL, OE.k_star2, OE.s_drop, OE.k_drop, OE.s_par3, OE.k_par3, OE.f_lrg1, OE.f_trg1, OE.f_lrg2, OE.f_trg2, OE.f_ixM, OE.f_lenM, OE.f_inT, OE.f_inL, OE.f_inS, OE.s_tryN, OE.c_nil, OE.f_all, OE.f_any, OE.f_sum, OE.s_frz, OE.k_frzS, OE.k_fz, OE.f_frzLs, OE.f_frzT, OE.f_frzI, OE.f_frzN, OE.s_mlst, OE.k_ml, OE.s_meth, OE.k_me, OE.f_app, OE.f_extd, OE.f_sorted, OE.s_lc2, OE.k_lcc, OE.f_isB, OE.s_isi2, OE.k_isi2, OE.s_aug, OE.k_aug, OE.w_int, OE.f_revL, OE.f_revT, OE.s_isx, OE.k_isx, OE.s_seqG, OE.k_itmGL, OE.k_itmGT, OE.k_itmGM, OE.s_forG, OE.k_forG, OE.s_lcG, OE.k_lcG, OE.f_maddL, OE.s_mlc, OE.k_mlc, OE.k_newQ, OE.startE, Nat.reduceAdd, Nat.reduceLeDiff, Nat.reduceSub, arePartsD] using hq
theorem sp_need_parts {h : Int} {gs : List Int} {d : D} (ok : PlanOk h gs) (hp : d.plain = true) (hq : if arePartsD h gs d = true then q d n else x ⟨"BadParts", some d⟩ n) : F_need_parts Γ [planD h gs, d] n q x := by
  wp_walk using F_need_parts, t_need_parts
  refine sp_needOk (Γ := Γ) ok ?_
  wp_walk using t_need_parts_2
  refine sp_are_parts_of (Γ := Γ) ok hp ?_
  by_cases c : arePartsD h gs d = true
  · rw [if_pos c] at hq
    rw [c]
    wp_walk using t_need_parts_4
    exact hq
  · rw [if_neg c] at hq
    have c' : arePartsD h gs d = false := by simpa using c
    rw [c']
    wp_walk
    exact hq
theorem sp_need_day {d : D} {m : Int} (he : d.isE = false) (hq : if isW 0 m d = true then q .non n else x ⟨"BadNumber", some d⟩ n) : F_need_day Γ [d, .int m] n q x := by
  wp_walk using F_need_day, t_need_day
  refine sp_is_whole (Γ := Γ) he ?_
  by_cases c : isW 0 m d = true
  · rw [if_pos c] at hq
    rw [c]
    wp_walk
    exact hq
  · rw [if_neg c] at hq
    have c' : isW 0 m d = false := by simpa using c
    rw [c']
    wp_walk
    exact hq
/-! days by parts -/
def dayIn : Nat → List P3 → Int → List Int
  | _, [], _ => []
  | i, p :: ps, t => if t.fmod p.2.1 = p.2.2 then ((i : Nat) : Int) :: dayIn (i + 1) ps t else dayIn (i + 1) ps t
def dayInF (t : Int) : D → Option D
  | .tup [i, .tup [_, .int e, .int r]] => if t.fmod e = r then some i else none
  | _ => none
theorem dayIn_D (t : Int) : ∀ (ps : List P3) (i : Nat), (enumD i (ps.map partD)).filterMap (dayInF t) = (dayIn i ps t).map D.int
  | [], _ => rfl
  | p :: ps, i => by
    rw [List.map_cons, enumD, List.filterMap_cons, dayIn_D t ps (i + 1), dayIn]
    simp -implicitDefEqProofs only [partD, dayInF]
    by_cases c : t.fmod p.2.1 = p.2.2
    · simp [c]
    · simp [c]
theorem sp_day_in {ps : List P3} {t : Int} (h1 : ∀ p ∈ ps, 1 ≤ p.2.1) (hl : ps.length ≤ 1000) (hq : q (dayD (dayIn 0 ps t)) n) : F_day_in Γ [partsD ps, .int t] n q x := by
  wp_walk using F_day_in, t_day_in, partsD
  refine ⟨by rw [enumD_length, List.length_map]; omega, lc_pure (f := dayInF t) (fun d hd n k hk => ?_) ?_⟩
  · obtain ⟨j, e, rfl, _, hj⟩ := enum_mem hd
    rw [Nat.sub_zero, List.getElem?_map] at hj
    cases ep : ps[j]? with
    | none => rw [ep] at hj; cases hj
    | some p =>
      rw [ep] at hj
      cases hj
      have pe := h1 p (List.mem_of_getElem? ep)
      rw [s_lc1]
      simp -implicitDefEqProofs only [partD, dayInF] at hk
      wp_walk using wipeE, partD, at1, at2
      refine ⟨by omega, ?_⟩
      by_cases c : t.fmod p.2.1 = p.2.2
      · rw [if_pos c] at hk
        wp_walk using c, decide_true, Bool.false_xor
        exact hk
      · rw [if_neg c] at hk
        wp_walk using c, decide_false, Bool.false_xor
        exact hk
  · rw [dayIn_D]
    exact hq
theorem sp_day_by {h : Int} {gs : List Int} {d e : D} (ok : PlanOk h gs) (hp : d.plain = true) (he : e.isE = false)
    (hq : if arePartsD h gs d = true then (if isW 0 1000000000000000000000000000000 e = true then ∀ ps t, d = partsD ps → e = .int t → q (dayD (dayIn 0 ps t)) n else x ⟨"BadNumber", some e⟩ n) else x ⟨"BadParts", some d⟩ n) : F_day_by Γ [planD h gs, d, e] n q x := by
  wp_walk using F_day_by, t_day_by
  refine sp_need_parts (Γ := Γ) ok hp ?_
  by_cases c : arePartsD h gs d = true
  · rw [if_pos c] at hq ⊢
    wp_walk using t_day_by_2
    refine sp_need_day (Γ := Γ) he ?_
    by_cases c2 : isW 0 1000000000000000000000000000000 e = true
    · rw [if_pos c2] at hq ⊢
      obtain ⟨ps, rfl, t, _⟩ := areParts_some c
      obtain ⟨z, rfl, _, _⟩ := isW_some c2
      wp_walk using t_day_by_3
      refine sp_day_in (Γ := Γ) (fun p hp => (t.mem hp).choose_spec.2.2.2.1) (by have := t.len; have := ok.l8; omega) ?_
      wp_walk
      exact hq ps z rfl rfl
    · rw [if_neg c2] at hq ⊢
      exact hq
  · rw [if_neg c] at hq ⊢
    exact hq
def nextBy (p : P3) (t : Int) : Int := t + (p.2.2 - t).fmod p.2.1
theorem sp_next_by {h : Int} {gs : List Int} {d a e : D} (ok : PlanOk h gs) (hp : d.plain = true) (ha : a.isE = false) (he : e.isE = false)
    (hq : if arePartsD h gs d = true then (if isW 0 ((gs.length : Nat) - 1) a = true then (if isW 0 1000000000000000000000000000000 e = true then ∀ (ps : List P3) (i : Nat) (p : P3) t, d = partsD ps → a = .int (i : Nat) → ps[i]? = some p → e = .int t → q (.int (nextBy p t)) n else x ⟨"BadNumber", some e⟩ n) else x ⟨"BadNumber", some a⟩ n) else x ⟨"BadParts", some d⟩ n) : F_next_by Γ [planD h gs, d, a, e] n q x := by
  wp_walk using F_next_by, t_next_by
  refine sp_need_parts (Γ := Γ) ok hp ?_
  by_cases c : arePartsD h gs d = true
  · rw [if_pos c] at hq ⊢
    wp_walk using t_next_by_2
    refine sp_need_thing (Γ := Γ) ha ?_
    by_cases c1 : isW 0 ((gs.length : Nat) - 1) a = true
    · rw [if_pos c1] at hq ⊢
      wp_walk using t_next_by_3
      refine sp_need_day (Γ := Γ) he ?_
      by_cases c2 : isW 0 1000000000000000000000000000000 e = true
      · rw [if_pos c2] at hq ⊢
        obtain ⟨ps, rfl, t, _⟩ := areParts_some c
        obtain ⟨z, rfl, _, _⟩ := isW_some c2
        obtain ⟨i, rfl, i0, i1⟩ := isW_some c1
        have hlt : i.toNat < ps.length := by have := t.len; omega
        obtain ⟨p, ep⟩ := get_of_len hlt
        have ei : i = ((i.toNat : Nat) : Int) := by omega
        obtain ⟨_, _, _, _, pe, _⟩ := t.mem (List.mem_of_getElem? ep)
        wp_walk using t_next_by_4, partsD
        refine ⟨partD p, ?_, ?_⟩
        · rw [ei]; exact at_nat (by rw [List.getElem?_map, ep]; rfl)
        · wp_walk using partD, t_next_by_5
          refine ⟨by omega, ?_⟩
          exact hq ps i.toNat p z rfl (by rw [← ei]) ep rfl
      · rw [if_neg c2] at hq ⊢
        exact hq
    · rw [if_neg c1] at hq ⊢
      exact hq
  · rw [if_neg c] at hq ⊢
    exact hq
theorem sp_row_by {h : Int} {gs : List Int} {d e : D} (ok : PlanOk h gs) (hp : d.plain = true) (he : e.isE = false)
    (hq : if arePartsD h gs d = true then (if isW 0 1000 e = true then ∀ (ps : List P3) (m : Nat), d = partsD ps → e = .int (m : Nat) → q (.tup ((List.range m).map fun k => dayD (dayIn 0 ps ((k : Nat) : Int)))) n else x ⟨"BadNumber", some e⟩ n) else x ⟨"BadParts", some d⟩ n) : F_row_by Γ [planD h gs, d, e] n q x := by
  wp_walk using F_row_by, t_row_by
  refine sp_need_parts (Γ := Γ) ok hp ?_
  by_cases c : arePartsD h gs d = true
  · rw [if_pos c] at hq ⊢
    wp_walk using t_row_by_2
    refine sp_need_day (Γ := Γ) he ?_
    by_cases c2 : isW 0 1000 e = true
    · rw [if_pos c2] at hq ⊢
      obtain ⟨ps, rfl, t, _⟩ := areParts_some c
      obtain ⟨z, rfl, z0, z1⟩ := isW_some c2
      have ez : z = ((z.toNat : Nat) : Int) := by omega
      wp_walk using t_row_by_3
      refine ⟨by omega, by rw [range_len]; omega, lc_map (f := fun d => match d with | .int k => dayD (dayIn 0 ps k) | _ => .non) (fun d hd n k hk => ?_) ?_⟩
      · obtain ⟨j, rfl, _, _⟩ := range_get hd
        rw [s_lc1]
        wp_walk using wipeE
        refine sp_day_in (Γ := Γ) (fun p hp => (t.mem hp).choose_spec.2.2.2.1) (by have := t.len; have := ok.l8; omega) ?_
        wp_walk
        exact hk
      · unfold rangeD
        rw [List.map_map]
        have e2 : ((fun d => match d with | .int k => dayD (dayIn 0 ps k) | _ => D.non) ∘ fun k : Nat => D.int (0 + (k : Int))) = fun k : Nat => dayD (dayIn 0 ps ((k : Nat) : Int)) := by
          funext k
          show dayD (dayIn 0 ps (0 + (k : Int))) = _
          rw [Int.zero_add]
        rw [e2]
        exact hq ps z.toNat rfl (by rw [← ez])
    · rw [if_neg c2] at hq ⊢
      exact hq
  · rw [if_neg c] at hq ⊢
    exact hq
end PL

namespace PL
open OE PySem
local macro_rules | `(tactic| wp_walk) => `(tactic| simp -implicitDefEqProofs only [OE.w_g0, OE.w_gs, OE.w_s0, OE.w_ss, OE.w_some, OE.w_ex, OE.w_lc, OE.w_ln, OE.w_at, OE.w_ta, OE.w_nt, OE.w_nf, OE.w_it, OE.w_if, OE.w_itP, OE.w_ifP, OE.w_ft, OE.w_mc, OE.w_mn, OE.w_rs, OE.w_r0, OE.w_ca, OE.w_na, OE.w_za, OE.w_sb, OE.w_sz, OE.s_then, OE.k_seqN, OE.k_seqR, OE.k_seqB, OE.k_seqC, OE.s_next, OE.s_ret, OE.k_ret, OE.s_set, OE.k_set, OE.s_ite, OE.k_ite, OE.o_rt, OE.o_nx, OE.s_run, OE.s_var, OE.s_const, OE.s_nil, OE.s_cons, OE.k_cons, OE.k_cons2, OE.s_tup, OE.s_lst, OE.k_tup, OE.k_lst, OE.s_bin, OE.k_bin, OE.k_bin2, OE.s_bind, OE.k_ap, OE.s_call, OE.k_apL, OE.s_fn, OE.k_fn, OE.s_test, OE.k_test, OE.s_and, OE.k_and, OE.s_or, OE.k_or, OE.s_not, OE.k_not, OE.s_andV, OE.k_andV, OE.s_orV, OE.k_orV, OE.s_notV, OE.k_notV, OE.s_if, OE.k_if, OE.s_isN, OE.k_isN, OE.s_noN, OE.k_noN, OE.s_chain, OE.k_ch1, OE.k_ch2, OE.k_ch3, OE.s_isi, OE.k_isi, OE.s_part, OE.k_part, OE.s_slice, OE.k_sl1, OE.k_sl2, OE.k_sl3, OE.s_retO, OE.s_slL, OE.s_slT, OE.s_slS, OE.s_seq, OE.k_itmL, OE.k_itmT, OE.k_itmS, OE.s_its, OE.k_its, OE.s_rng1, OE.s_rng2, OE.s_enT, OE.s_enL, OE.s_zipL, OE.s_zipT, OE.s_for, OE.k_for, OE.for_nil, OE.k_go, OE.k_tN, OE.k_tC, OE.k_tB, OE.k_tR, OE.g_name, OE.g_tup, OE.g_cons, OE.k_gs, OE.g_nil, OE.s_asg, OE.k_asg, OE.k_nx, OE.s_par, OE.k_par, OE.s_lc, OE.k_lc, OE.k_lc1, OE.k_lc2, OE.k_some, OE.s_fail, OE.k_fail, OE.s_fail0, OE.s_try, OE.k_unN, OE.k_unR, OE.s_fld, OE.k_fld, OE.f_addI, OE.f_addT, OE.f_addL, OE.f_addS, OE.f_ii, OE.f_i0, OE.f_mulI, OE.f_mulT, OE.f_mulL, OE.f_neg, OE.f_ixL, OE.f_ixT, OE.f_ixS, OE.f_lenL, OE.f_lenT, OE.f_lenS, OE.f_int, OE.f_min, OE.f_max, OE.f_tupL, OE.f_lstT, OE.f_lstL, OE.f_repr, OE.f_cmpS, OE.f_cmpI, OE.f_cmpT, OE.f_cmpL, OE.s_dict, OE.k_dic, OE.f_getM, OE.s_putM, OE.k_put1, OE.k_put2, OE.s_dm, OE.mGet_left, OE.mGet_seed, OE.mGet_cells, OE.mGet_spot, OE.mPut_left, OE.mPut_spot, OE.k_wh, OE.s_star, OE.k_starT, OE.k_starL, OE.k_star2, OE.s_drop, OE.k_drop, OE.s_par3, OE.k_par3, OE.f_lrg1, OE.f_trg1, OE.f_lrg2, OE.f_trg2, OE.f_ixM, OE.f_lenM, OE.f_inT, OE.f_inL, OE.f_inS, OE.s_tryN, OE.c_nil, OE.f_all, OE.f_any, OE.f_sum, OE.s_frz, OE.k_frzS, OE.k_fz, OE.f_frzLs, OE.f_frzT, OE.f_frzI, OE.f_frzN, OE.s_mlst, OE.k_ml, OE.s_meth, OE.k_me, OE.f_app, OE.f_extd, OE.f_sorted, OE.s_lc2, OE.k_lcc, OE.f_isB, OE.s_isi2, OE.k_isi2, OE.s_aug, OE.k_aug, OE.w_int, OE.f_revL, OE.f_revT, OE.s_isx, OE.k_isx, OE.s_seqG, OE.k_itmGL, OE.k_itmGT, OE.k_itmGM, OE.s_forG, OE.k_forG, OE.s_lcG, OE.k_lcG, OE.f_maddL, OE.s_mlc, OE.k_mlc, OE.k_newQ, OE.startE, Nat.reduceAdd, Nat.reduceLeDiff, Nat.reduceSub])
local macro_rules | `(tactic| wp_walk using $[$ts],*) => `(tactic| simp -implicitDefEqProofs only [$[$ts:term],*, OE.w_g0, OE.w_gs, OE.w_s0, OE.w_ss, OE.w_some, OE.w_ex, OE.w_lc, OE.w_ln, OE.w_at, OE.w_ta, OE.w_nt, OE.w_nf, OE.w_it, OE.w_if, OE.w_itP, OE.w_ifP, OE.w_ft, OE.w_mc, OE.w_mn, OE.w_rs, OE.w_r0, OE.w_ca, OE.w_na, OE.w_za, OE.w_sb, OE.w_sz, OE.s_then, OE.k_seqN, OE.k_seqR, OE.k_seqB, OE.k_seqC, OE.s_next, OE.s_ret, OE.k_ret, OE.s_set, OE.k_set, OE.s_ite, OE.k_ite, OE.o_rt, OE.o_nx, OE.s_run, OE.s_var, OE.s_const, OE.s_nil, OE.s_cons, OE.k_cons, OE.k_cons2, OE.s_tup, OE.s_lst, OE.k_tup, OE.k_lst, OE.s_bin, OE.k_bin, OE.k_bin2, OE.s_bind, OE.k_ap, OE.s_call, OE.k_apL, OE.s_fn, OE.k_fn, OE.s_test, OE.k_test, OE.s_and, OE.k_and, OE.s_or, OE.k_or, OE.s_not, OE.k_not, OE.s_andV, OE.k_andV, OE.s_orV, OE.k_orV, OE.s_notV, OE.k_notV, OE.s_if, OE.k_if, OE.s_isN, OE.k_isN, OE.s_noN, OE.k_noN, OE.s_chain, OE.k_ch1, OE.k_ch2, OE.k_ch3, OE.s_isi, OE.k_isi, OE.s_part, OE.k_part, OE.s_slice, OE.k_sl1, OE.k_sl2, OE.k_sl3, OE.s_retO, OE.s_slL, OE.s_slT, OE.s_slS, OE.s_seq, OE.k_itmL, OE.k_itmT, OE.k_itmS, OE.s_its, OE.k_its, OE.s_rng1, OE.s_rng2, OE.s_enT, OE.s_enL, OE.s_zipL, OE.s_zipT, OE.s_for, OE.k_for, OE.for_nil, OE.k_go, OE.k_tN, OE.k_tC, OE.k_tB, OE.k_tR, OE.g_name, OE.g_tup, OE.g_cons, OE.k_gs, OE.g_nil, OE.s_asg, OE.k_asg, OE.k_nx, OE.s_par, OE.k_par, OE.s_lc, OE.k_lc, OE.k_lc1, OE.k_lc2, OE.k_some, OE.s_fail, OE.k_fail, OE.s_fail0, OE.s_try, OE.k_unN, OE.k_unR, OE.s_fld, OE.k_fld, OE.f_addI, OE.f_addT, OE.f_addL, OE.f_addS, OE.f_ii, OE.f_i0, OE.f_mulI, OE.f_mulT, OE.f_mulL, OE.f_neg, OE.f_ixL, OE.f_ixT, OE.f_ixS, OE.f_lenL, OE.f_lenT, OE.f_lenS, OE.f_int, OE.f_min, OE.f_max, OE.f_tupL, OE.f_lstT, OE.f_lstL, OE.f_repr, OE.f_cmpS, OE.f_cmpI, OE.f_cmpT, OE.f_cmpL, OE.s_dict, OE.k_dic, OE.f_getM, OE.s_putM, OE.k_put1, OE.k_put2, OE.s_dm, OE.mGet_left, OE.mGet_seed, OE.mGet_cells, OE.mGet_spot, OE.mPut_left, OE.mPut_spot, OE.k_wh, OE.s_star, OE.k_starT, OE.k_starL, OE.k_star2, OE.s_drop, OE.k_drop, OE.s_par3, OE.k_par3, OE.f_lrg1, OE.f_trg1, OE.f_lrg2, OE.f_trg2, OE.f_ixM, OE.f_lenM, OE.f_inT, OE.f_inL, OE.f_inS, OE.s_tryN, OE.c_nil, OE.f_all, OE.f_any, OE.f_sum, OE.s_frz, OE.k_frzS, OE.k_fz, OE.f_frzLs, OE.f_frzT, OE.f_frzI, OE.f_frzN, OE.s_mlst, OE.k_ml, OE.s_meth, OE.k_me, OE.f_app, OE.f_extd, OE.f_sorted, OE.s_lc2, OE.k_lcc, OE.f_isB, OE.s_isi2, OE.k_isi2, OE.s_aug, OE.k_aug, OE.w_int, OE.f_revL, OE.f_revT, OE.s_isx, OE.k_isx, OE.s_seqG, OE.k_itmGL, OE.k_itmGT, OE.k_itmGM, OE.s_forG, OE.k_forG, OE.s_lcG, OE.k_lcG, OE.f_maddL, OE.s_mlc, OE.k_mlc, OE.k_newQ, OE.startE, Nat.reduceAdd, Nat.reduceLeDiff, Nat.reduceSub])
variable [TN] {Γ : Gam} {n : S} {q : D → S → Prop} {x : Exn → S → Prop}
/-! ### a for over a range -/
theorem range_succ {a : Int} {k : Nat} : rangeD a (k + 1) = .int a :: rangeD (a + 1) k := by
  unfold rangeD
  rw [List.range_succ_eq_map, List.map_cons, List.map_map]
  refine congr (congrArg _ (by simp)) (List.map_congr_left fun z _ => ?_)
  show D.int _ = D.int _
  congr 1
  show a + ((z + 1 : Nat) : Int) = a + 1 + (z : Int)
  omega
theorem forR {t : Ev → Wp Out} {qo : Out → S → Prop} {i m : Nat} (I : Nat → Ev → S → Prop)
    (step : ∀ (j : Nat) ρ n (k : Out → S → Prop), j < m → I j ρ n → (∀ ρ' n', I (j + 1) ρ' n' → k (.nx ρ') n') → (∀ e s, qo (.rt e) s → k (.rt e) s) → t (ρ.set i (some (.int ((j : Nat) : Int)))) n k x)
    (last : ∀ ρ n, I m ρ n → qo (.nx ρ) n) : ∀ ρ n, I 0 ρ n → forW (gname i) t (rangeD 0 m) ρ n qo x := by
  intro ρ n h0
  refine for_inv (I := fun ds ρ s => ∃ j : Nat, j + ds.length = m ∧ ds = rangeD ((j : Nat) : Int) ds.length ∧ I j ρ s) ?_ ?_ _ _ _ ⟨0, by rw [range_len]; omega, by rw [range_len]; rfl, h0⟩
  · rintro d ds ρ s k ⟨j, h1, h2, h3⟩ k1 k2
    rw [List.length_cons] at h1 h2
    rw [range_succ] at h2
    injection h2 with e1 e2
    subst e1
    wp_walk
    exact step j ρ s k (by omega) h3 (fun ρ' n' h => k1 _ _ ⟨j + 1, by omega, by rw [show ((j + 1 : Nat) : Int) = (j : Int) + 1 by omega]; exact e2, h⟩) k2
  · rintro ρ s ⟨j, h1, h2, h3⟩
    have e : j = m := by simpa using h1
    subst e
    exact last ρ s h3
/-! ### numbers that meet -/
theorem bez : ∀ (b a : Nat), ∃ u v : Int, (a : Int) * u + (b : Int) * v = ((Nat.gcd a b : Nat) : Int) := by
  intro b
  induction b using Nat.strongRecOn with
  | _ b ih =>
    intro a
    by_cases hb : b = 0
    · subst hb
      exact ⟨1, 0, by simp⟩
    · obtain ⟨u, v, e⟩ := ih (a % b) (Nat.mod_lt _ (Nat.pos_of_ne_zero hb)) b
      refine ⟨v, u - (a / b : Nat) * v, ?_⟩
      have e2 : Nat.gcd b (a % b) = Nat.gcd a b := by rw [Nat.gcd_comm b, ← Nat.gcd_rec, Nat.gcd_comm]
      rw [e2] at e
      rw [← e]
      have e3 : (a : Int) = (b : Int) * ((a / b : Nat) : Int) + ((a % b : Nat) : Int) := by
        have := Nat.div_add_mod a b
        have : (((b * (a / b) + a % b : Nat)) : Int) = (a : Int) := by rw [this]
        rw [← this]; simp
      rw [Int.mul_sub, ← Int.mul_assoc]
      have e4 : (a : Int) * v = (b : Int) * ((a / b : Nat) : Int) * v + ((a % b : Nat) : Int) * v := by rw [← Int.add_mul, ← e3]
      omega
theorem bezI {a b : Int} (ha : 0 ≤ a) (hb : 0 ≤ b) : ∃ u v : Int, a * u + b * v = ((Int.gcd a b : Nat) : Int) := by
  obtain ⟨A, rfl⟩ := Int.eq_ofNat_of_zero_le ha
  obtain ⟨B, rfl⟩ := Int.eq_ofNat_of_zero_le hb
  exact bez B A
theorem crt {a b r s : Int} (ha : 1 ≤ a) (hb : 1 ≤ b) (r0 : 0 ≤ r) (r1 : r < a) (s0 : 0 ≤ s) (s1 : s < b) : (∃ k : Int, 0 ≤ k ∧ k < a * b ∧ k % a = r ∧ k % b = s) ↔ ((Int.gcd a b : Nat) : Int) ∣ r - s := by
  constructor
  · rintro ⟨k, _, _, h1, h2⟩
    have g1 : ((Int.gcd a b : Nat) : Int) ∣ a := Int.gcd_dvd_left ..
    have g2 : ((Int.gcd a b : Nat) : Int) ∣ b := Int.gcd_dvd_right ..
    have e1 : k - r = a * (k / a) := by have := Int.mul_ediv_add_emod k a; omega
    have e2 : k - s = b * (k / b) := by have := Int.mul_ediv_add_emod k b; omega
    have e : r - s = b * (k / b) - a * (k / a) := by omega
    rw [e]
    exact Int.dvd_sub (Int.dvd_trans g2 (Int.dvd_mul_right ..)) (Int.dvd_trans g1 (Int.dvd_mul_right ..))
  · rintro ⟨t, ht⟩
    obtain ⟨u, v, e⟩ := bezI (a := a) (b := b) (by omega) (by omega)
    have pos : 0 < a * b := Int.mul_pos (by omega) (by omega)
    refine ⟨(r - a * (u * t)) % (a * b), Int.emod_nonneg _ (by omega), Int.emod_lt_of_pos _ pos, ?_, ?_⟩
    · rw [Int.emod_emod_of_dvd _ (Int.dvd_mul_right ..), Int.sub_mul_emod_self_left]
      exact Int.emod_eq_of_lt r0 r1
    · rw [Int.emod_emod_of_dvd _ (Int.dvd_mul_left ..)]
      have e2 : r - a * (u * t) = s + b * (v * t) := by
        have : (a * u + b * v) * t = r - s := by rw [e, ht]
        rw [Int.add_mul, Int.mul_assoc, Int.mul_assoc] at this
        omega
      rw [e2, Int.add_mul_emod_self_left]
      exact Int.emod_eq_of_lt s0 s1
/-! ### the law's parts -/
theorem sp_commonL {a b : Int} (ha : 0 ≤ a) (hb : 0 ≤ b) (h : q (.int (Int.gcd a b)) n) : F__law_common Γ [.int a, .int b] n q x := by
  wp_walk using t__law_common_3, t__law_common_2, t__law_common, F__law_common
  refine wh_inv (I := fun m ρ s => s = n ∧ ∃ a' b' : Int, ρ = [some (.int a'), some (.int b')] ∧ 0 ≤ a' ∧ 0 ≤ b' ∧ m = b'.toNat ∧ Int.gcd a' b' = Int.gcd a b) ?_ _ _ _ ⟨rfl, a, b, rfl, ha, hb, rfl, rfl⟩
  rintro m ρ s k ⟨rfl, a', b', rfl, ha', hb', rfl, e⟩ k1 k2
  wp_walk
  by_cases c : 0 < b'
  · wp_walk using c, decide_true
    refine ⟨by omega, k1 (a'.fmod b').toNat _ _ ?_ ⟨rfl, b', a'.fmod b', rfl, hb', ?_, rfl, ?_⟩⟩
    · have := fmod_lt (i := a') c; omega
    · exact (fmod_lt c).1
    · rw [Int.fmod_eq_emod_of_nonneg _ hb', ← e]
      obtain ⟨A, rfl⟩ := Int.eq_ofNat_of_zero_le ha'
      obtain ⟨B, rfl⟩ := Int.eq_ofNat_of_zero_le hb'
      show Nat.gcd B (A % B) = Nat.gcd A B
      rw [Nat.gcd_comm B, ← Nat.gcd_rec, Nat.gcd_comm]
  · have e0 : b' = 0 := by omega
    subst e0
    have e' : a' = ((Int.gcd a b : Nat) : Int) := by
      rw [← e]
      obtain ⟨A, rfl⟩ := Int.eq_ofNat_of_zero_le ha'
      show ((A : Nat) : Int) = ((Nat.gcd A 0 : Nat) : Int)
      rw [Nat.gcd_zero_right]
    wp_walk using Int.lt_irrefl, decide_false
    rw [e']
    exact h
structure POk (p : P3) : Prop where
  e1 : 1 ≤ p.2.1
  e2 : p.2.1 ≤ 1000000000000000000000000000000
  r0 : 0 ≤ p.2.2
  r1 : p.2.2 < p.2.1
def bothF (p o : P3) : D → Option D
  | .int k => if k.fmod p.2.1 = p.2.2 then (if k.fmod o.2.1 = o.2.2 then some (.int k) else none) else none
  | _ => none
theorem both_empty {p o : P3} (hp : POk p) (ho : POk o) : ((rangeD 0 (p.2.1 * o.2.1).toNat).filterMap (bothF p o)).isEmpty = !decide (((Int.gcd p.2.1 o.2.1 : Nat) : Int) ∣ p.2.2 - o.2.2) := by
  have pe := hp.e1
  have oe := ho.e1
  have pos : 0 < p.2.1 * o.2.1 := Int.mul_pos (by omega) (by omega)
  have z := crt pe oe hp.r0 hp.r1 ho.r0 ho.r1
  cases e : ((rangeD 0 (p.2.1 * o.2.1).toNat).filterMap (bothF p o)).isEmpty with
  | true =>
    rw [List.isEmpty_iff] at e
    symm
    rw [Bool.not_eq_true', decide_eq_false_iff_not, ← z]
    rintro ⟨k, k0, k1, k2, k3⟩
    have hm : (D.int k) ∈ (rangeD 0 (p.2.1 * o.2.1).toNat).filterMap (bothF p o) := by
      refine List.mem_filterMap.mpr ⟨.int k, ?_, ?_⟩
      · unfold rangeD
        exact List.mem_map.mpr ⟨k.toNat, List.mem_range.mpr (by omega), by show D.int _ = _; congr 1; omega⟩
      · simp -implicitDefEqProofs only [bothF]
        rw [Int.fmod_eq_emod_of_nonneg _ (by omega), Int.fmod_eq_emod_of_nonneg _ (by omega), if_pos k2, if_pos k3]
    rw [e] at hm
    cases hm
  | false =>
    symm
    rw [Bool.not_eq_false', decide_eq_true_eq, ← z]
    obtain ⟨d, hd⟩ := List.isEmpty_eq_false_iff_exists_mem.mp e
    obtain ⟨w, hw, hf⟩ := List.mem_filterMap.mp hd
    obtain ⟨k, rfl, k0, k1⟩ := range_get hw
    simp -implicitDefEqProofs only [bothF] at hf
    rw [Int.fmod_eq_emod_of_nonneg _ (by omega), Int.fmod_eq_emod_of_nonneg _ (by omega)] at hf
    split at hf
    · split at hf
      · rename_i h1 h2
        exact ⟨k, k0, by omega, h1, h2⟩
      · cases hf
    · cases hf
theorem sp_meet {p o : P3} (hp : POk p) (ho : POk o) (hq : q (.bl (meetB p o)) n) : F__law_meet Γ [partD p, partD o] n q x := by
  have pe := hp.e1
  have oe := ho.e1
  have pe2 := hp.e2
  have oe2 := ho.e2
  have cm : CMulA p.2.1 o.2.1 := cmulw (N := 100) (M := 100) (by decide) (by decide) (by omega) (by omega) (Int.lt_of_le_of_lt pe2 (by decide)) (Int.lt_of_le_of_lt oe2 (by decide)) (by decide)
  have pos : 0 < p.2.1 * o.2.1 := Int.mul_pos (by omega) (by omega)
  wp_walk using F__law_meet, t__law_meet, partD, at0
  unfold meetB at hq
  by_cases c : p.1 = o.1
  · rw [decide_eq_true c, Bool.true_and] at hq
    wp_walk using c, decide_true, Bool.true_xor, Bool.not_true, t__law_meet_3, at1, at2
    refine ⟨cm, ?_⟩
    by_cases c2 : p.2.1 * o.2.1 ≤ 400
    · wp_walk using c2, decide_true, at1, at2
      refine ⟨cm, by omega, by rw [range_len]; omega, lc_pure (f := bothF p o) (fun d hd n k hk => ?_) ?_⟩
      · obtain ⟨j, rfl, _, _⟩ := range_get hd
        rw [s_lc1]
        simp -implicitDefEqProofs only [bothF] at hk
        wp_walk using wipeE, at1, at2
        refine ⟨by omega, ?_⟩
        by_cases c3 : j.fmod p.2.1 = p.2.2
        · rw [if_pos c3] at hk
          wp_walk using c3, decide_true, Bool.false_xor, at1, at2
          refine ⟨by omega, ?_⟩
          by_cases c4 : j.fmod o.2.1 = o.2.2
          · rw [if_pos c4] at hk
            wp_walk using c4, decide_true, Bool.false_xor
            exact hk
          · rw [if_neg c4] at hk
            wp_walk using c4, decide_false, Bool.false_xor
            exact hk
        · rw [if_neg c3] at hk
          wp_walk using c3, decide_false, Bool.false_xor
          exact hk
      · wp_walk using t__law_meet_5
        rw [both_empty hp ho]
        simpa using hq
    · wp_walk using c2, decide_false, t__law_meet_6, at1, at2
      refine sp_commonL (Γ := Γ) (by omega) (by omega) ?_
      have g0 := gcd_pos (a := p.2.1) oe
      wp_walk
      refine ⟨by omega, ?_⟩
      rw [dvd_fmod (by omega), Bool.false_xor]
      exact hq
  · rw [decide_eq_false c, Bool.false_and] at hq
    wp_walk using c, decide_false, Bool.true_xor, Bool.not_false
    exact hq
def lawMeets : List P3 → Bool
  | [] => false
  | p :: ps => ps.any (meetB p) || lawMeets ps
theorem lawMeets_iff : ∀ ps : List P3, lawMeets ps = false ↔ Apart ps
  | [] => by simp [lawMeets, Apart]
  | p :: ps => by
    have ih := lawMeets_iff ps
    unfold Apart at ih ⊢
    rw [lawMeets, Bool.or_eq_false_iff, ih, List.pairwise_cons, List.any_eq_false]
    constructor
    · rintro ⟨h1, h2⟩
      exact ⟨fun o ho => by simpa using h1 o ho, h2⟩
    · rintro ⟨h1, h2⟩
      exact ⟨fun o ho => by simp [h1 o ho], h2⟩
theorem lawMeets_eq (ps : List P3) : lawMeets ps = meetsL ps := by
  cases e : lawMeets ps with
  | false => exact ((meets_iff ps).mpr ((lawMeets_iff ps).mp e)).symm
  | true =>
    cases e2 : meetsL ps with
    | true => rfl
    | false => rw [(lawMeets_iff ps).mpr ((meets_iff ps).mp e2)] at e; cases e
def pickP (p : P3) : D → Option D
  | d => if meetB p (toP d) = true then some d else none
theorem pick_empty (p : P3) : ∀ ps : List P3, ((ps.map partD).filterMap (pickP p)).isEmpty = !ps.any (meetB p)
  | [] => rfl
  | o :: ps => by
    rw [List.map_cons, List.filterMap_cons, List.any_cons]
    simp -implicitDefEqProofs only [pickP, toP_part]
    by_cases c : meetB p o = true
    · rw [if_pos c, c]; rfl
    · have c' : meetB p o = false := by simpa using c
      rw [if_neg c, c', Bool.false_or]
      exact pick_empty p ps
theorem sp_are_partsL {h : Int} {gs : List Int} {d : D} (ok : PlanOk h gs) (hp : d.plain = true) (hq : q (.bl (arePartsD h gs d)) n) : F__law_are_parts Γ [planD h gs, d] n q x := by
  have l8 := ok.l8
  wp_walk using F__law_are_parts, t__law_are_parts, isi_tup
  refine ⟨noE hp, ?_⟩
  cases d with
  | tup l =>
    wp_walk using isTp, planD, at1, List.length_map
    rw [show arePartsD h gs (.tup l) = (decide (l.length = gs.length) && (partsW h l gs && !meetsL (l.map toP))) from rfl] at hq
    by_cases c : l.length = gs.length
    · have c' : ((l.length : Nat) : Int) = (gs.length : Nat) := by omega
      rw [decide_eq_true c, Bool.true_and] at hq
      wp_walk using c', decide_true, Bool.true_xor, Bool.not_true, t__law_are_parts_3, at1
      refine for_inv (I := fun ds ρ s => s = n ∧ ∃ (l' : List D) (gs' : List Int) (o2 o3 : Option D), ds = zipD l' (gs'.map D.int) ∧ l'.length = gs'.length ∧ (∀ d ∈ l', d.plain = true) ∧ partsW h l gs = partsW h l' gs' ∧ ρ = [some (.tup [.int h, .tup (gs.map D.int)]), some (.tup l), o2, o3, none, none]) ?_ ?_ _ _ _ ⟨rfl, l, gs, none, none, rfl, c, fun d hd => plain_mem (plain_tup hp) hd, rfl, rfl⟩
      · rintro d ds ρ s k ⟨rfl, l', gs', o2, o3, e, hl, hpl, hw, rfl⟩ k1 k2
        cases l' with
        | nil => cases e
        | cons a l' =>
          cases gs' with
          | nil => cases e
          | cons g gs' =>
            rw [List.map_cons, zipD] at e
            cases e
            have ha := hpl a List.mem_cons_self
            rw [partsW] at hw
            have no : isPartD h g a = false → k (.rt (.bl false)) s := fun z => by
              rw [z, Bool.false_and] at hw
              rw [hw, Bool.false_and] at hq
              exact k2 _ _ hq
            have yes : isPartD h g a = true → ∀ o2 o3 : Option D, k (.nx [some (.tup [.int h, .tup (gs.map D.int)]), some (.tup l), o2, o3, none, none]) s := fun z o2 o3 => by
              rw [z, Bool.true_and] at hw
              exact k1 _ _ ⟨rfl, l', gs', o2, o3, rfl, by simpa using hl, fun d hd => hpl d (List.mem_cons_of_mem _ hd), hw, rfl⟩
            wp_walk using t__law_are_parts_4, isi_tup
            refine ⟨noE ha, ?_⟩
            cases a with
            | tup m =>
              wp_walk using isTp
              by_cases c3 : m.length = 3
              · obtain ⟨u, v, w, rfl⟩ : ∃ u v w, m = [u, v, w] := by
                  match m, c3 with
                  | [u, v, w], _ => exact ⟨u, v, w, rfl⟩
                have pu : u.plain = true := plain_mem (plain_tup ha) (by simp)
                have pv : v.plain = true := plain_mem (plain_tup ha) (by simp)
                have pw : w.plain = true := plain_mem (plain_tup ha) (by simp)
                wp_walk using List.length_cons, List.length_nil, Nat.zero_add, Nat.reduceAdd, Int.cast_ofNat_Int, decide_true, Bool.true_xor, Bool.not_true, at0, at1
                refine sp_is_whole (Γ := Γ) (noE pu) ?_
                rw [show isPartD h g (.tup [u, v, w]) = (isW 0 (h - 1) u && (isW 1 g v && isRest v w)) from rfl] at no yes
                cases eu : isW 0 (h - 1) u with
                | false =>
                  wp_walk
                  exact no (by rw [eu]; rfl)
                | true =>
                  rw [eu, Bool.true_and] at no yes
                  wp_walk using t__law_are_parts_6, at1, at2
                  refine sp_is_whole (Γ := Γ) (noE pv) ?_
                  cases ev : isW 1 g v with
                  | false =>
                    wp_walk
                    exact no (by rw [ev]; rfl)
                  | true =>
                    rw [ev, Bool.true_and] at no yes
                    obtain ⟨z, rfl, z0, z1⟩ := isW_some ev
                    wp_walk using at1, at2
                    refine sp_is_whole (Γ := Γ) (noE pw) ?_
                    cases ew : isW 0 (z - 1) w with
                    | false =>
                      wp_walk
                      exact no ew
                    | true =>
                      wp_walk
                      exact yes ew _ _
              · have c4 : ¬ ((m.length : Nat) : Int) = 3 := by omega
                wp_walk using c4, decide_false, Bool.true_xor, Bool.not_false
                exact no (by
                  match m, c3 with
                  | [], _ => rfl
                  | [_], _ => rfl
                  | [_, _], _ => rfl
                  | _ :: _ :: _ :: _ :: _, _ => rfl)
            | _ =>
              wp_walk using isTp
              exact no rfl
      · rintro ρ s ⟨rfl, l', gs', o2, o3, e, hl, hpl, hw, rfl⟩
        have w : partsW h l gs = true := by
          rw [hw]
          cases l' with
          | nil => cases gs' <;> rfl
          | cons a l' =>
            cases gs' with
            | nil => rfl
            | cons g gs' => cases e
        rw [w, Bool.true_and] at hq
        obtain ⟨ps, rfl, t⟩ := partsW_ok c w
        rw [map_toP, ← lawMeets_eq] at hq
        have pl := t.len
        have pok : ∀ p ∈ ps, POk p := fun p hp => by
          obtain ⟨g, hg, _, _, a1, a2, a3, a4⟩ := t.mem hp
          have := ok.g g hg
          exact ⟨a1, by omega, a3, a4⟩
        wp_walk using t__law_are_parts_8, List.length_map
        refine ⟨by omega, ?_⟩
        refine forR (m := ps.length) (I := fun j ρ s' => s' = s ∧ lawMeets ps = lawMeets (ps.drop j) ∧ ∃ o4 : Option D, ρ = [some (.tup [.int h, .tup (gs.map D.int)]), some (.tup (ps.map partD)), o2, o3, o4, none]) ?_ ?_ _ _ ⟨rfl, rfl, _, rfl⟩
        · rintro j ρ s' k hj ⟨rfl, hm, o4, rfl⟩ k1 k2
          obtain ⟨p, ep⟩ := get_of_len hj
          rw [drop_cons ep, lawMeets] at hm
          wp_walk using t__law_are_parts_9
          have ec : cut (ps.map partD) (some (((j : Nat) : Int) + 1)) none = (ps.drop (j + 1)).map partD := by
            rw [cut_drop (by omega) (by rw [List.length_map]; omega), List.map_drop]
            congr 1
          rw [ec]
          refine ⟨by rw [List.length_map, List.length_drop]; omega, lc_pure (f := pickP p) (fun d hd n k hk => ?_) ?_⟩
          · obtain ⟨o, ho, rfl⟩ := List.mem_map.mp hd
            rw [s_lc1]
            simp -implicitDefEqProofs only [pickP, toP_part] at hk
            wp_walk using wipeE
            refine ⟨partD p, at_nat (by rw [List.getElem?_map, ep]; rfl), ?_⟩
            refine sp_meet (Γ := Γ) (pok p (List.mem_of_getElem? ep)) (pok o (List.mem_of_mem_drop ho)) ?_
            wp_walk
            by_cases c5 : meetB p o = true
            · rw [if_pos c5] at hk ⊢
              wp_walk
              exact hk
            · rw [if_neg c5] at hk ⊢
              exact hk
          · wp_walk
            rw [pick_empty]
            cases ea : (ps.drop (j + 1)).any (meetB p) with
            | true =>
              rw [ea, Bool.true_or] at hm
              rw [hm] at hq
              wp_walk using Bool.not_true, Bool.true_xor, Bool.not_false
              exact k2 _ _ hq
            | false =>
              rw [ea, Bool.false_or] at hm
              wp_walk using Bool.not_false, Bool.true_xor, Bool.not_true
              exact k1 _ _ ⟨rfl, hm, _, rfl⟩
        · rintro ρ s' ⟨rfl, hm, o4, rfl⟩
          rw [List.drop_length, lawMeets] at hm
          rw [hm] at hq
          wp_walk using t__law_are_parts_11
          exact hq
    · have c' : ¬ ((l.length : Nat) : Int) = (gs.length : Nat) := by omega
      rw [decide_eq_false c, Bool.false_and] at hq
      wp_walk using c', decide_false, Bool.true_xor, Bool.not_false
      exact hq
  | _ => simpa [isTp, OE.w_g0, OE.w_gs, OE.w_s0, OE.w_ss, OE.w_some, OE.w_ex, OE.w_lc, OE.w_ln, OE.w_at, OE.w_ta, OE.w_nt, OE.w_nf, OE.w_it, OE.w_if, OE.w_itP, OE.w_ifP, OE.w_ft, OE.w_mc, OE.w_mn, OE.w_rs, OE.w_r0, OE.w_ca, OE.w_na, OE.w_za, OE.w_sb, OE.w_sz, OE.s_then, OE.k_seqN, OE.k_seqR, OE.k_seqB, OE.k_seqC, OE.s_next, OE.s_ret, OE.k_ret, OE.s_set, OE.k_set, OE.s_ite, OE.k_ite, OE.o_rt, OE.o_nx, OE.s_run, OE.s_var, OE.s_const, OE.s_nil, OE.s_cons, OE.k_cons, OE.k_cons2, OE.s_tup, OE.s_lst, OE.k_tup, OE.k_lst, OE.s_bin, OE.k_bin, OE.k_bin2, OE.s_bind, OE.k_ap, OE.s_call, OE.k_apL, OE.s_fn, OE.k_fn, OE.s_test, OE.k_test, OE.s_and, OE.k_and, OE.s_or, OE.k_or, OE.s_not, OE.k_not, OE.s_andV, OE.k_andV, OE.s_orV, OE.k_orV, OE.s_notV, OE.k_notV, OE.s_if, OE.k_if, OE.s_isN, OE.k_isN, OE.s_noN, OE.k_noN, OE.s_chain, OE.k_ch1, OE.k_ch2, OE.k_ch3, OE.s_isi, OE.k_isi, OE.s_part, OE.k_part, OE.s_slice, OE.k_sl1, OE.k_sl2, OE.k_sl3, OE.s_retO, OE.s_slL, OE.s_slT, OE.s_slS, OE.s_seq, OE.k_itmL, OE.k_itmT, OE.k_itmS, OE.s_its, OE.k_its, OE.s_rng1, OE.s_rng2, OE.s_enT, OE.s_enL, OE.s_zipL, OE.s_zipT, OE.s_for, OE.k_for, OE.for_nil, OE.k_go, OE.k_tN, OE.k_tC, OE.k_tB, OE.k_tR, OE.g_name, OE.g_tup, OE.g_cons, OE.k_gs, OE.g_nil, OE.s_asg, OE.k_asg, OE.k_nx, OE.s_par, OE.k_par, OE.s_lc, OE.k_lc, OE.k_lc1, OE.k_lc2, OE.k_some, OE.s_fail, OE.k_fail, OE.s_fail0, OE.s_try, OE.k_unN, OE.k_unR, OE.s_fld, OE.k_fld, OE.f_addI, OE.f_addT, OE.f_addL, OE.f_addS, OE.f_ii, OE.f_i0, OE.f_mulI, OE.f_mulT, OE.f_mulL, OE.f_neg, OE.f_ixL, OE.f_ixT, OE.f_ixS, OE.f_lenL, OE.f_lenT, OE.f_lenS, OE.f_int, OE.f_min, OE.f_max, OE.f_tupL, OE.f_lstT, OE.f_lstL, OE.f_repr, OE.f_cmpS, OE.f_cmpI, OE.f_cmpT, OE.f_cmpL, OE.s_dict, OE.k_dic, OE.f_getM, OE.s_putM, OE.k_put1, OE.k_put2, OE.s_dm, OE.mGet_left, OE.mGet_seed, OE.mGet_cells, OE.mGet_spot, OE.mPut_left, OE.mPut_spot, OE.k_wh, OE.s_star, OE.k_starT, OE.k_starL, OE.k_star2, OE.s_drop, OE.k_drop, OE.s_par3, OE.k_par3, OE.f_lrg1, OE.f_trg1, OE.f_lrg2, OE.f_trg2, OE.f_ixM, OE.f_lenM, OE.f_inT, OE.f_inL, OE.f_inS, OE.s_tryN, OE.c_nil, OE.f_all, OE.f_any, OE.f_sum, OE.s_frz, OE.k_frzS, OE.k_fz, OE.f_frzLs, OE.f_frzT, OE.f_frzI, OE.f_frzN, OE.s_mlst, OE.k_ml, OE.s_meth, OE.k_me, OE.f_app, OE.f_extd, OE.f_sorted, OE.s_lc2, OE.k_lcc, OE.f_isB, OE.s_isi2, OE.k_isi2, OE.s_aug, OE.k_aug, OE.w_int, OE.f_revL, OE.f_revT, OE.s_isx, OE.k_isx, OE.s_seqG, OE.k_itmGL, OE.k_itmGT, OE.k_itmGM, OE.s_forG, OE.k_forG, OE.s_lcG, OE.k_lcG, OE.f_maddL, OE.s_mlc, OE.k_mlc, OE.k_newQ, OE.startE, Nat.reduceAdd, Nat.reduceLeDiff, Nat.reduceSub, arePartsD] using hq
/-! ### a comprehension that draws: each in its relation -/
inductive RelL (P : D → D → Prop) : List D → List D → Prop
  | nil : RelL P [] []
  | cons {d e : D} {ds es : List D} (h : P d e) (t : RelL P ds es) : RelL P (d :: ds) (e :: es)
theorem lc_rel {c : Ev → Wp Bool} {ta : Ev → Wp D} {ρ : Ev} {g : D → Ev → Wp Ev} {P : D → D → Prop} {m : Nat} {μ : Mu} : ∀ {ds : List D} {n : Nat} {ql : List D → S → Prop}, (∀ d ∈ ds, ∀ (r : Nat) (k : Option D → S → Prop), r ≤ n + ds.length * m → (∀ y s, P d y → r ≤ s → s ≤ r + m → k (some y) ⟨s, μ⟩) → lc1 g c ta ρ d ⟨r, μ⟩ k) →
    (∀ ys s, RelL P ds ys → n ≤ s → s ≤ n + ds.length * m → ql ys ⟨s, μ⟩) → lcW g c ta ρ ds ⟨n, μ⟩ ql (fun _ _ => False)
  | [], n, _, _, h => h [] n .nil (Nat.le_refl _) (by simp)
  | d :: ds, n, ql, hp, h => by
    have e : (d :: ds).length * m = ds.length * m + m := by rw [List.length_cons, Nat.add_mul, Nat.one_mul]
    refine lc_cons (hp d List.mem_cons_self n _ (by omega) fun y s hy h1 h2 => lc_rel (m := m) (fun e' he r k hr hk => hp e' (List.mem_cons_of_mem _ he) r k (by omega) hk) fun ys r hys h3 h4 => ?_)
    exact h (y :: ys) r (.cons hy hys) (by omega) (by omega)
theorem cp2 : CPowA 2 60 = True := eq_true (.inl ⟨by decide, by omega, by decide⟩)
theorem e2p : (2 : Int) ^ Int.toNat 60 = 1152921504606846976 := by decide
theorem sizes_ok {h : Int} : ∀ {ps : List P3} {ys : List D}, (∀ p ∈ ps, 0 ≤ p.1 ∧ p.1 < h ∧ 1 ≤ p.2.1 ∧ 0 ≤ p.2.2 ∧ p.2.2 < p.2.1) → RelL (fun d y => ∃ (p : P3) (z : Int), d = partD p ∧ y = .int z ∧ p.2.1 ≤ z ∧ z ≤ 1000000000000000000000) (ps.map partD) ys →
    ∃ gs : List Int, ys = gs.map D.int ∧ PartsOk h ps gs ∧ ∀ z ∈ gs, 1 ≤ z ∧ z ≤ 1000000000000000000000
  | [], _, _, .nil => ⟨[], rfl, .nil, fun _ h => nomatch h⟩
  | p :: ps, _, hp, .cons ⟨p', z, e1, e2, h1, h2⟩ t => by
    obtain ⟨gs, rfl, t', hz⟩ := sizes_ok (fun o ho => hp o (List.mem_cons_of_mem _ ho)) t
    have e3 : p = p' := by have := congrArg toP e1; rwa [toP_part, toP_part] at this
    subst e3 e2
    obtain ⟨a1, a2, a3, a4, a5⟩ := hp p List.mem_cons_self
    refine ⟨z :: gs, rfl, .cons a1 a2 a3 h1 a4 a5 t', fun w hw => ?_⟩
    rcases List.mem_cons.mp hw with rfl | hw
    · omega
    · exact hz w hw
section
variable {n : Nat} {μ : Mu}
theorem sp_made (hn : n + 200 < 2 ^ 40) (hq : ∀ (h : Int) (gs : List Int) (ps : List P3) (n' : Nat), PlanOk h gs → PartsOk h ps gs → Apart ps → (∀ z ∈ gs, 1 ≤ z ∧ z ≤ 1000000000000000000000) → n ≤ n' → n' ≤ n + 200 → q (.tup [planD h gs, partsD ps]) ⟨n', μ⟩) : F__law_made Γ [.m] ⟨n, μ⟩ q x := by
  wp_walk using F__law_made, t__law_made
  refine draw_spec (by omega) (lg9 ⟨by omega, by omega⟩) (by omega) fun j0 j01 j02 n0 h01 h02 => ?_
  obtain ⟨h, hh⟩ : ∃ h, h = 1 + j0 := ⟨_, rfl⟩
  wp_walk
  rw [← hh]
  intro a ha
  wp_walk using t__law_made_2
  refine draw_spec (by omega) (lg9 ⟨by omega, by omega⟩) (by omega) fun j1 j11 j12 n1 h11 h12 => ?_
  wp_walk
  refine ⟨cmul_l (by omega), by omega, ?_⟩
  have eN : (4 * (1 + j1)).toNat ≤ 24 := by omega
  have eN1 : 4 ≤ (4 * (1 + j1)).toNat := by omega
  refine forR (m := (4 * (1 + j1)).toNat) (I := fun j ρ s => ∃ (m : Nat) (ps : List P3), s = ⟨m, μ.put a (.lst (ps.map partD))⟩ ∧ n ≤ m ∧ m ≤ n + 2 + 7 * j ∧ ps.length ≤ 8 ∧ (1 ≤ j → ps ≠ []) ∧ (∀ p ∈ ps, 0 ≤ p.1 ∧ p.1 < h ∧ 1 ≤ p.2.1 ∧ p.2.1 ≤ 100000000000000000000 ∧ 0 ≤ p.2.2 ∧ p.2.2 < p.2.1) ∧ Apart ps ∧ ∃ o3 o4 o5 : Option D, ρ = [some .m, some (.int h), some (.mref a), o3, o4, o5, none, none]) ?_ ?_ _ _ ⟨n1, [], rfl, by omega, by omega, by simp, fun z => by omega, fun _ z => (nomatch z), .nil, _, _, _, rfl⟩
  · rintro j ρ s k hj ⟨m, ps, rfl, hm1, hm2, hl, hne, hps, hap, o3, o4, o5, rfl⟩ k1 k2
    wp_walk using t__law_made_3
    refine draw_spec (by omega) (lg9 ⟨by omega, by omega⟩) (by omega) fun j2 j21 j22 n2 h21 h22 => ?_
    wp_walk
    refine of_spec (by simp) (by simp) (by omega) fun d3 hd3 n3 h31 h32 => ?_
    wp_walk using cp2, e2p
    refine draw_spec (by omega) (lg9 ⟨by omega, by omega⟩) (by omega) fun j4 j41 j42 n4 h41 h42 => ?_
    wp_walk
    refine ⟨cmul_r (by omega), ?_⟩
    refine of_spec (by simp) (by simp) (by omega) fun d5 hd5 n5 h51 h52 => ?_
    obtain ⟨e, rfl, e1, e2⟩ : ∃ e : Int, d5 = .int e ∧ 1 ≤ e ∧ e ≤ 100000000000000000000 := by
      simp -implicitDefEqProofs only [List.mem_cons, List.not_mem_nil, or_false] at hd3 hd5
      rcases hd5 with rfl | rfl | rfl
      · exact ⟨_, rfl, by omega, by omega⟩
      · rcases hd3 with rfl | rfl | rfl | rfl | rfl <;> exact ⟨_, rfl, by omega, by omega⟩
      · exact ⟨_, rfl, by omega, by omega⟩
    wp_walk using t__law_made_4
    refine draw_spec (by omega) (lg9 ⟨by omega, by omega⟩) (by omega) fun u u0 u1 n6 h61 h62 => ?_
    wp_walk
    refine draw_spec (by omega) (lg9 ⟨by omega, by omega⟩) (by omega) fun j7 j71 j72 n7 h71 h72 => ?_
    wp_walk
    refine of_spec (by simp) (by simp) (by omega) fun d8 hd8 n8 h81 h82 => ?_
    obtain ⟨r, rfl, r0, r1⟩ : ∃ r : Int, d8 = .int r ∧ 0 ≤ r ∧ r < e := by
      simp -implicitDefEqProofs only [List.mem_cons, List.not_mem_nil, or_false] at hd8
      rcases hd8 with rfl | rfl <;> exact ⟨_, rfl, by omega, by omega⟩
    have own : D.tup [.int u, .int e, .int r] = partD (u, e, r) := rfl
    have pown : POk (u, e, r) := ⟨e1, by show e ≤ _; omega, r0, r1⟩
    have pok : ∀ p ∈ ps, POk p := fun p hp => by
      obtain ⟨_, _, a1, a2, a3, a4⟩ := hps p hp
      exact ⟨a1, by omega, a3, a4⟩
    wp_walk using t__law_made_5
    rw [own]
    refine ⟨_, Mu.put_same, ?_⟩
    rw [List.length_map]
    have stay : ps ≠ [] → k (.nx [some .m, some (.int h), some (.mref a), some (.int ((j : Nat) : Int)), some (.int e), some (partD (u, e, r)), none, none]) ⟨n8, μ.put a (.lst (ps.map partD))⟩ := fun z => k1 _ _ ⟨n8, ps, rfl, by omega, by omega, hl, fun _ => z, hps, hap, _, _, _, rfl⟩
    by_cases c : ((ps.length : Nat) : Int) < 8
    · wp_walk using c, decide_true
      refine ⟨_, Mu.put_same, by rw [List.length_map]; omega, lcG_pure (f := pickP (u, e, r)) Mu.put_same (fun d hd k hk => ?_) ?_⟩
      · obtain ⟨o, ho, rfl⟩ := List.mem_map.mp hd
        rw [s_lc1]
        simp -implicitDefEqProofs only [pickP, toP_part] at hk
        wp_walk using wipeE
        refine sp_meet (Γ := Γ) pown (pok o ho) ?_
        wp_walk
        by_cases c5 : meetB (u, e, r) o = true
        · rw [if_pos c5] at hk ⊢
          wp_walk
          exact hk
        · rw [if_neg c5] at hk ⊢
          exact hk
      · wp_walk
        rw [pick_empty]
        cases ea : ps.any (meetB (u, e, r)) with
        | true =>
          wp_walk using Bool.not_true, Bool.false_xor
          exact stay fun z => by rw [z] at ea; cases ea
        | false =>
          wp_walk using Bool.not_false, Bool.false_xor
          refine ⟨⟨_, Mu.put_same⟩, _, Mu.put_same, by rw [List.length_map]; omega, ?_⟩
          rw [Mu.put_put]
          rw [List.any_eq_false] at ea
          refine k1 _ _ ⟨n8, ps ++ [(u, e, r)], by rw [List.map_append]; rfl, by omega, by omega, by simp; omega, fun _ => by simp, fun p hp => ?_, ?_, _, _, _, rfl⟩
          · rcases List.mem_append.mp hp with hp | hp
            · exact hps p hp
            · rw [List.mem_singleton] at hp
              subst hp
              exact ⟨u0, u1, e1, e2, r0, r1⟩
          · refine List.pairwise_append.mpr ⟨hap, List.pairwise_singleton .., fun p hp o ho => ?_⟩
            rw [List.mem_singleton] at ho
            subst ho
            rw [meet_comm]
            simpa using ea p hp
    · wp_walk using c, decide_false
      exact stay fun z => by rw [z] at c; exact c (by decide)
  · rintro ρ s ⟨m, ps, rfl, hm1, hm2, hl, hne, hps, hap, o3, o4, o5, rfl⟩
    wp_walk using t__law_made_7
    refine f_frzL Mu.put_same ?_
    rw [Mu.del_put ha]
    wp_walk
    refine ⟨by rw [List.length_map]; omega, lc_rel (m := 2) (P := fun d y => ∃ (p : P3) (z : Int), d = partD p ∧ y = .int z ∧ p.2.1 ≤ z ∧ z ≤ 1000000000000000000000) (fun d hd r k hr hk => ?_) fun ys s hys h91 h92 => ?_⟩
    · obtain ⟨p, hp, rfl⟩ := List.mem_map.mp hd
      obtain ⟨_, _, a1, a2, a3, a4⟩ := hps p hp
      rw [List.length_map] at hr
      rw [s_lc1]
      wp_walk using wipeE, partD, at1, cp20, e20
      refine draw_spec (by omega) (lg9 ⟨by omega, by omega⟩) (by omega) fun j9 j91 j92 n9 h93 h94 => ?_
      wp_walk using cp20, e20
      refine of_spec (by simp) (by simp) (by omega) fun d8 hd8 n8 h81 h82 => ?_
      obtain ⟨w, rfl, w0, w1⟩ : ∃ w : Int, d8 = .int w ∧ 0 ≤ w ∧ w ≤ 100000000000000000000 := by
        simp -implicitDefEqProofs only [List.mem_cons, List.not_mem_nil, or_false] at hd8
        rcases hd8 with rfl | rfl | rfl | rfl | rfl <;> exact ⟨_, rfl, by omega, by omega⟩
      wp_walk
      exact hk _ _ ⟨p, _, rfl, rfl, by omega, by omega⟩ (by omega) (by omega)
    · rw [List.length_map] at h92
      obtain ⟨gs, rfl, t, hz⟩ := sizes_ok (h := h) (fun p hp => by obtain ⟨a1, a2, a3, _, a4, a5⟩ := hps p hp; exact ⟨a1, a2, a3, a4, a5⟩) hys
      have gl := t.len
      have p1 : 1 ≤ ps.length := List.length_pos_iff.mpr (hne (by omega))
      wp_walk using t__law_made_8
      exact hq h gs ps s ⟨by omega, by omega, by omega, by omega, fun z hz' => by have := hz z hz'; omega⟩ t hap hz (by omega) (by omega)
end
end PL

namespace K13
open OE
open PySem (Str)
def mt_TurnError (x : Str) : Bool := decide (x = "BadPlan") || decide (x = "BadNumber") || decide (x = "BadParts")
def mt_BadPlan (x : Str) : Bool := decide (x = "BadPlan")
def mt_BadNumber (x : Str) : Bool := decide (x = "BadNumber")
def mt_BadParts (x : Str) : Bool := decide (x = "BadParts")
def t_is_whole (Γ : Gam) : Ev → Wp Out :=
  tret (tandV (tisi "int" (tvar 0)) (tandV (tnotV (tisi "bool" (tvar 0))) (tchain fLe fLe (tvar 1) (tvar 0) (tvar 2))))
def F_is_whole (Γ : Gam) : List D → Wp D := runDef 3 (t_is_whole Γ)
def t_need_plan_10 (Γ : Gam) : Ev → Wp Out :=
  tret (tvar 0)
def t_need_plan_8 (Γ : Gam) : Ev → Wp Out :=
  tite (tnot (ttest (tfn 3 (F_is_whole Γ) (tcons (tvar 2) (tcons (tconst (.int 1)) (tcons (tconst (.int 1000000000000000000000000000000)) (tnil))))))) (tfail1 "BadPlan" (tcons (ttup (tcons (tconst (.int 1)) (tcons (tvar 1) (tnil)))) (tnil))) (tnext)
def t_need_plan_7 (Γ : Gam) : Ev → Wp Out :=
  tthen (tfor (tits fEnum (tcons (tbin fIx (tvar 0) (tconst (.int 1))) (tnil))) (gtup 2 (gcons (gname 1) (gcons (gname 2) (gnil)))) (t_need_plan_8 Γ))
  (t_need_plan_10 Γ)
def t_need_plan_5 (Γ : Gam) : Ev → Wp Out :=
  tthen (tite (tor (tnot (ttest (tisi "tuple" (tbin fIx (tvar 0) (tconst (.int 1)))))) (tnot (ttest (tchain fLe fLe (tconst (.int 1)) (tcall fLen (tcons (tbin fIx (tvar 0) (tconst (.int 1))) (tnil))) (tconst (.int 8)))))) (tfail1 "BadPlan" (tcons (ttup (tcons (tconst (.int 1)) (tnil))) (tnil))) (tnext))
  (t_need_plan_7 Γ)
def t_need_plan_3 (Γ : Gam) : Ev → Wp Out :=
  tthen (tite (tnot (ttest (tfn 3 (F_is_whole Γ) (tcons (tbin fIx (tvar 0) (tconst (.int 0))) (tcons (tconst (.int 1)) (tcons (tconst (.int 3)) (tnil))))))) (tfail1 "BadPlan" (tcons (ttup (tcons (tconst (.int 0)) (tnil))) (tnil))) (tnext))
  (t_need_plan_5 Γ)
def t_need_plan (Γ : Gam) : Ev → Wp Out :=
  tthen (tite (tor (tnot (ttest (tisi "tuple" (tvar 0)))) (ttest (tbin fNe (tcall fLen (tcons (tvar 0) (tnil))) (tconst (.int 2))))) (tfail1 "BadPlan" (tcons (ttup (tnil)) (tnil))) (tnext))
  (t_need_plan_3 Γ)
def F_need_plan (Γ : Gam) : List D → Wp D := runDef 3 (t_need_plan Γ)
def t_common_3 (Γ : Gam) : Ev → Wp Out :=
  tret (tvar 0)
def t_common_2 (Γ : Gam) : Ev → Wp Out :=
  tpar 0 1 (tcons (tvar 1) (tcons (tbin fMod (tvar 0) (tvar 1)) (tnil)))
def t_common (Γ : Gam) : Ev → Wp Out :=
  tthen (twhile (ttest (tbin fGt (tvar 1) (tconst (.int 0)))) (t_common_2 Γ))
  (t_common_3 Γ)
def F_common (Γ : Gam) : List D → Wp D := runDef 2 (t_common Γ)
def t_need_thing (Γ : Gam) : Ev → Wp Out :=
  tite (tnot (ttest (tfn 3 (F_is_whole Γ) (tcons (tvar 1) (tcons (tconst (.int 0)) (tcons (tbin fSub (tcall fLen (tcons (tbin fIx (tvar 0) (tconst (.int 1))) (tnil))) (tconst (.int 1))) (tnil))))))) (tfail1 "BadNumber" (tcons (tvar 1) (tnil))) (tnext)
def F_need_thing (Γ : Gam) : List D → Wp D := runDef 2 (t_need_thing Γ)
def t_is_part_3 (Γ : Gam) : Ev → Wp Out :=
  tret (tandV (tfn 3 (F_is_whole Γ) (tcons (tbin fIx (tvar 2) (tconst (.int 1))) (tcons (tconst (.int 1)) (tcons (tbin fIx (tbin fIx (tvar 0) (tconst (.int 1))) (tvar 1)) (tnil))))) (tfn 3 (F_is_whole Γ) (tcons (tbin fIx (tvar 2) (tconst (.int 2))) (tcons (tconst (.int 0)) (tcons (tbin fSub (tbin fIx (tvar 2) (tconst (.int 1))) (tconst (.int 1))) (tnil))))))
def t_is_part (Γ : Gam) : Ev → Wp Out :=
  tthen (tite (tor (tnot (ttest (tisi "tuple" (tvar 2)))) (tor (ttest (tbin fNe (tcall fLen (tcons (tvar 2) (tnil))) (tconst (.int 3)))) (tnot (ttest (tfn 3 (F_is_whole Γ) (tcons (tbin fIx (tvar 2) (tconst (.int 0))) (tcons (tconst (.int 0)) (tcons (tbin fSub (tbin fIx (tvar 0) (tconst (.int 0))) (tconst (.int 1))) (tnil))))))))) (tret (tconst (.bl false))) (tnext))
  (t_is_part_3 Γ)
def F_is_part (Γ : Gam) : List D → Wp D := runDef 3 (t_is_part Γ)
def t_do_meet (Γ : Gam) : Ev → Wp Out :=
  tret (tandV (tbin fEq (tbin fIx (tvar 0) (tconst (.int 0))) (tbin fIx (tvar 1) (tconst (.int 0)))) (tbin fEq (tbin fMod (tbin fSub (tbin fIx (tvar 0) (tconst (.int 2))) (tbin fIx (tvar 1) (tconst (.int 2)))) (tfn 2 (F_common Γ) (tcons (tbin fIx (tvar 0) (tconst (.int 1))) (tcons (tbin fIx (tvar 1) (tconst (.int 1))) (tnil))))) (tconst (.int 0))))
def F_do_meet (Γ : Gam) : List D → Wp D := runDef 2 (t_do_meet Γ)
def t_are_parts_of_5 (Γ : Gam) : Ev → Wp Out :=
  tret (tnotV (tcall fAny (tcons (tlc2 (tits fEnum (tcons (tvar 1) (tnil))) (gtup 2 (gcons (gname 2) (gcons (gname 4) (gnil)))) (fun _ => Wp.ret true) (tseq (tslice (tvar 1) (fun _ => Wp.ret none) (tpart (tvar 2)))) (gname 5) (fun _ => Wp.ret true) (tfn 2 (F_do_meet Γ) (tcons (tvar 4) (tcons (tvar 5) (tnil)))) [2, 4, 5] [5]) (tnil))))
def t_are_parts_of_3 (Γ : Gam) : Ev → Wp Out :=
  tthen (tite (tnot (ttest (tcall fAll (tcons (tlc (tits fEnum (tcons (tvar 1) (tnil))) (gtup 2 (gcons (gname 2) (gcons (gname 3) (gnil)))) (fun _ => Wp.ret true) (tfn 3 (F_is_part Γ) (tcons (tvar 0) (tcons (tvar 2) (tcons (tvar 3) (tnil))))) [2, 3]) (tnil))))) (tret (tconst (.bl false))) (tnext))
  (t_are_parts_of_5 Γ)
def t_are_parts_of (Γ : Gam) : Ev → Wp Out :=
  tthen (tite (tor (tnot (ttest (tisi "tuple" (tvar 1)))) (ttest (tbin fNe (tcall fLen (tcons (tvar 1) (tnil))) (tcall fLen (tcons (tbin fIx (tvar 0) (tconst (.int 1))) (tnil)))))) (tret (tconst (.bl false))) (tnext))
  (t_are_parts_of_3 Γ)
def F_are_parts_of (Γ : Gam) : List D → Wp D := runDef 6 (t_are_parts_of Γ)
def t_need_parts_4 (Γ : Gam) : Ev → Wp Out :=
  tret (tvar 1)
def t_need_parts_2 (Γ : Gam) : Ev → Wp Out :=
  tthen (tite (tnot (ttest (tfn 2 (F_are_parts_of Γ) (tcons (tvar 0) (tcons (tvar 1) (tnil)))))) (tfail1 "BadParts" (tcons (tvar 1) (tnil))) (tnext))
  (t_need_parts_4 Γ)
def t_need_parts (Γ : Gam) : Ev → Wp Out :=
  tthen (tdrop (tfn 1 (F_need_plan Γ) (tcons (tvar 0) (tnil))))
  (t_need_parts_2 Γ)
def F_need_parts (Γ : Gam) : List D → Wp D := runDef 2 (t_need_parts Γ)
def t_need_day (Γ : Gam) : Ev → Wp Out :=
  tite (tnot (ttest (tfn 3 (F_is_whole Γ) (tcons (tvar 0) (tcons (tconst (.int 0)) (tcons (tvar 1) (tnil))))))) (tfail1 "BadNumber" (tcons (tvar 0) (tnil))) (tnext)
def F_need_day (Γ : Gam) : List D → Wp D := runDef 2 (t_need_day Γ)
def t_day_in (Γ : Gam) : Ev → Wp Out :=
  tret (tcall fTuple (tcons (tlc (tits fEnum (tcons (tvar 0) (tnil))) (gtup 2 (gcons (gname 2) (gcons (gname 3) (gnil)))) (ttest (tbin fEq (tbin fMod (tvar 1) (tbin fIx (tvar 3) (tconst (.int 1)))) (tbin fIx (tvar 3) (tconst (.int 2))))) (tvar 2) [2, 3]) (tnil)))
def F_day_in (Γ : Gam) : List D → Wp D := runDef 4 (t_day_in Γ)
def t_day_by_3 (Γ : Gam) : Ev → Wp Out :=
  tret (tfn 2 (F_day_in Γ) (tcons (tvar 1) (tcons (tvar 2) (tnil))))
def t_day_by_2 (Γ : Gam) : Ev → Wp Out :=
  tthen (tdrop (tfn 2 (F_need_day Γ) (tcons (tvar 2) (tcons (tconst (.int 1000000000000000000000000000000)) (tnil)))))
  (t_day_by_3 Γ)
def t_day_by (Γ : Gam) : Ev → Wp Out :=
  tthen (tdrop (tfn 2 (F_need_parts Γ) (tcons (tvar 0) (tcons (tvar 1) (tnil)))))
  (t_day_by_2 Γ)
def F_day_by (Γ : Gam) : List D → Wp D := runDef 3 (t_day_by Γ)
def t_next_by_5 (Γ : Gam) : Ev → Wp Out :=
  tret (tbin fAdd (tvar 3) (tbin fMod (tbin fSub (tvar 6) (tvar 3)) (tvar 5)))
def t_next_by_4 (Γ : Gam) : Ev → Wp Out :=
  tthen (tasg (tbin fIx (tvar 1) (tvar 2)) (gtup 3 (gcons (gname 4) (gcons (gname 5) (gcons (gname 6) (gnil))))))
  (t_next_by_5 Γ)
def t_next_by_3 (Γ : Gam) : Ev → Wp Out :=
  tthen (tdrop (tfn 2 (F_need_day Γ) (tcons (tvar 3) (tcons (tconst (.int 1000000000000000000000000000000)) (tnil)))))
  (t_next_by_4 Γ)
def t_next_by_2 (Γ : Gam) : Ev → Wp Out :=
  tthen (tdrop (tfn 2 (F_need_thing Γ) (tcons (tvar 0) (tcons (tvar 2) (tnil)))))
  (t_next_by_3 Γ)
def t_next_by (Γ : Gam) : Ev → Wp Out :=
  tthen (tdrop (tfn 2 (F_need_parts Γ) (tcons (tvar 0) (tcons (tvar 1) (tnil)))))
  (t_next_by_2 Γ)
def F_next_by (Γ : Gam) : List D → Wp D := runDef 7 (t_next_by Γ)
def t_row_by_3 (Γ : Gam) : Ev → Wp Out :=
  tret (tcall fTuple (tcons (tlc (tits fRange1 (tcons (tvar 2) (tnil))) (gname 3) (fun _ => Wp.ret true) (tfn 2 (F_day_in Γ) (tcons (tvar 1) (tcons (tvar 3) (tnil)))) [3]) (tnil)))
def t_row_by_2 (Γ : Gam) : Ev → Wp Out :=
  tthen (tdrop (tfn 2 (F_need_day Γ) (tcons (tvar 2) (tcons (tconst (.int 1000)) (tnil)))))
  (t_row_by_3 Γ)
def t_row_by (Γ : Gam) : Ev → Wp Out :=
  tthen (tdrop (tfn 2 (F_need_parts Γ) (tcons (tvar 0) (tcons (tvar 1) (tnil)))))
  (t_row_by_2 Γ)
def F_row_by (Γ : Gam) : List D → Wp D := runDef 4 (t_row_by Γ)
def t__law_begun_6 (Γ : Gam) : Ev → Wp Out :=
  tret (tdictM (tcons (tif (ttest (tbin fNe (tvar 3) (tlst (tnil)))) (tbin fIx (tvar 3) (tconst (.int 0))) (tconst (.int 0))) (tcons (tvar 4) (tcons (tbin fAdd (tvar 2) (tlst (tcons (tbin fAdd (tbin fMul (tconst (.int 37)) (tvar 1)) (tconst (.int 11))) (tnil)))) (tcons (tconst (.int 0)) (tnil))))))
def t__law_begun_5 (Γ : Gam) : Ev → Wp Out :=
  tset 4 (tbin fMod (tcall fInt (tcons (tbin fAdd (tbin fMul (tvar 4) (tconst (.int 48271))) (tvar 5)) (tnil))) (tconst (.int 2147483647)))
def t__law_begun_4 (Γ : Gam) : Ev → Wp Out :=
  tthen (tfor (tseq (tvar 2)) (gname 5) (t__law_begun_5 Γ))
  (t__law_begun_6 Γ)
def t__law_begun_3 (Γ : Gam) : Ev → Wp Out :=
  tthen (tset 4 (tbin fAdd (tconst (.int 83)) (tvar 1)))
  (t__law_begun_4 Γ)
def t__law_begun_2 (Γ : Gam) : Ev → Wp Out :=
  tthen (tset 3 (tlc (tseq (tvar 2)) (gname 5) (ttest (tbin fGe (tvar 5) (tbin fPow (tconst (.int 10)) (tconst (.int 18))))) (tvar 5) [5]))
  (t__law_begun_3 Γ)
def t__law_begun (Γ : Gam) : Ev → Wp Out :=
  tthen (tset 2 (tbin fAdd (tslice (tvar 0) (tpart (tvar 1)) (fun _ => Wp.ret none)) (tslice (tvar 0) (fun _ => Wp.ret none) (tpart (tvar 1)))))
  (t__law_begun_2 Γ)
def F__law_begun (Γ : Gam) : List D → Wp D := runDef 6 (t__law_begun Γ)
def t__law_draw_11 (Γ : Gam) : Ev → Wp Out :=
  tret (tbin fMod (tbin fDiv (tbin fMod (tcall fInt (tcons (tbin fAdd (tbin fMul (tvar 7) (tconst (.int 48271))) (tvar 3)) (tnil))) (tconst (.int 2147483647))) (tconst (.int 11))) (tvar 1))
def t__law_draw_10 (Γ : Gam) : Ev → Wp Out :=
  tthen (tset 7 (tbin fMod (tcall fInt (tcons (tbin fAdd (tbin fAdd (tbin fMul (tvar 7) (tvar 7)) (tbin fMul (tconst (.int 69621)) (tvar 3))) (tbind (fGetS "seed") (tvar 0))) (tnil))) (tconst (.int 2147483629))))
  (t__law_draw_11 Γ)
def t__law_draw_9 (Γ : Gam) : Ev → Wp Out :=
  tthen (tset 7 (tbin fMod (tcall fInt (tcons (tbin fAdd (tbin fMul (tvar 6) (tbin fAdd (tbin fMul (tconst (.int 2)) (tvar 3)) (tconst (.int 3)))) (tvar 5)) (tnil))) (tconst (.int 2147483647))))
  (t__law_draw_10 Γ)
def t__law_draw_8 (Γ : Gam) : Ev → Wp Out :=
  tthen (tset 6 (tbin fIx (tvar 4) (tbin fMod (tcall fInt (tcons (tvar 3) (tnil))) (tcall fLen (tcons (tvar 4) (tnil))))))
  (t__law_draw_9 Γ)
def t__law_draw_7 (Γ : Gam) : Ev → Wp Out :=
  tthen (tpar 4 5 (tcons (tbind (fGetS "cells") (tvar 0)) (tcons (tbin fAdd (tbind (fGetS "seed") (tvar 0)) (tbin fMul (tbin fMul (tconst (.int 40503)) (tvar 3)) (tvar 3))) (tnil))))
  (t__law_draw_8 Γ)
def t__law_draw_6 (Γ : Gam) : Ev → Wp Out :=
  tthen (tputM "spot" (tvar 0) (tbin fAdd (tvar 3) (tconst (.int 1))))
  (t__law_draw_7 Γ)
def t__law_draw_5 (Γ : Gam) : Ev → Wp Out :=
  tthen (tset 3 (tbind (fGetS "spot") (tvar 0)))
  (t__law_draw_6 Γ)
def t__law_draw_4 (Γ : Gam) : Ev → Wp Out :=
  tret (tvar 2)
def t__law_draw_3 (Γ : Gam) : Ev → Wp Out :=
  tthen (tputM "left" (tvar 0) (tbin fDiv (tbind (fGetS "left") (tvar 0)) (tvar 1)))
  (t__law_draw_4 Γ)
def t__law_draw (Γ : Gam) : Ev → Wp Out :=
  tthen (tite (ttest (tbin fGt (tbind (fGetS "left") (tvar 0)) (tconst (.int 0)))) (tthen (tset 2 (tbin fMod (tcall fInt (tcons (tbind (fGetS "left") (tvar 0)) (tnil))) (tvar 1)))
  (t__law_draw_3 Γ)) (tnext))
  (t__law_draw_5 Γ)
def F__law_draw (Γ : Gam) : List D → Wp D := runDef 8 (t__law_draw Γ)
def t__law_of (Γ : Gam) : Ev → Wp Out :=
  tret (tbin fIx (tvar 1) (tfn 2 (F__law_draw Γ) (tcons (tvar 0) (tcons (tcall fLen (tcons (tvar 1) (tnil))) (tnil)))))
def F__law_of (Γ : Gam) : List D → Wp D := runDef 2 (t__law_of Γ)
def t__law_go_3 (Γ : Gam) : Ev → Wp Out :=
  tret (tif (ttest (tbin fNe (tvar 4) (tlst (tnil)))) (tconst .non) (tvar 3))
def t__law_go_2 (Γ : Gam) : Ev → Wp Out :=
  tthen (tset 4 (tlc (tits fZip (tcons (tvar 3) (tcons (tbin fIx (tvar 0) (tconst (.int 1))) (tnil)))) (gtup 2 (gcons (gname 6) (gcons (gname 7) (gnil)))) (ttest (tbin fGe (tvar 6) (tvar 7))) (tconst (.int 1)) [6, 7]))
  (t__law_go_3 Γ)
def t__law_go (Γ : Gam) : Ev → Wp Out :=
  tthen (tset 3 (tcall fTuple (tcons (tlc (tits fEnum (tcons (tvar 1) (tnil))) (gtup 2 (gcons (gname 5) (gcons (gname 6) (gnil)))) (fun _ => Wp.ret true) (tif (ttest (tbin (fIn false) (tvar 5) (tvar 2))) (tconst (.int 0)) (tbin fAdd (tvar 6) (tconst (.int 1)))) [5, 6]) (tnil))))
  (t__law_go_2 Γ)
def F__law_go (Γ : Gam) : List D → Wp D := runDef 8 (t__law_go Γ)
def t__law_start (Γ : Gam) : Ev → Wp Out :=
  tret (tbin fMul (ttup (tcons (tconst (.int 0)) (tnil))) (tcall fLen (tcons (tbin fIx (tvar 0) (tconst (.int 1))) (tnil))))
def F__law_start (Γ : Gam) : List D → Wp D := runDef 1 (t__law_start Γ)
def t__law_said_11 (Γ : Gam) (Θ : Th) : Ev → Wp Out :=
  tret (tif (ttest (tbin fEq (tcall fLen (tcons (tvar 4) (tnil))) (tconst (.int 1)))) (tbin fIx (tvar 4) (tconst (.int 0))) (ttup (tcons (tconst (.str "other")) (tnil))))
def t__law_said_10 (Γ : Gam) (Θ : Th) : Ev → Wp Out :=
  tthen (tset 4 (tif (ttest (tisx Γ mt_BadParts (tvar 2))) (tbin fAdd (tvar 4) (tlst (tcons (ttup (tcons (tconst (.str "parts")) (tcons (tfld Γ "value" (tvar 2)) (tnil)))) (tnil)))) (tvar 4)))
  (t__law_said_11 Γ Θ)
def t__law_said_9 (Γ : Gam) (Θ : Th) : Ev → Wp Out :=
  tthen (tset 4 (tif (ttest (tisx Γ mt_BadNumber (tvar 2))) (tbin fAdd (tvar 4) (tlst (tcons (ttup (tcons (tconst (.str "number")) (tcons (tfld Γ "value" (tvar 2)) (tnil)))) (tnil)))) (tvar 4)))
  (t__law_said_10 Γ Θ)
def t__law_said_8 (Γ : Gam) (Θ : Th) : Ev → Wp Out :=
  tthen (tset 4 (tif (ttest (tisx Γ mt_BadPlan (tvar 2))) (tlst (tcons (ttup (tcons (tconst (.str "plan")) (tcons (tfld Γ "place" (tvar 2)) (tnil)))) (tnil))) (tlst (tnil))))
  (t__law_said_9 Γ Θ)
def t__law_said_6 (Γ : Gam) (Θ : Th) : Ev → Wp Out :=
  tthen (tite (ttest (tisN (tvar 2))) (tret (tlst (tcons (tvar 1) (tnil)))) (tnext))
  (t__law_said_8 Γ Θ)
def t__law_said_2 (Γ : Gam) (Θ : Th) : Ev → Wp Out :=
  tthen (ttry Γ mt_TurnError 3 (tset 1 (tact Θ 0)) (tset 2 (tvar 3)))
  (t__law_said_6 Γ Θ)
def t__law_said (Γ : Gam) (Θ : Th) : Ev → Wp Out :=
  tthen (tasg (ttup (tcons (tconst .non) (tcons (tconst .non) (tnil)))) (gtup 2 (gcons (gname 1) (gcons (gname 2) (gnil)))))
  (t__law_said_2 Γ Θ)
def F__law_said (Γ : Gam) : Th → List D → Wp D := fun Θ => runDef 5 (t__law_said Γ Θ)
def t__law_common_3 (Γ : Gam) : Ev → Wp Out :=
  tret (tvar 0)
def t__law_common_2 (Γ : Gam) : Ev → Wp Out :=
  tpar 0 1 (tcons (tvar 1) (tcons (tbin fMod (tcall fInt (tcons (tvar 0) (tnil))) (tcall fInt (tcons (tvar 1) (tnil)))) (tnil)))
def t__law_common (Γ : Gam) : Ev → Wp Out :=
  tthen (twhile (ttest (tbin fGt (tvar 1) (tconst (.int 0)))) (t__law_common_2 Γ))
  (t__law_common_3 Γ)
def F__law_common (Γ : Gam) : List D → Wp D := runDef 2 (t__law_common Γ)
def t__law_meet_6 (Γ : Gam) : Ev → Wp Out :=
  tret (tbin fEq (tbin fMod (tcall fInt (tcons (tbin fSub (tbin fIx (tvar 0) (tconst (.int 2))) (tbin fIx (tvar 1) (tconst (.int 2)))) (tnil))) (tfn 2 (F__law_common Γ) (tcons (tbin fIx (tvar 0) (tconst (.int 1))) (tcons (tbin fIx (tvar 1) (tconst (.int 1))) (tnil))))) (tconst (.int 0)))
def t__law_meet_5 (Γ : Gam) : Ev → Wp Out :=
  tret (tbin fNe (tvar 2) (tlst (tnil)))
def t__law_meet_3 (Γ : Gam) : Ev → Wp Out :=
  tthen (tite (ttest (tbin fLe (tbin fMul (tbin fIx (tvar 0) (tconst (.int 1))) (tbin fIx (tvar 1) (tconst (.int 1)))) (tconst (.int 400)))) (tthen (tset 2 (tlc (tits fRange1 (tcons (tbin fMul (tbin fIx (tvar 0) (tconst (.int 1))) (tbin fIx (tvar 1) (tconst (.int 1)))) (tnil))) (gname 3) (tand (ttest (tbin fEq (tbin fMod (tcall fInt (tcons (tvar 3) (tnil))) (tbin fIx (tvar 0) (tconst (.int 1)))) (tbin fIx (tvar 0) (tconst (.int 2))))) (ttest (tbin fEq (tbin fMod (tcall fInt (tcons (tvar 3) (tnil))) (tbin fIx (tvar 1) (tconst (.int 1)))) (tbin fIx (tvar 1) (tconst (.int 2)))))) (tvar 3) [3]))
  (t__law_meet_5 Γ)) (tnext))
  (t__law_meet_6 Γ)
def t__law_meet (Γ : Gam) : Ev → Wp Out :=
  tthen (tite (ttest (tbin fNe (tbin fIx (tvar 0) (tconst (.int 0))) (tbin fIx (tvar 1) (tconst (.int 0))))) (tret (tconst (.bl false))) (tnext))
  (t__law_meet_3 Γ)
def F__law_meet (Γ : Gam) : List D → Wp D := runDef 4 (t__law_meet Γ)
def t__law_made_8 (Γ : Gam) : Ev → Wp Out :=
  tfrz 2 (tret (ttup (tcons (ttup (tcons (tvar 1) (tcons (tcall fTuple (tcons (tvar 6) (tnil))) (tnil)))) (tcons (tcall fTuple (tcons (tvar 2) (tnil))) (tnil)))))
def t__law_made_7 (Γ : Gam) : Ev → Wp Out :=
  tfrz 2 (tthen (tset 6 (tlc (tseq (tvar 2)) (gname 5) (fun _ => Wp.ret true) (tbin fAdd (tbin fIx (tvar 5) (tconst (.int 1))) (tfn 2 (F__law_of Γ) (tcons (tvar 0) (tcons (tlst (tcons (tconst (.int 0)) (tcons (tconst (.int 0)) (tcons (tconst (.int 1)) (tcons (tfn 2 (F__law_draw Γ) (tcons (tvar 0) (tcons (tconst (.int 9)) (tnil)))) (tcons (tbin fPow (tconst (.int 10)) (tconst (.int 20))) (tnil))))))) (tnil))))) [5]))
  (t__law_made_8 Γ))
def t__law_made_5 (Γ : Gam) : Ev → Wp Out :=
  tite (tand (ttest (tbin fLt (tcall fLen (tcons (tvar 2) (tnil))) (tconst (.int 8)))) (ttest (tbin fEq (tlcG (tseqG (tvar 2)) (gname 7) (ttest (tfn 2 (F__law_meet Γ) (tcons (tvar 5) (tcons (tvar 7) (tnil))))) (tvar 7) [7]) (tlst (tnil))))) (tdrop (tmeth fAppend (tvar 2) (tvar 5))) (tnext)
def t__law_made_4 (Γ : Gam) : Ev → Wp Out :=
  tthen (tset 5 (ttup (tcons (tfn 2 (F__law_draw Γ) (tcons (tvar 0) (tcons (tvar 1) (tnil)))) (tcons (tvar 4) (tcons (tfn 2 (F__law_of Γ) (tcons (tvar 0) (tcons (tlst (tcons (tfn 2 (F__law_draw Γ) (tcons (tvar 0) (tcons (tvar 4) (tnil)))) (tcons (tbin fSub (tvar 4) (tconst (.int 1))) (tnil)))) (tnil)))) (tnil))))))
  (t__law_made_5 Γ)
def t__law_made_3 (Γ : Gam) : Ev → Wp Out :=
  tthen (tset 4 (tfn 2 (F__law_of Γ) (tcons (tvar 0) (tcons (tlst (tcons (tbin fAdd (tconst (.int 1)) (tfn 2 (F__law_draw Γ) (tcons (tvar 0) (tcons (tconst (.int 12)) (tnil))))) (tcons (tfn 2 (F__law_of Γ) (tcons (tvar 0) (tcons (tlst (tcons (tconst (.int 2)) (tcons (tconst (.int 4)) (tcons (tconst (.int 8)) (tcons (tconst (.int 16)) (tcons (tconst (.int 32)) (tnil))))))) (tnil)))) (tcons (tbin fMul (tbin fPow (tconst (.int 2)) (tconst (.int 60))) (tbin fAdd (tconst (.int 1)) (tfn 2 (F__law_draw Γ) (tcons (tvar 0) (tcons (tconst (.int 9)) (tnil)))))) (tnil))))) (tnil)))))
  (t__law_made_4 Γ)
def t__law_made_2 (Γ : Gam) : Ev → Wp Out :=
  tthen (tfor (tits fRange1 (tcons (tbin fMul (tconst (.int 4)) (tbin fAdd (tconst (.int 1)) (tfn 2 (F__law_draw Γ) (tcons (tvar 0) (tcons (tconst (.int 6)) (tnil)))))) (tnil))) (gname 3) (t__law_made_3 Γ))
  (t__law_made_7 Γ)
def t__law_made (Γ : Gam) : Ev → Wp Out :=
  tthen (tpar 1 2 (tcons (tbin fAdd (tconst (.int 1)) (tfn 2 (F__law_draw Γ) (tcons (tvar 0) (tcons (tconst (.int 3)) (tnil))))) (tcons (tmlst (tnil)) (tnil))))
  (t__law_made_2 Γ)
def F__law_made (Γ : Gam) : List D → Wp D := runDef 8 (t__law_made Γ)
def t__law_day (Γ : Gam) : Ev → Wp Out :=
  tret (tcall fTuple (tcons (tlc (tits fRange1 (tcons (tcall fLen (tcons (tvar 0) (tnil))) (tnil))) (gname 2) (ttest (tbin fEq (tbin fMod (tcall fInt (tcons (tvar 1) (tnil))) (tbin fIx (tbin fIx (tvar 0) (tvar 2)) (tconst (.int 1)))) (tbin fIx (tbin fIx (tvar 0) (tvar 2)) (tconst (.int 2))))) (tvar 2) [2]) (tnil)))
def F__law_day (Γ : Gam) : List D → Wp D := runDef 3 (t__law_day Γ)
def t__law_days_right_11 (Γ : Gam) : Ev → Wp Out :=
  tret (tconst (.bl true))
def t__law_days_right_9 (Γ : Gam) : Ev → Wp Out :=
  tite (tor (ttest (tbin fNe (tcall fRepr (tcons (tbin fMul (tlst (tcons (tfn 4 (F_next_by Γ) (tcons (tvar 1) (tcons (tvar 2) (tcons (tvar 7) (tcons (tvar 4) (tnil)))))) (tnil))) (tconst (.int 2))) (tnil))) (tcall fRepr (tcons (tbin fMul (tlst (tcons (tvar 5) (tnil))) (tconst (.int 2))) (tnil))))) (ttest (tbin (fIn true) (tvar 7) (tfn 2 (F__law_day Γ) (tcons (tvar 2) (tcons (tvar 5) (tnil))))))) (tret (tconst (.bl false))) (tnext)
def t__law_days_right_8 (Γ : Gam) : Ev → Wp Out :=
  tthen (tset 5 (tbin fAdd (tvar 4) (tbin fMod (tcall fInt (tcons (tbin fSub (tbin fIx (tbin fIx (tvar 2) (tvar 7)) (tconst (.int 2))) (tvar 4)) (tnil))) (tbin fIx (tbin fIx (tvar 2) (tvar 7)) (tconst (.int 1))))))
  (t__law_days_right_9 Γ)
def t__law_days_right_7 (Γ : Gam) : Ev → Wp Out :=
  tfor (tits fRange1 (tcons (tcall fLen (tcons (tvar 2) (tnil))) (tnil))) (gname 7) (t__law_days_right_8 Γ)
def t__law_days_right_5 (Γ : Gam) : Ev → Wp Out :=
  tthen (tite (tor (ttest (tbin fNe (tcall fRepr (tcons (tvar 6) (tnil))) (tcall fRepr (tcons (tlst (tcons (tvar 5) (tcons (tvar 5) (tnil)))) (tnil))))) (ttest (tbin fGt (tcall fLen (tcons (tvar 5) (tnil))) (tbin fIx (tvar 1) (tconst (.int 0)))))) (tret (tconst (.bl false))) (tnext))
  (t__law_days_right_7 Γ)
def t__law_days_right_4 (Γ : Gam) : Ev → Wp Out :=
  tthen (tset 6 (tlst (tcons (tfn 3 (F_day_by Γ) (tcons (tvar 1) (tcons (tvar 2) (tcons (tvar 4) (tnil))))) (tcons (tfn 3 (F_day_by Γ) (tcons (tvar 1) (tcons (tvar 2) (tcons (tvar 4) (tnil))))) (tnil)))))
  (t__law_days_right_5 Γ)
def t__law_days_right_3 (Γ : Gam) : Ev → Wp Out :=
  tthen (tset 5 (tfn 2 (F__law_day Γ) (tcons (tvar 2) (tcons (tvar 4) (tnil)))))
  (t__law_days_right_4 Γ)
def t__law_days_right_2 (Γ : Gam) : Ev → Wp Out :=
  tthen (tfor (tseq (tvar 3)) (gname 4) (t__law_days_right_3 Γ))
  (t__law_days_right_11 Γ)
def t__law_days_right (Γ : Gam) : Ev → Wp Out :=
  tthen (tset 3 (tlst (tcons (tconst (.int 0)) (tcons (tconst (.int 1)) (tcons (tfn 2 (F__law_draw Γ) (tcons (tvar 0) (tcons (tconst (.int 40)) (tnil)))) (tcons (tbin fPow (tconst (.int 10)) (tconst (.int 30))) (tcons (tbin fSub (tbin fPow (tconst (.int 10)) (tconst (.int 30))) (tfn 2 (F__law_draw Γ) (tcons (tvar 0) (tcons (tconst (.int 99)) (tnil))))) (tcons (tbin fMul (tfn 2 (F__law_draw Γ) (tcons (tvar 0) (tcons (tbin fPow (tconst (.int 10)) (tconst (.int 9))) (tnil)))) (tbin fPow (tconst (.int 10)) (tconst (.int 20)))) (tnil)))))))))
  (t__law_days_right_2 Γ)
def F__law_days_right (Γ : Gam) : List D → Wp D := runDef 8 (t__law_days_right Γ)
def t__law_row_right_10 (Γ : Gam) : Ev → Wp Out :=
  tret (tconst (.bl true))
def t__law_row_right_8 (Γ : Gam) : Ev → Wp Out :=
  tite (ttest (tisN (tvar 5))) (tret (tconst (.bl false))) (tnext)
def t__law_row_right_7 (Γ : Gam) : Ev → Wp Out :=
  tthen (tset 5 (tfn 3 (F__law_go Γ) (tcons (tvar 1) (tcons (tvar 5) (tcons (tvar 6) (tnil))))))
  (t__law_row_right_8 Γ)
def t__law_row_right_6 (Γ : Gam) : Ev → Wp Out :=
  tthen (tfor (tseq (tvar 4)) (gname 6) (t__law_row_right_7 Γ))
  (t__law_row_right_10 Γ)
def t__law_row_right_5 (Γ : Gam) : Ev → Wp Out :=
  tthen (tset 5 (tfn 1 (F__law_start Γ) (tcons (tvar 1) (tnil))))
  (t__law_row_right_6 Γ)
def t__law_row_right_3 (Γ : Gam) : Ev → Wp Out :=
  tthen (tite (ttest (tbin fNe (tcall fRepr (tcons (tlst (tcons (tfn 3 (F_row_by Γ) (tcons (tvar 1) (tcons (tvar 2) (tcons (tvar 3) (tnil))))) (tcons (tfn 3 (F_row_by Γ) (tcons (tvar 1) (tcons (tvar 2) (tcons (tvar 3) (tnil))))) (tnil)))) (tnil))) (tcall fRepr (tcons (tlst (tcons (tvar 4) (tcons (tvar 4) (tnil)))) (tnil))))) (tret (tconst (.bl false))) (tnext))
  (t__law_row_right_5 Γ)
def t__law_row_right_2 (Γ : Gam) : Ev → Wp Out :=
  tthen (tset 4 (tcall fTuple (tcons (tlc (tits fRange1 (tcons (tvar 3) (tnil))) (gname 7) (fun _ => Wp.ret true) (tfn 2 (F__law_day Γ) (tcons (tvar 2) (tcons (tvar 7) (tnil)))) [7]) (tnil))))
  (t__law_row_right_3 Γ)
def t__law_row_right (Γ : Gam) : Ev → Wp Out :=
  tthen (tset 3 (tfn 2 (F__law_of Γ) (tcons (tvar 0) (tcons (tlst (tcons (tconst (.int 0)) (tcons (tconst (.int 1)) (tcons (tconst (.int 9)) (tcons (tconst (.int 60)) (tnil)))))) (tnil)))))
  (t__law_row_right_2 Γ)
def F__law_row_right (Γ : Gam) : List D → Wp D := runDef 8 (t__law_row_right Γ)
def t__law_refused_right_19 (Γ : Gam) : Ev → Wp Out :=
  tret (tconst (.bl true))
def t__law_refused_right_17 (Γ : Gam) : Ev → Wp Out :=
  tite (ttest (tbin fNe (tcall fRepr (tcons (tlam (F__law_said Γ) (tfn 3 (F_row_by Γ) (tcons (tvar 0) (tcons (tvar 1) (tcons (tvar 2) (tnil)))))) (tnil))) (tcall fRepr (tcons (ttup (tcons (tconst (.str "number")) (tcons (tvar 2) (tnil)))) (tnil))))) (tret (tconst (.bl false))) (tnext)
def t__law_refused_right_16 (Γ : Gam) : Ev → Wp Out :=
  tthen (tfor (tseq (ttup (tcons (tconst .non) (tcons (tbin fSub (tconst (.int 0)) (tconst (.int 1))) (tcons (tconst (.int 1001)) (tcons (tconst (.bl true)) (tcons (tconst (.str "1")) (tcons (ttup (tcons (tconst (.int 1)) (tnil))) (tnil))))))))) (gname 2) (t__law_refused_right_17 Γ))
  (t__law_refused_right_19 Γ)
def t__law_refused_right_14 (Γ : Gam) : Ev → Wp Out :=
  tite (ttest (tbin fNe (tcall fRepr (tcons (tlam (F__law_said Γ) (tfn 4 (F_next_by Γ) (tcons (tvar 0) (tcons (tvar 1) (tcons (tvar 2) (tcons (tconst .non) (tnil))))))) (tnil))) (tcall fRepr (tcons (ttup (tcons (tconst (.str "number")) (tcons (tvar 2) (tnil)))) (tnil))))) (tret (tconst (.bl false))) (tnext)
def t__law_refused_right_13 (Γ : Gam) : Ev → Wp Out :=
  tthen (tfor (tseq (ttup (tcons (tconst .non) (tcons (tbin fSub (tconst (.int 0)) (tconst (.int 1))) (tcons (tcall fLen (tcons (tvar 1) (tnil))) (tcons (tconst (.bl true)) (tcons (tconst (.str "0")) (tnil)))))))) (gname 2) (t__law_refused_right_14 Γ))
  (t__law_refused_right_16 Γ)
def t__law_refused_right_11 (Γ : Gam) : Ev → Wp Out :=
  tite (ttest (tbin fNe (tcall fRepr (tcons (tvar 4) (tnil))) (tcall fRepr (tcons (tbin fMul (tlst (tcons (ttup (tcons (tconst (.str "number")) (tcons (tvar 2) (tnil)))) (tnil))) (tconst (.int 2))) (tnil))))) (tret (tconst (.bl false))) (tnext)
def t__law_refused_right_10 (Γ : Gam) : Ev → Wp Out :=
  tthen (tset 4 (tlst (tcons (tlam (F__law_said Γ) (tfn 3 (F_day_by Γ) (tcons (tvar 0) (tcons (tvar 1) (tcons (tvar 2) (tnil)))))) (tcons (tlam (F__law_said Γ) (tfn 4 (F_next_by Γ) (tcons (tvar 0) (tcons (tvar 1) (tcons (tconst (.int 0)) (tcons (tvar 2) (tnil))))))) (tnil)))))
  (t__law_refused_right_11 Γ)
def t__law_refused_right_9 (Γ : Gam) : Ev → Wp Out :=
  tthen (tfor (tseq (ttup (tcons (tconst .non) (tcons (tbin fSub (tconst (.int 0)) (tconst (.int 1))) (tcons (tbin fAdd (tbin fPow (tconst (.int 10)) (tconst (.int 30))) (tconst (.int 1))) (tcons (tconst (.bl true)) (tcons (tconst (.str "1")) (tcons (ttup (tcons (tconst (.int 1)) (tnil))) (tnil))))))))) (gname 2) (t__law_refused_right_10 Γ))
  (t__law_refused_right_13 Γ)
def t__law_refused_right_7 (Γ : Gam) : Ev → Wp Out :=
  tite (ttest (tbin fNe (tcall fRepr (tcons (tbin fAdd (tvar 4) (tlst (tcons (tlam (F__law_said Γ) (tfn 3 (F_row_by Γ) (tcons (tvar 0) (tcons (tvar 2) (tcons (tconst .non) (tnil)))))) (tnil)))) (tnil))) (tcall fRepr (tcons (tbin fMul (tlst (tcons (ttup (tcons (tconst (.str "parts")) (tcons (tvar 2) (tnil)))) (tnil))) (tconst (.int 3))) (tnil))))) (tret (tconst (.bl false))) (tnext)
def t__law_refused_right_6 (Γ : Gam) : Ev → Wp Out :=
  tthen (tset 4 (tlst (tcons (tlam (F__law_said Γ) (tfn 3 (F_day_by Γ) (tcons (tvar 0) (tcons (tvar 2) (tcons (tconst .non) (tnil)))))) (tcons (tlam (F__law_said Γ) (tfn 4 (F_next_by Γ) (tcons (tvar 0) (tcons (tvar 2) (tcons (tconst .non) (tcons (tconst .non) (tnil))))))) (tnil)))))
  (t__law_refused_right_7 Γ)
def t__law_refused_right_5 (Γ : Gam) : Ev → Wp Out :=
  tthen (tfor (tseq (ttup (tcons (tconst .non) (tcons (ttup (tnil)) (tcons (tcall fList (tcons (tvar 1) (tnil))) (tcons (tslice (tvar 1) (fun _ => Wp.ret none) (tpart (tbind fNeg (tconst (.int 1))))) (tcons (tbin fAdd (tvar 1) (tvar 1)) (tcons (tbin fAdd (tslice (tvar 1) (fun _ => Wp.ret none) (tpart (tbind fNeg (tconst (.int 1))))) (ttup (tcons (tconst .non) (tnil)))) (tcons (tconst (.dic [])) (tcons (tconst (.str "parts")) (tnil))))))))))) (gname 2) (t__law_refused_right_6 Γ))
  (t__law_refused_right_9 Γ)
def t__law_refused_right_3 (Γ : Gam) : Ev → Wp Out :=
  tite (ttest (tbin fNe (tbin fAdd (tvar 4) (tlst (tcons (tlam (F__law_said Γ) (tfn 3 (F_row_by Γ) (tcons (tvar 2) (tcons (tconst .non) (tcons (tconst .non) (tnil)))))) (tnil)))) (tbin fMul (tlst (tcons (ttup (tcons (tconst (.str "plan")) (tcons (tvar 3) (tnil)))) (tnil))) (tconst (.int 3))))) (tret (tconst (.bl false))) (tnext)
def t__law_refused_right_2 (Γ : Gam) : Ev → Wp Out :=
  tthen (tset 4 (tlst (tcons (tlam (F__law_said Γ) (tfn 3 (F_day_by Γ) (tcons (tvar 2) (tcons (tconst .non) (tcons (tconst .non) (tnil)))))) (tcons (tlam (F__law_said Γ) (tfn 4 (F_next_by Γ) (tcons (tvar 2) (tcons (tconst .non) (tcons (tconst .non) (tcons (tconst .non) (tnil))))))) (tnil)))))
  (t__law_refused_right_3 Γ)
def t__law_refused_right (Γ : Gam) : Ev → Wp Out :=
  tthen (tfor (tseq (ttup (tcons (ttup (tcons (tconst .non) (tcons (ttup (tnil)) (tnil)))) (tcons (ttup (tcons (ttup (tcons (tconst (.int 4)) (tcons (ttup (tcons (tconst (.int 2)) (tnil))) (tnil)))) (tcons (ttup (tcons (tconst (.int 0)) (tnil))) (tnil)))) (tcons (ttup (tcons (ttup (tcons (tconst (.int 1)) (tcons (ttup (tcons (tconst (.int 0)) (tnil))) (tnil)))) (tcons (ttup (tcons (tconst (.int 1)) (tcons (tconst (.int 0)) (tnil)))) (tnil)))) (tnil)))))) (gtup 2 (gcons (gname 2) (gcons (gname 3) (gnil)))) (t__law_refused_right_2 Γ))
  (t__law_refused_right_5 Γ)
def F__law_refused_right (Γ : Gam) : List D → Wp D := runDef 5 (t__law_refused_right Γ)
def t_law_11 (Γ : Gam) : Ev → Wp Out :=
  tret (tandV (tbin fEq (tvar 6) (tlst (tcons (ttup (tcons (ttup (tcons (tconst (.int 0)) (tnil))) (tcons (ttup (tcons (tconst (.int 1)) (tnil))) (tcons (ttup (tcons (tconst (.int 0)) (tnil))) (tcons (ttup (tcons (tconst (.int 2)) (tnil))) (tcons (ttup (tcons (tconst (.int 0)) (tnil))) (tnil))))))) (tcons (tconst (.int 7)) (tcons (ttup (tcons (tconst (.int 0)) (tnil))) (tnil)))))) (tbin fEq (tcall fLen (tcons (tfn 3 (F_row_by Γ) (tcons (tvar 3) (tcons (tvar 4) (tcons (tconst (.int 1000)) (tnil))))) (tnil))) (tconst (.int 1000))))
def t_law_10 (Γ : Gam) : Ev → Wp Out :=
  tthen (tset 6 (tlst (tcons (tfn 3 (F_row_by Γ) (tcons (tvar 3) (tcons (tvar 4) (tcons (tconst (.int 5)) (tnil))))) (tcons (tfn 4 (F_next_by Γ) (tcons (tvar 3) (tcons (tvar 4) (tcons (tconst (.int 2)) (tcons (tconst (.int 4)) (tnil)))))) (tcons (tfn 3 (F_day_by Γ) (tcons (tvar 3) (tcons (tvar 4) (tcons (tbin fPow (tconst (.int 10)) (tconst (.int 30))) (tnil))))) (tnil))))))
  (t_law_11 Γ)
def t_law_9 (Γ : Gam) : Ev → Wp Out :=
  tthen (tasg (ttup (tcons (ttup (tcons (tconst (.int 1)) (tcons (ttup (tcons (tconst (.int 2)) (tcons (tconst (.int 4)) (tcons (tconst (.int 5)) (tnil))))) (tnil)))) (tcons (ttup (tcons (ttup (tcons (tconst (.int 0)) (tcons (tconst (.int 2)) (tcons (tconst (.int 0)) (tnil))))) (tcons (ttup (tcons (tconst (.int 0)) (tcons (tconst (.int 4)) (tcons (tconst (.int 1)) (tnil))))) (tcons (ttup (tcons (tconst (.int 0)) (tcons (tconst (.int 4)) (tcons (tconst (.int 3)) (tnil))))) (tnil))))) (tnil)))) (gtup 2 (gcons (gname 3) (gcons (gname 4) (gnil)))))
  (t_law_10 Γ)
def t_law_7 (Γ : Gam) : Ev → Wp Out :=
  tite (tor (tnot (ttest (tfn 2 (F__law_refused_right Γ) (tcons (tvar 3) (tcons (tvar 4) (tnil)))))) (ttest (tbin fNe (tcall fRepr (tcons (tlst (tcons (tvar 3) (tcons (tvar 4) (tnil)))) (tnil))) (tvar 5)))) (tret (tconst (.bl false))) (tnext)
def t_law_5 (Γ : Gam) : Ev → Wp Out :=
  tthen (tite (tor (tnot (ttest (tfn 3 (F__law_days_right Γ) (tcons (tvar 2) (tcons (tvar 3) (tcons (tvar 4) (tnil))))))) (tnot (ttest (tfn 3 (F__law_row_right Γ) (tcons (tvar 2) (tcons (tvar 3) (tcons (tvar 4) (tnil)))))))) (tret (tconst (.bl false))) (tnext))
  (t_law_7 Γ)
def t_law_4 (Γ : Gam) : Ev → Wp Out :=
  tthen (tset 5 (tcall fRepr (tcons (tlst (tcons (tvar 3) (tcons (tvar 4) (tnil)))) (tnil))))
  (t_law_5 Γ)
def t_law_3 (Γ : Gam) : Ev → Wp Out :=
  tthen (tasg (tfn 1 (F__law_made Γ) (tcons (tvar 2) (tnil))) (gtup 2 (gcons (gname 3) (gcons (gname 4) (gnil)))))
  (t_law_4 Γ)
def t_law_2 (Γ : Gam) : Ev → Wp Out :=
  tthen (tset 2 (tfn 2 (F__law_begun Γ) (tcons (tvar 0) (tcons (tvar 1) (tnil)))))
  (t_law_3 Γ)
def t_law (Γ : Gam) : Ev → Wp Out :=
  tthen (tfor (tits fRange1 (tcons (tbin fAdd (tconst (.int 3)) (tcall fMin (tcons (tcall fLen (tcons (tvar 0) (tnil))) (tcons (tconst (.int 5)) (tnil))))) (tnil))) (gname 1) (t_law_2 Γ))
  (t_law_9 Γ)
def F_law (Γ : Gam) : List D → Wp D := runDef 7 (t_law Γ)
end K13

namespace K13
open OE PySem PL
local macro_rules | `(tactic| wp_walk) => `(tactic| simp -implicitDefEqProofs only [OE.w_g0, OE.w_gs, OE.w_s0, OE.w_ss, OE.w_some, OE.w_ex, OE.w_lc, OE.w_ln, OE.w_at, OE.w_ta, OE.w_nt, OE.w_nf, OE.w_it, OE.w_if, OE.w_itP, OE.w_ifP, OE.w_ft, OE.w_mc, OE.w_mn, OE.w_rs, OE.w_r0, OE.w_ca, OE.w_na, OE.w_za, OE.w_sb, OE.w_sz, OE.s_then, OE.k_seqN, OE.k_seqR, OE.k_seqB, OE.k_seqC, OE.s_next, OE.s_ret, OE.k_ret, OE.s_set, OE.k_set, OE.s_ite, OE.k_ite, OE.o_rt, OE.o_nx, OE.s_run, OE.s_var, OE.s_const, OE.s_nil, OE.s_cons, OE.k_cons, OE.k_cons2, OE.s_tup, OE.s_lst, OE.k_tup, OE.k_lst, OE.s_bin, OE.k_bin, OE.k_bin2, OE.s_bind, OE.k_ap, OE.s_call, OE.k_apL, OE.s_fn, OE.k_fn, OE.s_test, OE.k_test, OE.s_and, OE.k_and, OE.s_or, OE.k_or, OE.s_not, OE.k_not, OE.s_andV, OE.k_andV, OE.s_orV, OE.k_orV, OE.s_notV, OE.k_notV, OE.s_if, OE.k_if, OE.s_isN, OE.k_isN, OE.s_noN, OE.k_noN, OE.s_chain, OE.k_ch1, OE.k_ch2, OE.k_ch3, OE.s_isi, OE.k_isi, OE.s_part, OE.k_part, OE.s_slice, OE.k_sl1, OE.k_sl2, OE.k_sl3, OE.s_retO, OE.s_slL, OE.s_slT, OE.s_slS, OE.s_seq, OE.k_itmL, OE.k_itmT, OE.k_itmS, OE.s_its, OE.k_its, OE.s_rng1, OE.s_rng2, OE.s_enT, OE.s_enL, OE.s_zipL, OE.s_zipT, OE.s_for, OE.k_for, OE.for_nil, OE.k_go, OE.k_tN, OE.k_tC, OE.k_tB, OE.k_tR, OE.g_name, OE.g_tup, OE.g_cons, OE.k_gs, OE.g_nil, OE.s_asg, OE.k_asg, OE.k_nx, OE.s_par, OE.k_par, OE.s_lc, OE.k_lc, OE.k_lc1, OE.k_lc2, OE.k_some, OE.s_fail, OE.k_fail, OE.s_fail0, OE.s_try, OE.k_unN, OE.k_unR, OE.s_fld, OE.k_fld, OE.f_addI, OE.f_addT, OE.f_addL, OE.f_addS, OE.f_ii, OE.f_i0, OE.f_mulI, OE.f_mulT, OE.f_mulL, OE.f_neg, OE.f_ixL, OE.f_ixT, OE.f_ixS, OE.f_lenL, OE.f_lenT, OE.f_lenS, OE.f_int, OE.f_min, OE.f_max, OE.f_tupL, OE.f_lstT, OE.f_lstL, OE.f_repr, OE.f_cmpS, OE.f_cmpI, OE.f_cmpT, OE.f_cmpL, OE.s_dict, OE.k_dic, OE.f_getM, OE.s_putM, OE.k_put1, OE.k_put2, OE.s_dm, OE.mGet_left, OE.mGet_seed, OE.mGet_cells, OE.mGet_spot, OE.mPut_left, OE.mPut_spot, OE.k_wh, OE.s_star, OE.k_starT, OE.k_starL, OE.k_star2, OE.s_drop, OE.k_drop, OE.s_par3, OE.k_par3, OE.f_lrg1, OE.f_trg1, OE.f_lrg2, OE.f_trg2, OE.f_ixM, OE.f_lenM, OE.f_inT, OE.f_inL, OE.f_inS, OE.s_tryN, OE.c_nil, OE.f_all, OE.f_any, OE.f_sum, OE.s_frz, OE.k_frzS, OE.k_fz, OE.f_frzLs, OE.f_frzT, OE.f_frzI, OE.f_frzN, OE.s_mlst, OE.k_ml, OE.s_meth, OE.k_me, OE.f_app, OE.f_extd, OE.f_sorted, OE.s_lc2, OE.k_lcc, OE.f_isB, OE.s_isi2, OE.k_isi2, OE.s_aug, OE.k_aug, OE.w_int, OE.f_revL, OE.f_revT, OE.s_isx, OE.k_isx, OE.s_seqG, OE.k_itmGL, OE.k_itmGT, OE.k_itmGM, OE.s_forG, OE.k_forG, OE.s_lcG, OE.k_lcG, OE.f_maddL, OE.s_mlc, OE.k_mlc, OE.k_newQ, OE.startE, Nat.reduceAdd, Nat.reduceLeDiff, Nat.reduceSub])
local macro_rules | `(tactic| wp_walk using $[$ts],*) => `(tactic| simp -implicitDefEqProofs only [$[$ts:term],*, OE.w_g0, OE.w_gs, OE.w_s0, OE.w_ss, OE.w_some, OE.w_ex, OE.w_lc, OE.w_ln, OE.w_at, OE.w_ta, OE.w_nt, OE.w_nf, OE.w_it, OE.w_if, OE.w_itP, OE.w_ifP, OE.w_ft, OE.w_mc, OE.w_mn, OE.w_rs, OE.w_r0, OE.w_ca, OE.w_na, OE.w_za, OE.w_sb, OE.w_sz, OE.s_then, OE.k_seqN, OE.k_seqR, OE.k_seqB, OE.k_seqC, OE.s_next, OE.s_ret, OE.k_ret, OE.s_set, OE.k_set, OE.s_ite, OE.k_ite, OE.o_rt, OE.o_nx, OE.s_run, OE.s_var, OE.s_const, OE.s_nil, OE.s_cons, OE.k_cons, OE.k_cons2, OE.s_tup, OE.s_lst, OE.k_tup, OE.k_lst, OE.s_bin, OE.k_bin, OE.k_bin2, OE.s_bind, OE.k_ap, OE.s_call, OE.k_apL, OE.s_fn, OE.k_fn, OE.s_test, OE.k_test, OE.s_and, OE.k_and, OE.s_or, OE.k_or, OE.s_not, OE.k_not, OE.s_andV, OE.k_andV, OE.s_orV, OE.k_orV, OE.s_notV, OE.k_notV, OE.s_if, OE.k_if, OE.s_isN, OE.k_isN, OE.s_noN, OE.k_noN, OE.s_chain, OE.k_ch1, OE.k_ch2, OE.k_ch3, OE.s_isi, OE.k_isi, OE.s_part, OE.k_part, OE.s_slice, OE.k_sl1, OE.k_sl2, OE.k_sl3, OE.s_retO, OE.s_slL, OE.s_slT, OE.s_slS, OE.s_seq, OE.k_itmL, OE.k_itmT, OE.k_itmS, OE.s_its, OE.k_its, OE.s_rng1, OE.s_rng2, OE.s_enT, OE.s_enL, OE.s_zipL, OE.s_zipT, OE.s_for, OE.k_for, OE.for_nil, OE.k_go, OE.k_tN, OE.k_tC, OE.k_tB, OE.k_tR, OE.g_name, OE.g_tup, OE.g_cons, OE.k_gs, OE.g_nil, OE.s_asg, OE.k_asg, OE.k_nx, OE.s_par, OE.k_par, OE.s_lc, OE.k_lc, OE.k_lc1, OE.k_lc2, OE.k_some, OE.s_fail, OE.k_fail, OE.s_fail0, OE.s_try, OE.k_unN, OE.k_unR, OE.s_fld, OE.k_fld, OE.f_addI, OE.f_addT, OE.f_addL, OE.f_addS, OE.f_ii, OE.f_i0, OE.f_mulI, OE.f_mulT, OE.f_mulL, OE.f_neg, OE.f_ixL, OE.f_ixT, OE.f_ixS, OE.f_lenL, OE.f_lenT, OE.f_lenS, OE.f_int, OE.f_min, OE.f_max, OE.f_tupL, OE.f_lstT, OE.f_lstL, OE.f_repr, OE.f_cmpS, OE.f_cmpI, OE.f_cmpT, OE.f_cmpL, OE.s_dict, OE.k_dic, OE.f_getM, OE.s_putM, OE.k_put1, OE.k_put2, OE.s_dm, OE.mGet_left, OE.mGet_seed, OE.mGet_cells, OE.mGet_spot, OE.mPut_left, OE.mPut_spot, OE.k_wh, OE.s_star, OE.k_starT, OE.k_starL, OE.k_star2, OE.s_drop, OE.k_drop, OE.s_par3, OE.k_par3, OE.f_lrg1, OE.f_trg1, OE.f_lrg2, OE.f_trg2, OE.f_ixM, OE.f_lenM, OE.f_inT, OE.f_inL, OE.f_inS, OE.s_tryN, OE.c_nil, OE.f_all, OE.f_any, OE.f_sum, OE.s_frz, OE.k_frzS, OE.k_fz, OE.f_frzLs, OE.f_frzT, OE.f_frzI, OE.f_frzN, OE.s_mlst, OE.k_ml, OE.s_meth, OE.k_me, OE.f_app, OE.f_extd, OE.f_sorted, OE.s_lc2, OE.k_lcc, OE.f_isB, OE.s_isi2, OE.k_isi2, OE.s_aug, OE.k_aug, OE.w_int, OE.f_revL, OE.f_revT, OE.s_isx, OE.k_isx, OE.s_seqG, OE.k_itmGL, OE.k_itmGT, OE.k_itmGM, OE.s_forG, OE.k_forG, OE.s_lcG, OE.k_lcG, OE.f_maddL, OE.s_mlc, OE.k_mlc, OE.k_newQ, OE.startE, Nat.reduceAdd, Nat.reduceLeDiff, Nat.reduceSub])
variable [TN] {Γ : Gam} {n : S} {q : D → S → Prop} {x : Exn → S → Prop}
/-- a for over a list, by the number of the turn -/
theorem forL {t : Ev → Wp Out} {g : D → Ev → Wp Ev} {qo : Out → S → Prop} {l : List D} (I : Nat → Ev → S → Prop)
    (step : ∀ (j : Nat) d ρ n (k : Out → S → Prop), l[j]? = some d → I j ρ n → (∀ ρ' n', I (j + 1) ρ' n' → k (.nx ρ') n') → (∀ e s, qo (.rt e) s → k (.rt e) s) → g d ρ n (kGo t k x) x)
    (last : ∀ ρ n, I l.length ρ n → qo (.nx ρ) n) : ∀ ρ n, I 0 ρ n → forW g t l ρ n qo x := by
  intro ρ n h0
  refine for_inv (I := fun ds ρ s => ∃ j : Nat, ds = l.drop j ∧ j ≤ l.length ∧ I j ρ s) ?_ ?_ _ _ _ ⟨0, rfl, Nat.zero_le _, h0⟩
  · rintro d ds ρ s k ⟨j, h1, h2, h3⟩ k1 k2
    have hlt : j < l.length := by
      rcases Nat.lt_or_ge j l.length with z | z
      · exact z
      · rw [List.drop_eq_nil_of_le z] at h1; cases h1
    rw [List.drop_eq_getElem_cons hlt] at h1
    injection h1 with e1 e2
    exact step j d ρ s k (by rw [e1]; exact List.getElem?_eq_getElem hlt) h3 (fun ρ' n' h => k1 _ _ ⟨j + 1, e2, hlt, h⟩) k2
  · rintro ρ s ⟨j, h1, h2, h3⟩
    have e : j = l.length := by
      have := congrArg List.length h1
      rw [List.length_drop, List.length_nil] at this
      omega
    subst e
    exact last ρ s h3
/-! ### what is heard of a call -/
def vS (Γ : Gam) (f : Addr) (Hs0 : L2.Hp) (Θ : Th) (q : D → S → Prop) (x : Exn → S → Prop) : D → S → Prop := kSet 1 [some (.clo f Hs0), some .non, some .non, none, none] (kSeq (t__law_said_6 Γ Θ) (outQ q) x)
def xS (Γ : Gam) (f : Addr) (Hs0 : L2.Hp) (Θ : Th) (q : D → S → Prop) (x : Exn → S → Prop) : Exn → S → Prop := kCatch Γ mt_TurnError 3 (tset 2 (tvar 3)) [some (.clo f Hs0), some .non, some .non, none, none] (kSeq (t__law_said_6 Γ Θ) (outQ q) x) x
theorem sp_said {Θ : Th} {f : Addr} {Hs0 : L2.Hp} {B : Wp D} (hΘ : Θ f = some (Hs0, B)) (h : B n (vS Γ f Hs0 Θ q x) (xS Γ f Hs0 Θ q x)) : F__law_said Γ Θ [.clo f Hs0] n q x := by
  wp_walk using F__law_said, t__law_said, t__law_said_2
  exact act_go rfl hΘ h
theorem x_plan {Θ : Th} {f : Addr} {Hs0 : L2.Hp} {v : D} (h : q (.tup [.str "plan", v]) n) : xS Γ f Hs0 Θ q x ⟨"BadPlan", some v⟩ n := by
  unfold xS
  rw [k_catch (e := ⟨"BadPlan", some v⟩) (show mt_TurnError "BadPlan" = true by decide)]
  intro C hC
  have hC : Γ "BadPlan" = some C := hC
  wp_walk using Option.toList, t__law_said_6, isNon, t__law_said_8
  refine ⟨hC, ?_⟩
  rw [show mt_BadPlan "BadPlan" = true by decide]
  wp_walk
  refine ⟨⟨hC, by decide⟩, ?_⟩
  wp_walk using t__law_said_9
  refine ⟨hC, ?_⟩
  rw [show mt_BadNumber "BadPlan" = false by decide]
  wp_walk using t__law_said_10
  refine ⟨hC, ?_⟩
  rw [show mt_BadParts "BadPlan" = false by decide]
  wp_walk using t__law_said_11
  rw [if_pos (by decide)]
  wp_walk using at0
  exact h
theorem x_number {Θ : Th} {f : Addr} {Hs0 : L2.Hp} {v : D} (h : q (.tup [.str "number", v]) n) : xS Γ f Hs0 Θ q x ⟨"BadNumber", some v⟩ n := by
  unfold xS
  rw [k_catch (e := ⟨"BadNumber", some v⟩) (show mt_TurnError "BadNumber" = true by decide)]
  intro C hC
  have hC : Γ "BadNumber" = some C := hC
  wp_walk using Option.toList, t__law_said_6, isNon, t__law_said_8
  refine ⟨hC, ?_⟩
  rw [show mt_BadPlan "BadNumber" = false by decide]
  wp_walk using t__law_said_9
  refine ⟨hC, ?_⟩
  rw [show mt_BadNumber "BadNumber" = true by decide]
  wp_walk
  refine ⟨⟨hC, by decide⟩, ?_⟩
  wp_walk using t__law_said_10
  refine ⟨hC, ?_⟩
  rw [show mt_BadParts "BadNumber" = false by decide]
  wp_walk using t__law_said_11
  rw [if_pos (by decide)]
  wp_walk using at0
  exact h
theorem x_parts {Θ : Th} {f : Addr} {Hs0 : L2.Hp} {v : D} (h : q (.tup [.str "parts", v]) n) : xS Γ f Hs0 Θ q x ⟨"BadParts", some v⟩ n := by
  unfold xS
  rw [k_catch (e := ⟨"BadParts", some v⟩) (show mt_TurnError "BadParts" = true by decide)]
  intro C hC
  have hC : Γ "BadParts" = some C := hC
  wp_walk using Option.toList, t__law_said_6, isNon, t__law_said_8
  refine ⟨hC, ?_⟩
  rw [show mt_BadPlan "BadParts" = false by decide]
  wp_walk using t__law_said_9
  refine ⟨hC, ?_⟩
  rw [show mt_BadNumber "BadParts" = false by decide]
  wp_walk using t__law_said_10
  refine ⟨hC, ?_⟩
  rw [show mt_BadParts "BadParts" = true by decide]
  wp_walk
  refine ⟨⟨hC, by decide⟩, ?_⟩
  wp_walk using t__law_said_11
  rw [if_pos (by decide)]
  wp_walk using at0
  exact h
abbrev Gives (t : Ev → Wp D) (ρ : Ev) (d : D) : Prop := ∀ {n : S} {q : D → S → Prop} {x : Exn → S → Prop}, q d n → t ρ n q x
theorem lam3 {F : List D → Wp D} {p a b : D} {s : S} {tp ta tb : Ev → Wp D} {ρ : Ev} (hp : Gives tp ρ p) (ha : Gives ta ρ a) (hb : Gives tb ρ b)
    (h : ∀ (f : Addr) (Hs0 : L2.Hp) (Θ : Th), F [p, a, b] s (vS Γ f Hs0 Θ q x) (xS Γ f Hs0 Θ q x)) : tlam (F__law_said Γ) (tfn 3 F (tcons tp (tcons ta (tcons tb (tnil))))) ρ s q x := by
  refine lam_go fun f Hs0 Θ hΘ => sp_said hΘ ?_
  wp_walk
  refine hp ?_
  wp_walk
  refine ha ?_
  wp_walk
  refine hb ?_
  wp_walk
  exact h f Hs0 Θ
theorem lam4 {F : List D → Wp D} {p a b c : D} {s : S} {tp ta tb tc : Ev → Wp D} {ρ : Ev} (hp : Gives tp ρ p) (ha : Gives ta ρ a) (hb : Gives tb ρ b) (hc : Gives tc ρ c)
    (h : ∀ (f : Addr) (Hs0 : L2.Hp) (Θ : Th), F [p, a, b, c] s (vS Γ f Hs0 Θ q x) (xS Γ f Hs0 Θ q x)) : tlam (F__law_said Γ) (tfn 4 F (tcons tp (tcons ta (tcons tb (tcons tc (tnil)))))) ρ s q x := by
  refine lam_go fun f Hs0 Θ hΘ => sp_said hΘ ?_
  wp_walk
  refine hp ?_
  wp_walk
  refine ha ?_
  wp_walk
  refine hb ?_
  wp_walk
  refine hc ?_
  wp_walk
  exact h f Hs0 Θ
/-! ### the law's day -/
def lawF (ps : List P3) (t : Int) : D → Option D
  | .int k => if t.fmod (ps.getD k.toNat (0, 0, 0)).2.1 = (ps.getD k.toNat (0, 0, 0)).2.2 then some (.int k) else none
  | _ => none
theorem lawF_day (all : List P3) (t : Int) : ∀ (ps : List P3) (i : Nat), (∀ j, ps[j]? = all[i + j]?) ∨ ps = [] → (rangeD ((i : Nat) : Int) ps.length).filterMap (lawF all t) = (dayIn i ps t).map D.int
  | [], _, _ => rfl
  | p :: ps, i, h => by
    have h : ∀ j, (p :: ps)[j]? = all[i + j]? := h.resolve_right (by simp)
    have h0 := h 0
    rw [List.getElem?_cons_zero, Nat.add_zero] at h0
    rw [List.length_cons, range_succ, List.filterMap_cons, dayIn]
    have e : all.getD i (0, 0, 0) = p := by rw [List.getD_eq_getElem?_getD, ← h0]; rfl
    have ih := lawF_day all t ps (i + 1) (.inl fun j => by
      have := h (j + 1)
      rw [List.getElem?_cons_succ] at this
      rw [this]; congr 1; omega)
    rw [show ((i + 1 : Nat) : Int) = (i : Int) + 1 by omega] at ih
    simp -implicitDefEqProofs only [lawF, Int.toNat_natCast, e]
    rw [ih]
    by_cases c : t.fmod p.2.1 = p.2.2
    · simp [c]
    · simp [c]
theorem sp_day {ps : List P3} {t : Int} (h1 : ∀ p ∈ ps, 1 ≤ p.2.1) (hl : ps.length ≤ 1000) (hq : q (dayD (dayIn 0 ps t)) n) : F__law_day Γ [partsD ps, .int t] n q x := by
  wp_walk using F__law_day, t__law_day, partsD, List.length_map
  refine ⟨by omega, by rw [range_len]; omega, lc_pure (f := lawF ps t) (fun d hd n k hk => ?_) ?_⟩
  · obtain ⟨j, rfl, j0, j1⟩ := range_get hd
    obtain ⟨p, ep⟩ := get_of_len (l := ps) (i := j.toNat) (by omega)
    have pe := h1 p (List.mem_of_getElem? ep)
    have ej : j = ((j.toNat : Nat) : Int) := by omega
    have ea : L2.atI (ps.map partD) j = some (partD p) := by rw [ej]; exact at_nat (by rw [List.getElem?_map, ep]; rfl)
    have eg : ps.getD j.toNat (0, 0, 0) = p := by rw [List.getD_eq_getElem?_getD, ep]; rfl
    simp -implicitDefEqProofs only [lawF, eg] at hk
    rw [s_lc1]
    wp_walk using wipeE
    refine ⟨_, ea, ?_⟩
    wp_walk using partD, at1
    refine ⟨by omega, _, ea, ?_⟩
    wp_walk using partD, at2
    by_cases c : t.fmod p.2.1 = p.2.2
    · rw [if_pos c] at hk
      wp_walk using c, decide_true, Bool.false_xor
      exact hk
    · rw [if_neg c] at hk
      wp_walk using c, decide_false, Bool.false_xor
      exact hk
  · have e := lawF_day ps t ps 0 (.inl fun j => by rw [Nat.zero_add])
    rw [show ((ps.length : Nat) : Int).toNat = ps.length from Int.toNat_natCast _]
    have e' : (rangeD 0 ps.length).filterMap (lawF ps t) = (dayIn 0 ps t).map D.int := e
    rw [e']
    exact hq
/-! ### at most so many things as hands -/
theorem in_day (t : Int) : ∀ (ps : List P3) (k i : Nat), isIn (dayIn k ps t) i = (decide (k ≤ i) && (match ps[i - k]? with | some p => decide (t.fmod p.2.1 = p.2.2) | none => false))
  | [], k, i => by simp [dayIn, isIn]
  | p :: ps, k, i => by
    have ih := in_day t ps (k + 1) i
    rw [dayIn]
    by_cases c : k = i
    · subst c
      have z : isIn (dayIn (k + 1) ps t) k = false := by rw [ih, decide_eq_false (by omega), Bool.false_and]
      rw [Nat.sub_self, List.getElem?_cons_zero]
      by_cases c2 : t.fmod p.2.1 = p.2.2
      · simp [c2, isIn]
      · simp [c2, z]
    · have hk : isIn (if t.fmod p.2.1 = p.2.2 then ((k : Nat) : Int) :: dayIn (k + 1) ps t else dayIn (k + 1) ps t) i = isIn (dayIn (k + 1) ps t) i := by
        split
        · unfold isIn
          rw [List.any_cons]
          have : (((k : Nat) : Int) == ((i : Nat) : Int)) = false := by rw [beq_eq_false_iff_ne]; omega
          rw [this, Bool.false_or]
        · rfl
      rw [hk, ih]
      by_cases c3 : k ≤ i
      · have c4 : k + 1 ≤ i := by omega
        rw [decide_eq_true c3, decide_eq_true c4, show i - k = (i - (k + 1)) + 1 by omega, List.getElem?_cons_succ]
      · have c4 : ¬ k + 1 ≤ i := by omega
        rw [decide_eq_false c3, decide_eq_false c4]; rfl
theorem drop_one {a : Int} : ∀ l : List Int, l.Pairwise (· ≠ ·) → l.length ≤ (l.filter fun z => decide (z ≠ a)).length + 1
  | [], _ => by simp
  | z :: l, h => by
    obtain ⟨h1, h2⟩ := List.pairwise_cons.mp h
    rw [List.filter_cons]
    by_cases c : z = a
    · have e : l.filter (fun z => decide (z ≠ a)) = l := List.filter_eq_self.mpr fun w hw => by have := h1 w hw; simp; omega
      rw [if_neg (by simp [c]), e, List.length_cons]
      exact Nat.le_refl _
    · have := drop_one (a := a) l h2
      rw [if_pos (by simp [c]), List.length_cons, List.length_cons]
      omega
theorem pigeon : ∀ (h : Nat) (l : List Int), l.Pairwise (· ≠ ·) → (∀ z ∈ l, 0 ≤ z ∧ z < (h : Nat)) → l.length ≤ h
  | 0, [], _, _ => Nat.le_refl _
  | 0, z :: l, _, h => by have := h z List.mem_cons_self; omega
  | h + 1, l, hp, hz => by
    have a := drop_one (a := (h : Int)) l hp
    have b := pigeon h (l.filter fun z => decide (z ≠ (h : Int))) (hp.filter _) fun z hm => by
      obtain ⟨h1, h2⟩ := List.mem_filter.mp hm
      have := hz z h1
      have : z ≠ h := by simpa using h2
      omega
    omega
def handsOn (ps : List P3) (t : Int) : List Int := (ps.filter fun p => decide (t.fmod p.2.1 = p.2.2)).map (·.1)
theorem hands_len (t : Int) : ∀ (ps : List P3) (i : Nat), (handsOn ps t).length = (dayIn i ps t).length
  | [], _ => rfl
  | p :: ps, i => by
    have ih := hands_len t ps (i + 1)
    unfold handsOn at ih ⊢
    rw [List.filter_cons, dayIn]
    by_cases c : t.fmod p.2.1 = p.2.2
    · simp [c] at ih ⊢; exact ih
    · simp [c] at ih ⊢; exact ih
theorem both_meet {p o : P3} {t : Int} (p1 : 1 ≤ p.2.1) (o1 : 1 ≤ o.2.1) (h1 : t.fmod p.2.1 = p.2.2) (h2 : t.fmod o.2.1 = o.2.2) (h : p.1 = o.1) : meetB p o = true := by
  unfold meetB
  rw [Bool.and_eq_true, decide_eq_true_eq, decide_eq_true_eq]
  refine ⟨h, ?_⟩
  rw [Int.fmod_eq_emod_of_nonneg _ (by omega)] at h1 h2
  have g1 : ((Int.gcd p.2.1 o.2.1 : Nat) : Int) ∣ p.2.1 := Int.gcd_dvd_left ..
  have g2 : ((Int.gcd p.2.1 o.2.1 : Nat) : Int) ∣ o.2.1 := Int.gcd_dvd_right ..
  have e1 : t - p.2.2 = p.2.1 * (t / p.2.1) := by have := Int.mul_ediv_add_emod t p.2.1; omega
  have e2 : t - o.2.2 = o.2.1 * (t / o.2.1) := by have := Int.mul_ediv_add_emod t o.2.1; omega
  have e : p.2.2 - o.2.2 = o.2.1 * (t / o.2.1) - p.2.1 * (t / p.2.1) := by omega
  rw [e]
  exact Int.dvd_sub (Int.dvd_trans g2 (Int.dvd_mul_right ..)) (Int.dvd_trans g1 (Int.dvd_mul_right ..))
theorem day_few {h : Int} {gs : List Int} {ps : List P3} (ok : PlanOk h gs) (tt : PartsOk h ps gs) (ap : Apart ps) (t : Int) : (((dayIn 0 ps t).length : Nat) : Int) ≤ h := by
  have h1 := ok.h1
  rw [← hands_len t ps 0]
  have z := pigeon h.toNat (handsOn ps t) ?_ ?_
  · omega
  · unfold handsOn
    rw [List.pairwise_map]
    have z : (ps.filter fun p => decide (t.fmod p.2.1 = p.2.2)).Pairwise fun p o => meetB p o = false := List.Pairwise.filter _ ap
    refine List.Pairwise.imp_of_mem (fun {p o} hp ho hm e => ?_) z
    obtain ⟨p1, p2⟩ := List.mem_filter.mp hp
    obtain ⟨o1, o2⟩ := List.mem_filter.mp ho
    obtain ⟨_, _, _, _, pe, _⟩ := tt.mem p1
    obtain ⟨_, _, _, _, oe, _⟩ := tt.mem o1
    rw [both_meet pe oe (of_decide_eq_true p2) (of_decide_eq_true o2) e] at hm
    cases hm
  · intro z hz
    unfold handsOn at hz
    obtain ⟨p, hp, rfl⟩ := List.mem_map.mp hz
    obtain ⟨_, _, a1, a2, _⟩ := tt.mem (List.mem_filter.mp hp).1
    omega
/-! ### days and next days -/
theorem ok_dayIn {b e : Nat} {ps : List P3} (hl : ps.length ≤ 8) (t : Int) (i : Nat) (hi : i ≤ 100) : Ok (b + 8) (e + 1) (dayD (dayIn i ps t)) := by
  have len : ∀ (ps : List P3) (i : Nat), (dayIn i ps t).length ≤ ps.length := fun ps => by
    induction ps with
    | nil => intro i; exact Nat.le_refl _
    | cons p ps ih =>
      intro i
      rw [dayIn]
      have := ih (i + 1)
      split
      · rw [List.length_cons, List.length_cons]; omega
      · rw [List.length_cons]; omega
  have bd : ∀ (ps : List P3) (i : Nat), ∀ z ∈ dayIn i ps t, 0 ≤ z ∧ z ≤ ((i + ps.length : Nat) : Int) := fun ps => by
    induction ps with
    | nil => intro i z hz; cases hz
    | cons p ps ih =>
      intro i z hz
      rw [dayIn] at hz
      rw [List.length_cons]
      split at hz
      · rcases List.mem_cons.mp hz with rfl | hz
        · omega
        · have := ih (i + 1) z hz; omega
      · have := ih (i + 1) z hz; omega
  refine ok2 (b := 0) (e := 0) (m := 8) (fun d hd => ?_) (by rw [List.length_map]; exact Nat.le_trans (len ps i) hl) (by omega) (by omega)
  obtain ⟨z, hz, rfl⟩ := List.mem_map.mp hd
  have := bd ps i z hz
  exact okI (by omega) (by omega)
theorem next_on {p : P3} {t : Int} (p1 : 1 ≤ p.2.1) (r0 : 0 ≤ p.2.2) (r1 : p.2.2 < p.2.1) : (nextBy p t).fmod p.2.1 = p.2.2 := by
  unfold nextBy
  rw [Int.fmod_eq_emod_of_nonneg _ (by omega), Int.fmod_eq_emod_of_nonneg _ (by omega), Int.add_emod, Int.emod_emod, ← Int.add_emod]
  rw [show t + (p.2.2 - t) = p.2.2 by omega]
  exact Int.emod_eq_of_lt r0 r1
theorem next_le {p : P3} {t : Int} (p1 : 1 ≤ p.2.1) (t0 : 0 ≤ t) : 0 ≤ nextBy p t ∧ nextBy p t < t + p.2.1 := by
  unfold nextBy
  have := fmod_lt (i := p.2.2 - t) (j := p.2.1) (by omega)
  omega
theorem rep2 {d : D} : (List.replicate (Int.toNat 2) [d]).flatten = [d, d] := rfl
theorem rep3 {d : D} : (List.replicate (Int.toNat 3) [d]).flatten = [d, d, d] := rfl
/-! ### what is asked of days -/
section
variable {h : Int} {gs : List Int} {ps : List P3}
theorem pe_all (tt : PartsOk h ps gs) : ∀ p ∈ ps, 1 ≤ p.2.1 := fun p hp => (tt.mem hp).choose_spec.2.2.2.1
theorem ps_len (ok : PlanOk h gs) (tt : PartsOk h ps gs) : ps.length ≤ 8 := by have := tt.len; have := ok.l8; omega
theorem plain_parts (ps : List P3) : (partsD ps).plain = true := by
  show D.plainAll (ps.map partD) = true
  exact plain_all fun d hd => by obtain ⟨p, _, rfl⟩ := List.mem_map.mp hd; rfl
theorem parts_inj : ∀ {a b : List P3}, a.map partD = b.map partD → a = b
  | [], [], _ => rfl
  | [], _ :: _, h => by cases h
  | _ :: _, [], h => by cases h
  | p :: a, o :: b, h => by
    rw [List.map_cons, List.map_cons] at h
    injection h with h1 h2
    have e := congrArg toP h1
    rw [toP_part, toP_part] at e
    rw [e, parts_inj h2]
theorem sp_dayB {t : Int} (ok : PlanOk h gs) (tt : PartsOk h ps gs) (ap : Apart ps) (t0 : 0 ≤ t) (t1 : t ≤ 1000000000000000000000000000000) (hq : q (dayD (dayIn 0 ps t)) n) : F_day_by Γ [planD h gs, partsD ps, .int t] n q x := by
  refine PL.sp_day_by (Γ := Γ) ok (plain_parts ps) rfl ?_
  rw [if_pos (areParts_of tt ap), if_pos (by simp -implicitDefEqProofs only [isW, Bool.and_eq_true, decide_eq_true_eq]; exact ⟨t0, t1⟩)]
  intro ps' t' e1 e2
  have e1 : ps = ps' := parts_inj (by injection e1)
  injection e2 with e2
  subst e1 e2
  exact hq
theorem sp_nextB {t : Int} {i : Nat} {p : P3} (ok : PlanOk h gs) (tt : PartsOk h ps gs) (ap : Apart ps) (t0 : 0 ≤ t) (t1 : t ≤ 1000000000000000000000000000000) (hp : ps[i]? = some p) (hq : q (.int (nextBy p t)) n) : F_next_by Γ [planD h gs, partsD ps, .int ((i : Nat) : Int), .int t] n q x := by
  have hi := lt_of_get hp
  have pl := tt.len
  refine PL.sp_next_by (Γ := Γ) ok (plain_parts ps) rfl rfl ?_
  rw [if_pos (areParts_of tt ap), if_pos (by simp -implicitDefEqProofs only [isW, Bool.and_eq_true, decide_eq_true_eq]; omega), if_pos (by simp -implicitDefEqProofs only [isW, Bool.and_eq_true, decide_eq_true_eq]; exact ⟨t0, t1⟩)]
  intro ps' i' p' t' e1 e2 e3 e4
  have e1 : ps = ps' := parts_inj (by injection e1)
  injection e2 with e2
  injection e4 with e4
  have e2 : i = i' := by omega
  subst e1 e2 e4
  rw [hp] at e3
  cases e3
  exact hq
theorem sp_rowB {m : Nat} (ok : PlanOk h gs) (tt : PartsOk h ps gs) (ap : Apart ps) (hm : m ≤ 1000) (hq : q (.tup ((List.range m).map fun k => dayD (dayIn 0 ps ((k : Nat) : Int)))) n) : F_row_by Γ [planD h gs, partsD ps, .int ((m : Nat) : Int)] n q x := by
  refine PL.sp_row_by (Γ := Γ) ok (plain_parts ps) rfl ?_
  rw [if_pos (areParts_of tt ap), if_pos (by simp -implicitDefEqProofs only [isW, Bool.and_eq_true, decide_eq_true_eq]; omega)]
  intro ps' m' e1 e2
  have e1 : ps = ps' := parts_inj (by injection e1)
  injection e2 with e2
  have e2 : m = m' := by omega
  subst e1 e2
  exact hq
end
section
variable {n : Nat} {μ : Mu} {h : Int} {gs : List Int} {ps : List P3}
theorem sp_days (ok : PlanOk h gs) (tt : PartsOk h ps gs) (ap : Apart ps) (hn : n + 10 < 2 ^ 40) (hq : ∀ n', n ≤ n' → n' ≤ n + 3 → q (.bl true) ⟨n', μ⟩) : F__law_days_right Γ [.m, planD h gs, partsD ps] ⟨n, μ⟩ q x := by
  have l8 := ps_len ok tt
  have pe := pe_all tt
  wp_walk using F__law_days_right, t__law_days_right
  refine draw_spec (by omega) (lg9 ⟨by omega, by omega⟩) (by omega) fun j1 j10 j11 n1 h11 h12 => ?_
  wp_walk using cp30, e30
  refine draw_spec (by omega) (lg9 ⟨by omega, by omega⟩) (by omega) fun j2 j20 j21 n2 h21 h22 => ?_
  wp_walk using cp9, e9
  refine draw_spec (by omega) (lg9 ⟨by omega, by omega⟩) (by omega) fun j3 j30 j31 n3 h31 h32 => ?_
  wp_walk using cp20, e20
  refine ⟨cmul_l (by omega), ?_⟩
  wp_walk using t__law_days_right_2
  refine for_inv (I := fun ds ρ s => s = ⟨n3, μ⟩ ∧ (∀ d ∈ ds, ∃ t : Int, d = .int t ∧ 0 ≤ t ∧ t ≤ 1000000000000000000000000000000) ∧ ∃ o3 o4 o5 o6 o7 : Option D, ρ = [some .m, some (planD h gs), some (partsD ps), o3, o4, o5, o6, o7]) ?_ ?_ _ _ _ ⟨rfl, fun d hd => ?_, _, _, _, _, _, rfl⟩
  · rintro d ds ρ s k ⟨rfl, hds, o3, o4, o5, o6, o7, rfl⟩ k1 k2
    obtain ⟨t, rfl, t0, t1⟩ := hds d List.mem_cons_self
    have od : Ok 8 1 (dayD (dayIn 0 ps t)) := ok_dayIn (b := 0) (e := 0) l8 t 0 (by decide)
    have rd := (ok3 (b := 8) (e := 1) (b' := 18) (e' := 2) (m := 2) (.cons od (.cons od .nil)) (by simp) (by decide) (by decide)).repr (by decide) (by decide)
    have few := day_few ok tt ap t
    wp_walk using t__law_days_right_3
    refine sp_day (Γ := Γ) pe (by omega) ?_
    wp_walk using t__law_days_right_4
    refine sp_dayB (Γ := Γ) ok tt ap t0 t1 ?_
    wp_walk
    refine sp_dayB (Γ := Γ) ok tt ap t0 t1 ?_
    wp_walk using t__law_days_right_5
    refine ⟨rd, rd, ?_⟩
    wp_walk using decide_true, Bool.true_xor, Bool.not_true, dayD, planD, at0, List.length_map
    rw [decide_eq_false (show ¬ h < (((dayIn 0 ps t).length : Nat) : Int) by omega)]
    wp_walk using t__law_days_right_7, partsD, List.length_map
    refine ⟨by omega, ?_⟩
    rw [Int.toNat_natCast]
    refine forR (m := ps.length) (I := fun j ρ s => s = ⟨n3, μ⟩ ∧ ∃ o5 o7 : Option D, ρ = [some .m, some (planD h gs), some (partsD ps), o3, some (.int t), o5, some (.lst [dayD (dayIn 0 ps t), dayD (dayIn 0 ps t)]), o7]) ?_ ?_ _ _ ⟨rfl, _, _, rfl⟩
    · rintro j ρ s k' hj ⟨rfl, o5, o7, rfl⟩ k1' k2'
      obtain ⟨p, ep⟩ := get_of_len hj
      obtain ⟨g, gm, a1, a2, a3, a4, a5, a6⟩ := tt.mem (List.mem_of_getElem? ep)
      have gg := ok.g g gm
      have ea : L2.atI (ps.map partD) ((j : Nat) : Int) = some (partD p) := at_nat (by rw [List.getElem?_map, ep]; rfl)
      have nl := next_le (p := p) (t := t) a3 t0
      have oi : Ok 0 0 (.int (nextBy p t)) := okI (by omega) (by omega)
      have ri := (ok3 (b := 0) (e := 0) (b' := 2) (e' := 1) (m := 2) (.cons oi (.cons oi .nil)) (by simp) (by decide) (by decide)).repr (by decide) (by decide)
      wp_walk using t__law_days_right_8, partsD
      refine ⟨_, ea, ?_⟩
      wp_walk using partD, at2
      refine ⟨_, ea, ?_⟩
      wp_walk using partD, at1
      refine ⟨by omega, ?_⟩
      rw [show t + (p.2.2 - t).fmod p.2.1 = nextBy p t from rfl]
      wp_walk using t__law_days_right_9
      refine sp_nextB (Γ := Γ) ok tt ap t0 t1 ep ?_
      wp_walk
      refine ⟨⟨by decide, by decide⟩, ?_⟩
      rw [rep2]
      refine ⟨ri, ⟨by decide, by decide⟩, ri, ?_⟩
      wp_walk using decide_true, Bool.true_xor, Bool.not_true
      refine sp_day (Γ := Γ) pe (by omega) ?_
      wp_walk using dayD
      refine ⟨⟨rfl, flat_ints _⟩, ?_⟩
      rw [PL.any_ints, in_day]
      wp_walk using Nat.sub_zero, ep, Nat.zero_le, decide_true, Bool.true_and, next_on a3 a5 a6, Bool.true_xor, Bool.not_true
      exact k1' _ _ ⟨rfl, _, _, rfl⟩
    · rintro ρ s ⟨rfl, o5, o7, rfl⟩
      exact k1 _ _ ⟨rfl, fun e he => hds e (List.mem_cons_of_mem _ he), _, _, _, _, _, rfl⟩
  · rintro ρ s ⟨rfl, _, o3, o4, o5, o6, o7, rfl⟩
    wp_walk using t__law_days_right_11
    exact hq n3 (by omega) (by omega)
  · simp -implicitDefEqProofs only [List.mem_cons, List.not_mem_nil, or_false] at hd
    rcases hd with rfl | rfl | rfl | rfl | rfl | rfl <;> exact ⟨_, rfl, by omega, by omega⟩
/-! ### the row is right -/
theorem ages_step {e r j : Int} (e1 : 1 ≤ e) (r0 : 0 ≤ r) (r1 : r < e) (hn : ¬ j.fmod e = r) : (j - r) % e = (j - 1 - r) % e + 1 := by
  rw [Int.fmod_eq_emod_of_nonneg _ (by omega)] at hn
  have h1 := Int.emod_nonneg (j - 1 - r) (by omega : e ≠ 0)
  have h2 := Int.emod_lt_of_pos (j - 1 - r) (by omega : 0 < e)
  have hd := Int.mul_ediv_add_emod (j - 1 - r) e
  by_cases c : (j - 1 - r) % e = e - 1
  · exfalso
    apply hn
    have : j = r + e * ((j - 1 - r) / e + 1) := by rw [Int.mul_add]; omega
    rw [this, Int.add_mul_emod_self_left]
    exact Int.emod_eq_of_lt r0 r1
  · have e2 : j - r = ((j - 1 - r) % e + 1) + e * ((j - 1 - r) / e) := by omega
    rw [e2, Int.add_mul_emod_self_left]
    rw [Int.emod_eq_of_lt (by omega) (by omega)]
theorem sp_row (ok : PlanOk h gs) (tt : PartsOk h ps gs) (ap : Apart ps) (hn : n + 10 < 2 ^ 40) (hq : ∀ n', n ≤ n' → n' ≤ n + 1 → q (.bl true) ⟨n', μ⟩) : F__law_row_right Γ [.m, planD h gs, partsD ps] ⟨n, μ⟩ q x := by
  have l8 := ps_len ok tt
  have pe := pe_all tt
  have pl := tt.len
  wp_walk using F__law_row_right, t__law_row_right
  refine of_spec (by simp) (by simp) (by omega) fun d hd n1 h11 h12 => ?_
  obtain ⟨m, rfl, hm⟩ : ∃ m : Nat, d = .int ((m : Nat) : Int) ∧ m ≤ 60 := by
    simp -implicitDefEqProofs only [List.mem_cons, List.not_mem_nil, or_false] at hd
    rcases hd with rfl | rfl | rfl | rfl
    · exact ⟨0, rfl, by decide⟩
    · exact ⟨1, rfl, by decide⟩
    · exact ⟨9, rfl, by decide⟩
    · exact ⟨60, rfl, by decide⟩
  obtain ⟨row, hrow⟩ : ∃ row : List D, row = (List.range m).map fun k => dayD (dayIn 0 ps ((k : Nat) : Int)) := ⟨_, rfl⟩
  have rl : row.length = m := by rw [hrow, List.length_map, List.length_range]
  have orow : Ok 540 2 (.tup row) := ok2 (b := 8) (e := 1) (m := 60) (fun d hd => by
    rw [hrow] at hd
    obtain ⟨k, _, rfl⟩ := List.mem_map.mp hd
    exact ok_dayIn (b := 0) (e := 0) l8 _ 0 (by decide)) (by omega) (by decide) (by decide)
  have rr := (ok3 (b := 540) (e := 2) (b' := 1082) (e' := 3) (m := 2) (.cons orow (.cons orow .nil)) (by simp) (by decide) (by decide)).repr (by decide) (by decide)
  wp_walk using t__law_row_right_2
  refine ⟨by omega, by rw [range_len]; omega, lc_map (f := fun d => match d with | .int k => dayD (dayIn 0 ps k) | _ => .non) (fun d hd n k hk => ?_) ?_⟩
  · obtain ⟨j, rfl, _, _⟩ := range_get hd
    rw [s_lc1]
    wp_walk using wipeE
    refine sp_day (Γ := Γ) pe (by omega) ?_
    wp_walk
    exact hk
  have e2 : (rangeD 0 ((m : Nat) : Int).toNat).map (fun d => match d with | .int k => dayD (dayIn 0 ps k) | _ => D.non) = row := by
    rw [hrow, Int.toNat_natCast]
    unfold rangeD
    rw [List.map_map]
    refine List.map_congr_left fun k _ => ?_
    show dayD (dayIn 0 ps (0 + (k : Int))) = _
    rw [Int.zero_add]
  rw [e2]
  wp_walk using t__law_row_right_3
  refine sp_rowB (Γ := Γ) ok tt ap (by omega) ?_
  rw [← hrow]
  wp_walk
  refine sp_rowB (Γ := Γ) ok tt ap (by omega) ?_
  rw [← hrow]
  wp_walk
  refine ⟨rr, rr, ?_⟩
  wp_walk using decide_true, Bool.true_xor, Bool.not_true, t__law_row_right_5
  refine sp_start (Γ := Γ) ok ?_
  wp_walk using t__law_row_right_6
  refine forL (l := row) (I := fun j ρ s => s = ⟨n1, μ⟩ ∧ ∃ ages : List Int, AgOk gs ages ∧ (∀ (i : Nat) (p : P3) (a : Int), ps[i]? = some p → ages[i]? = some a → a ≤ (((j : Nat) : Int) - 1 - p.2.2) % p.2.1) ∧ ∃ o6 o7 : Option D, ρ = [some .m, some (planD h gs), some (partsD ps), some (.int ((m : Nat) : Int)), some (.tup row), some (dayD ages), o6, o7]) ?_ ?_ _ _ ⟨rfl, List.replicate gs.length 0, ?_, ?_, _, _, rfl⟩
  · rintro j d ρ s k hj ⟨rfl, ages, ag, hag, o6, o7, rfl⟩ k1 k2
    have hjm : j < m := by have := lt_of_get hj; omega
    have ed : d = dayD (dayIn 0 ps ((j : Nat) : Int)) := by
      rw [hrow, List.getElem?_map, List.getElem?_range hjm] at hj
      exact (Option.some.inj hj).symm
    subst ed
    have new : ∀ (i : Nat) (p : P3) (a : Int), ps[i]? = some p → (agesL (dayIn 0 ps ((j : Nat) : Int)) ages)[i]? = some a → a ≤ (((j : Nat) : Int) - p.2.2) % p.2.1 := fun i p a ep ea => by
      have hi := lt_of_get ea
      rw [agesL_len] at hi
      obtain ⟨b, eb⟩ := get_of_len hi
      rw [agesL_get eb] at ea
      obtain ⟨g, gm, a1, a2, a3, a4, a5, a6⟩ := tt.mem (List.mem_of_getElem? ep)
      have hb := hag i p b ep eb
      rw [in_day] at ea
      simp -implicitDefEqProofs only [Nat.sub_zero, ep, Nat.zero_le, decide_true, Bool.true_and] at ea
      injection ea with ea
      by_cases c : ((j : Nat) : Int).fmod p.2.1 = p.2.2
      · rw [if_pos (by simpa using c)] at ea
        rw [← ea]
        exact Int.emod_nonneg _ (by omega)
      · rw [if_neg (by simpa using c)] at ea
        rw [ages_step a3 a5 a6 c]
        omega
    have nl : lateL (agesL (dayIn 0 ps ((j : Nat) : Int)) ages) gs = false := by
      cases e : lateL (agesL (dayIn 0 ps ((j : Nat) : Int)) ages) gs with
      | false => rfl
      | true =>
        obtain ⟨i, a, g, h1, h2, h3⟩ := (late_iff _ _).mp e
        obtain ⟨p, ep⟩ := get_of_len (l := ps) (i := i) (by have := lt_of_get h2; omega)
        obtain ⟨g', eg, a1, a2, a3, a4, a5, a6⟩ := tt.at' ep
        rw [h2] at eg
        cases eg
        have z := new i p a ep h1
        have := Int.emod_lt_of_pos (((j : Nat) : Int) - p.2.2) (by omega : 0 < p.2.1)
        omega
    wp_walk using t__law_row_right_7
    refine sp_go (Γ := Γ) ag ok.l8 ?_
    unfold goL
    rw [if_neg (by rw [nl]; decide)]
    wp_walk using t__law_row_right_8, isNon
    refine k1 _ _ ⟨rfl, _, go_ok ag nl, fun i p a ep ea => ?_, _, _, rfl⟩
    have z := new i p a ep ea
    rw [show (((j + 1 : Nat)) : Int) - 1 - p.2.2 = ((j : Nat) : Int) - p.2.2 by omega]
    exact z
  · rintro ρ s ⟨rfl, ages, ag, hag, o6, o7, rfl⟩
    wp_walk using t__law_row_right_10
    exact hq n1 (by omega) (by omega)
  · refine ⟨by rw [List.length_replicate], fun i g a hg ha => ?_⟩
    have e : a = 0 := List.eq_of_mem_replicate (List.mem_of_getElem? ha)
    have := ok.g g (List.mem_of_getElem? hg)
    omega
  · intro i p a ep ea
    have e : a = 0 := List.eq_of_mem_replicate (List.mem_of_getElem? ea)
    obtain ⟨g, gm, a1, a2, a3, a4, a5, a6⟩ := tt.mem (List.mem_of_getElem? ep)
    rw [e]
    exact Int.emod_nonneg _ (by omega)
end
/-! ### what is refused -/
section
variable {p a b c : D} {pl : List D}
theorem day_planX (pp : p.plain = true) (hw : wrongP p = some pl) (h : x ⟨"BadPlan", some (.tup pl)⟩ n) : F_day_by Γ [p, a, b] n q x := by
  wp_walk using F_day_by, t_day_by, F_need_parts, t_need_parts
  refine sp_need (Γ := Γ) pp ?_
  rw [hw]
  exact h
theorem next_planX (pp : p.plain = true) (hw : wrongP p = some pl) (h : x ⟨"BadPlan", some (.tup pl)⟩ n) : F_next_by Γ [p, a, b, c] n q x := by
  wp_walk using F_next_by, t_next_by, F_need_parts, t_need_parts
  refine sp_need (Γ := Γ) pp ?_
  rw [hw]
  exact h
theorem row_planX (pp : p.plain = true) (hw : wrongP p = some pl) (h : x ⟨"BadPlan", some (.tup pl)⟩ n) : F_row_by Γ [p, a, b] n q x := by
  wp_walk using F_row_by, t_row_by, F_need_parts, t_need_parts
  refine sp_need (Γ := Γ) pp ?_
  rw [hw]
  exact h
end
section
variable {h : Int} {gs : List Int} {d e a : D}
theorem day_X (ok : PlanOk h gs) (hp : d.plain = true) (he : e.isE = false) (nn : ¬ arePartsD h gs d = true) (hx : x ⟨"BadParts", some d⟩ n) : F_day_by Γ [planD h gs, d, e] n q x := PL.sp_day_by (Γ := Γ) ok hp he (by rw [if_neg nn]; exact hx)
theorem day_N (ok : PlanOk h gs) (hp : d.plain = true) (he : e.isE = false) (yes : arePartsD h gs d = true) (nn : ¬ isW 0 1000000000000000000000000000000 e = true) (hx : x ⟨"BadNumber", some e⟩ n) : F_day_by Γ [planD h gs, d, e] n q x := PL.sp_day_by (Γ := Γ) ok hp he (by rw [if_pos yes, if_neg nn]; exact hx)
theorem row_X (ok : PlanOk h gs) (hp : d.plain = true) (he : e.isE = false) (nn : ¬ arePartsD h gs d = true) (hx : x ⟨"BadParts", some d⟩ n) : F_row_by Γ [planD h gs, d, e] n q x := PL.sp_row_by (Γ := Γ) ok hp he (by rw [if_neg nn]; exact hx)
theorem row_N (ok : PlanOk h gs) (hp : d.plain = true) (he : e.isE = false) (yes : arePartsD h gs d = true) (nn : ¬ isW 0 1000 e = true) (hx : x ⟨"BadNumber", some e⟩ n) : F_row_by Γ [planD h gs, d, e] n q x := PL.sp_row_by (Γ := Γ) ok hp he (by rw [if_pos yes, if_neg nn]; exact hx)
theorem next_X (ok : PlanOk h gs) (hp : d.plain = true) (ha : a.isE = false) (he : e.isE = false) (nn : ¬ arePartsD h gs d = true) (hx : x ⟨"BadParts", some d⟩ n) : F_next_by Γ [planD h gs, d, a, e] n q x := PL.sp_next_by (Γ := Γ) ok hp ha he (by rw [if_neg nn]; exact hx)
theorem next_T (ok : PlanOk h gs) (hp : d.plain = true) (ha : a.isE = false) (he : e.isE = false) (yes : arePartsD h gs d = true) (nn : ¬ isW 0 ((gs.length : Nat) - 1) a = true) (hx : x ⟨"BadNumber", some a⟩ n) : F_next_by Γ [planD h gs, d, a, e] n q x := PL.sp_next_by (Γ := Γ) ok hp ha he (by rw [if_pos yes, if_neg nn]; exact hx)
theorem next_N (ok : PlanOk h gs) (hp : d.plain = true) (ha : a.isE = false) (he : e.isE = false) (yes : arePartsD h gs d = true) (y2 : isW 0 ((gs.length : Nat) - 1) a = true) (nn : ¬ isW 0 1000000000000000000000000000000 e = true) (hx : x ⟨"BadNumber", some e⟩ n) : F_next_by Γ [planD h gs, d, a, e] n q x := PL.sp_next_by (Γ := Γ) ok hp ha he (by rw [if_pos yes, if_pos y2, if_neg nn]; exact hx)
end
theorem pair_ok {w d : D} (hw : okB 8 4 w = true) (hd : Ok 400 6 d) : Ok 802 7 (.tup [w, d]) := ok2 (b := 400) (e := 6) (m := 2) (.cons (okB' hw (by decide) (by decide)) (.cons hd .nil)) (by simp) (by decide) (by decide)
theorem two_ok {d : D} (hd : Ok 802 7 d) : reprOk (.lst [d, d]) := (ok3 (b := 802) (e := 7) (b' := 1606) (e' := 8) (m := 2) (.cons hd (.cons hd .nil)) (by simp) (by decide) (by decide)).repr (by decide) (by decide)
theorem three_ok {d : D} (hd : Ok 802 7 d) : reprOk (.lst [d, d, d]) := (ok3 (b := 802) (e := 7) (b' := 2409) (e' := 8) (m := 3) (.cons hd (.cons hd (.cons hd .nil))) (by simp) (by decide) (by decide)).repr (by decide) (by decide)
section
variable {n : Nat} {μ : Mu} {h : Int} {gs : List Int} {ps : List P3}
theorem ok_partsS (ok : PlanOk h gs) (tt : PartsOk h ps gs) : AllOk 3 1 (ps.map partD) := fun d hd => by
  obtain ⟨p, hp, rfl⟩ := List.mem_map.mp hd
  obtain ⟨g, gm, a1, a2, a3, a4, a5, a6⟩ := tt.mem hp
  have := ok.g g gm
  have := ok.h3
  exact ok2 (b := 0) (e := 0) (m := 3) (.cons (okI (by omega) (by omega)) (.cons (okI (by omega) (by omega)) (.cons (okI (by omega) (by omega)) .nil))) (by simp) (by decide) (by decide)
/-- what is no parts -/
theorem no_parts_len {l : List D} (hl : l.length ≠ gs.length) : arePartsD h gs (.tup l) = false := by
  show (decide (l.length = gs.length) && _) = false
  rw [decide_eq_false hl]; rfl
theorem no_parts_last {l : List D} (hl : l.length + 1 = gs.length) : arePartsD h gs (.tup (l ++ [.non])) = false := by
  have key : ∀ (l : List D) (gs : List Int), l.length + 1 = gs.length → partsW h (l ++ [.non]) gs = false := fun l => by
    induction l with
    | nil => intro gs hl; cases gs with
      | nil => cases hl
      | cons g gs => rfl
    | cons d l ih => intro gs hl; cases gs with
      | nil => cases hl
      | cons g gs => rw [List.cons_append, partsW, ih gs (by simpa using hl), Bool.and_false]
  show (decide _ && (partsW h (l ++ [.non]) gs && _)) = false
  rw [key l gs hl, Bool.false_and, Bool.and_false]
theorem sp_refused (ok : PlanOk h gs) (tt : PartsOk h ps gs) (ap : Apart ps) (hq : q (.bl true) ⟨n, μ⟩) : F__law_refused_right Γ [planD h gs, partsD ps] ⟨n, μ⟩ q x := by
  have l8 := ps_len ok tt
  have gl1 := ok.l1
  have pl := tt.len
  have pall := ok_partsS ok tt
  have yes := areParts_of tt ap
  wp_walk using F__law_refused_right, t__law_refused_right
  refine for_inv (I := fun ds ρ s => s = ⟨n, μ⟩ ∧ (∀ d ∈ ds, ∃ (o : D) (pl : List D), d = .tup [o, .tup pl] ∧ o.plain = true ∧ wrongP o = some pl ∧ cmpR (.lst [.tup [.str "plan", .tup pl], .tup [.str "plan", .tup pl], .tup [.str "plan", .tup pl]]) (.lst [.tup [.str "plan", .tup pl], .tup [.str "plan", .tup pl], .tup [.str "plan", .tup pl]]) = some true) ∧ ∃ o2 o3 o4 : Option D, ρ = [some (planD h gs), some (partsD ps), o2, o3, o4]) ?_ ?_ _ _ _ ⟨rfl, fun d hd => ?_, _, _, _, rfl⟩
  · rintro d ds ρ s k ⟨rfl, hds, o2, o3, o4, rfl⟩ k1 k2
    obtain ⟨o, pl', rfl, op, ow, oc⟩ := hds d List.mem_cons_self
    wp_walk using t__law_refused_right_2
    refine lam3 (p := o) (a := .non) (b := .non) (fun h => by wp_walk; exact h) (fun h => by wp_walk; exact h) (fun h => by wp_walk; exact h) (fun f Hs0 Θ => day_planX op ow (x_plan ?_))
    wp_walk
    refine lam4 (p := o) (a := .non) (b := .non) (c := .non) (fun h => by wp_walk; exact h) (fun h => by wp_walk; exact h) (fun h => by wp_walk; exact h) (fun h => by wp_walk; exact h) (fun f Hs0 Θ => next_planX op ow (x_plan ?_))
    wp_walk using t__law_refused_right_3
    refine lam3 (p := o) (a := .non) (b := .non) (fun h => by wp_walk; exact h) (fun h => by wp_walk; exact h) (fun h => by wp_walk; exact h) (fun f Hs0 Θ => row_planX op ow (x_plan ?_))
    wp_walk
    refine ⟨⟨by decide, by decide⟩, ?_⟩
    rw [rep3]
    refine f_cmpD (r := true) oc ?_
    wp_walk using Bool.true_xor, Bool.not_true
    exact k1 _ _ ⟨rfl, fun e he => hds e (List.mem_cons_of_mem _ he), _, _, _, rfl⟩
  · rintro ρ s ⟨rfl, _, o2, o3, o4, rfl⟩
    wp_walk using t__law_refused_right_5, partsD, List.length_map
    have c0 : cut (ps.map partD) none (some (-1)) = (ps.map partD).take (ps.length - 1) := by
      unfold cut
      rw [HT.sIx_none, List.drop_zero, Nat.sub_zero, List.length_map]
      congr 1
      show (if (-1 : Int) < 0 then ((-1 : Int) + (ps.length : Int)).toNat else min (Int.toNat (-1)) ps.length) = _
      rw [if_pos (by decide)]
      omega
    rw [c0]
    have lt : ((ps.map partD).take (ps.length - 1)).length = ps.length - 1 := by rw [List.length_take, List.length_map]; omega
    refine ⟨by omega, ?_⟩
    refine ⟨by rw [lt]; omega, ?_⟩
    refine for_inv (I := fun ds ρ s => s = ⟨n, μ⟩ ∧ (∀ d ∈ ds, Ok 400 6 d ∧ arePartsD h gs d = false) ∧ ∃ o2 o3 o4 : Option D, ρ = [some (planD h gs), some (partsD ps), o2, o3, o4]) ?_ ?_ _ _ _ ⟨rfl, fun d hd => ?_, _, _, _, rfl⟩
    · rintro d ds ρ s k ⟨rfl, hds, o2, o3, o4, rfl⟩ k1 k2
      obtain ⟨od, nd⟩ := hds d List.mem_cons_self
      have po : Ok 802 7 (.tup [.str "parts", d]) := pair_ok (by decide +kernel) od
      have r3 := three_ok po
      have nn : ¬ arePartsD h gs d = true := by rw [nd]; decide
      wp_walk using t__law_refused_right_6
      refine lam3 (p := planD h gs) (a := d) (b := .non) (fun h => by wp_walk; exact h) (fun h => by wp_walk; exact h) (fun h => by wp_walk; exact h) (fun f Hs0 Θ => day_X ok od.plain rfl nn (x_parts ?_))
      wp_walk
      refine lam4 (p := planD h gs) (a := d) (b := .non) (c := .non) (fun h => by wp_walk; exact h) (fun h => by wp_walk; exact h) (fun h => by wp_walk; exact h) (fun h => by wp_walk; exact h) (fun f Hs0 Θ => next_X ok od.plain rfl rfl nn (x_parts ?_))
      wp_walk using t__law_refused_right_7
      refine lam3 (p := planD h gs) (a := d) (b := .non) (fun h => by wp_walk; exact h) (fun h => by wp_walk; exact h) (fun h => by wp_walk; exact h) (fun f Hs0 Θ => row_X ok od.plain rfl nn (x_parts ?_))
      wp_walk
      refine ⟨r3, ⟨by decide, by decide⟩, ?_⟩
      rw [rep3]
      refine ⟨r3, ?_⟩
      wp_walk using decide_true, Bool.true_xor, Bool.not_true
      exact k1 _ _ ⟨rfl, fun e he => hds e (List.mem_cons_of_mem _ he), _, _, _, rfl⟩
    · rintro ρ s ⟨rfl, _, o2, o3, o4, rfl⟩
      wp_walk using t__law_refused_right_9, cp30, e30
      refine for_inv (I := fun ds ρ s => s = ⟨n, μ⟩ ∧ (∀ d ∈ ds, Ok 400 6 d ∧ isW 0 1000000000000000000000000000000 d = false) ∧ ∃ o2 o3 o4 : Option D, ρ = [some (planD h gs), some (partsD ps), o2, o3, o4]) ?_ ?_ _ _ _ ⟨rfl, fun d hd => ?_, _, _, _, rfl⟩
      · rintro d ds ρ s k ⟨rfl, hds, o2, o3, o4, rfl⟩ k1 k2
        obtain ⟨od, nd⟩ := hds d List.mem_cons_self
        have po : Ok 802 7 (.tup [.str "number", d]) := pair_ok (by decide +kernel) od
        have r2 := two_ok po
        have nn : ¬ isW 0 1000000000000000000000000000000 d = true := by rw [nd]; decide
        wp_walk using t__law_refused_right_10
        refine lam3 (p := planD h gs) (a := partsD ps) (b := d) (fun h => by wp_walk; exact h) (fun h => by wp_walk; exact h) (fun h => by wp_walk; exact h) (fun f Hs0 Θ => day_N ok (plain_parts ps) (noE od.plain) yes nn (x_number ?_))
        wp_walk
        refine lam4 (p := planD h gs) (a := partsD ps) (b := .int 0) (c := d) (fun h => by wp_walk; exact h) (fun h => by wp_walk; exact h) (fun h => by wp_walk; exact h) (fun h => by wp_walk; exact h) (fun f Hs0 Θ => next_N ok (plain_parts ps) rfl (noE od.plain) yes (by simp -implicitDefEqProofs only [isW, Bool.and_eq_true, decide_eq_true_eq]; omega) nn (x_number ?_))
        wp_walk using t__law_refused_right_11
        refine ⟨r2, ⟨by decide, by decide⟩, ?_⟩
        rw [rep2]
        refine ⟨r2, ?_⟩
        wp_walk using decide_true, Bool.true_xor, Bool.not_true
        exact k1 _ _ ⟨rfl, fun e he => hds e (List.mem_cons_of_mem _ he), _, _, _, rfl⟩
      · rintro ρ s ⟨rfl, _, o2, o3, o4, rfl⟩
        wp_walk using t__law_refused_right_13, partsD, List.length_map
        refine for_inv (I := fun ds ρ s => s = ⟨n, μ⟩ ∧ (∀ d ∈ ds, Ok 400 6 d ∧ isW 0 ((gs.length : Nat) - 1) d = false) ∧ ∃ o2 o3 o4 : Option D, ρ = [some (planD h gs), some (partsD ps), o2, o3, o4]) ?_ ?_ _ _ _ ⟨rfl, fun d hd => ?_, _, _, _, rfl⟩
        · rintro d ds ρ s k ⟨rfl, hds, o2, o3, o4, rfl⟩ k1 k2
          obtain ⟨od, nd⟩ := hds d List.mem_cons_self
          have po : Ok 802 7 (.tup [.str "number", d]) := pair_ok (by decide +kernel) od
          have r1 := po.repr (by decide) (by decide)
          have nn : ¬ isW 0 ((gs.length : Nat) - 1) d = true := by rw [nd]; decide
          wp_walk using t__law_refused_right_14
          refine lam4 (p := planD h gs) (a := partsD ps) (b := d) (c := .non) (fun h => by wp_walk; exact h) (fun h => by wp_walk; exact h) (fun h => by wp_walk; exact h) (fun h => by wp_walk; exact h) (fun f Hs0 Θ => next_T ok (plain_parts ps) (noE od.plain) rfl yes nn (x_number ?_))
          wp_walk
          refine ⟨r1, r1, ?_⟩
          wp_walk using decide_true, Bool.true_xor, Bool.not_true
          exact k1 _ _ ⟨rfl, fun e he => hds e (List.mem_cons_of_mem _ he), _, _, _, rfl⟩
        · rintro ρ s ⟨rfl, _, o2, o3, o4, rfl⟩
          wp_walk using t__law_refused_right_16
          refine for_inv (I := fun ds ρ s => s = ⟨n, μ⟩ ∧ (∀ d ∈ ds, Ok 400 6 d ∧ isW 0 1000 d = false) ∧ ∃ o2 o3 o4 : Option D, ρ = [some (planD h gs), some (partsD ps), o2, o3, o4]) ?_ ?_ _ _ _ ⟨rfl, fun d hd => ?_, _, _, _, rfl⟩
          · rintro d ds ρ s k ⟨rfl, hds, o2, o3, o4, rfl⟩ k1 k2
            obtain ⟨od, nd⟩ := hds d List.mem_cons_self
            have po : Ok 802 7 (.tup [.str "number", d]) := pair_ok (by decide +kernel) od
            have r1 := po.repr (by decide) (by decide)
            have nn : ¬ isW 0 1000 d = true := by rw [nd]; decide
            wp_walk using t__law_refused_right_17
            refine lam3 (p := planD h gs) (a := partsD ps) (b := d) (fun h => by wp_walk; exact h) (fun h => by wp_walk; exact h) (fun h => by wp_walk; exact h) (fun f Hs0 Θ => row_N ok (plain_parts ps) (noE od.plain) yes nn (x_number ?_))
            wp_walk
            refine ⟨r1, r1, ?_⟩
            wp_walk using decide_true, Bool.true_xor, Bool.not_true
            exact k1 _ _ ⟨rfl, fun e he => hds e (List.mem_cons_of_mem _ he), _, _, _, rfl⟩
          · rintro ρ s ⟨rfl, _, o2, o3, o4, rfl⟩
            wp_walk using t__law_refused_right_19
            exact hq
          · simp -implicitDefEqProofs only [List.mem_cons, List.not_mem_nil, or_false] at hd
            rcases hd with rfl | rfl | rfl | rfl | rfl | rfl
            · exact ⟨okN, rfl⟩
            · exact ⟨okI (by decide) (by decide), by decide +kernel⟩
            · exact ⟨okI (by decide) (by decide), by decide +kernel⟩
            · exact ⟨okL, rfl⟩
            · exact ⟨okB' (by decide +kernel) (by decide) (by decide), rfl⟩
            · exact ⟨okB' (by decide +kernel) (by decide) (by decide), rfl⟩
        · simp -implicitDefEqProofs only [List.mem_cons, List.not_mem_nil, or_false] at hd
          rcases hd with rfl | rfl | rfl | rfl | rfl
          · exact ⟨okN, rfl⟩
          · exact ⟨okI (by decide) (by decide), by simp -implicitDefEqProofs only [isW, Bool.and_eq_false_iff, decide_eq_false_iff_not]; omega⟩
          · exact ⟨okI (by omega) (by omega), by simp -implicitDefEqProofs only [isW, Bool.and_eq_false_iff, decide_eq_false_iff_not]; omega⟩
          · exact ⟨okL, rfl⟩
          · exact ⟨okB' (by decide +kernel) (by decide) (by decide), rfl⟩
      · simp -implicitDefEqProofs only [List.mem_cons, List.not_mem_nil, or_false] at hd
        rcases hd with rfl | rfl | rfl | rfl | rfl | rfl
        · exact ⟨okN, rfl⟩
        · exact ⟨okI (by decide) (by decide), by decide +kernel⟩
        · exact ⟨okI (by decide) (by decide), by decide +kernel⟩
        · exact ⟨okL, rfl⟩
        · exact ⟨okB' (by decide +kernel) (by decide) (by decide), rfl⟩
        · exact ⟨okB' (by decide +kernel) (by decide) (by decide), rfl⟩
    · simp -implicitDefEqProofs only [List.mem_cons, List.not_mem_nil, or_false] at hd
      rcases hd with rfl | rfl | rfl | rfl | rfl | rfl | rfl | rfl
      · exact ⟨okN, rfl⟩
      · exact ⟨okB' (by decide +kernel) (by decide) (by decide), no_parts_len (by simp; omega)⟩
      · exact ⟨ok3 (b := 3) (e := 1) (m := 8) pall (by rw [List.length_map]; exact l8) (by decide) (by decide), rfl⟩
      · exact ⟨ok2 (b := 3) (e := 1) (m := 8) (pall.take _) (by rw [lt]; omega) (by decide) (by decide), no_parts_len (by rw [lt]; omega)⟩
      · exact ⟨ok2 (b := 3) (e := 1) (m := 16) (pall.append pall) (by rw [List.length_append, List.length_map]; omega) (by decide) (by decide), no_parts_len (by rw [List.length_append, List.length_map]; omega)⟩
      · exact ⟨ok2 (b := 3) (e := 1) (m := 9) ((pall.take _).append (.cons okN .nil)) (by rw [List.length_append, lt]; simp; omega) (by decide) (by decide), no_parts_last (by rw [lt]; omega)⟩
      · exact ⟨okB' (by decide +kernel) (by decide) (by decide), rfl⟩
      · exact ⟨okB' (by decide +kernel) (by decide) (by decide), rfl⟩
  · simp -implicitDefEqProofs only [List.mem_cons, List.not_mem_nil, or_false] at hd
    rcases hd with rfl | rfl | rfl
    · exact ⟨_, _, rfl, by decide +kernel, by rfl, by decide +kernel⟩
    · exact ⟨_, _, rfl, by decide +kernel, by rfl, by decide +kernel⟩
    · exact ⟨_, _, rfl, by decide +kernel, by rfl, by decide +kernel⟩
end
/-! ### the law -/
def okH : PlanOk 1 [2, 4, 5] := planOk_of (by decide +kernel)
def psH : List P3 := [(0, 2, 0), (0, 4, 1), (0, 4, 3)]
theorem ttH : PartsOk 1 psH [2, 4, 5] := .cons (by decide) (by decide) (by decide) (by decide) (by decide) (by decide) (.cons (by decide) (by decide) (by decide) (by decide) (by decide) (by decide) (.cons (by decide) (by decide) (by decide) (by decide) (by decide) (by decide) .nil))
theorem apH : Apart psH := (meets_iff psH).mp (by decide +kernel)
theorem law_true (Γ : Gam) (ns : List Int) (hn : ns.length ≤ 63) : F_law Γ [.scr ns] ⟨0, fun _ => none⟩ (fun d _ => d = .bl true) fun _ _ => False := by
  obtain ⟨μ, hμ⟩ : ∃ μ : Mu, μ = fun _ => none := ⟨_, rfl⟩
  rw [← hμ]
  wp_walk using F_law, t_law
  obtain ⟨N, hN⟩ : ∃ N : Int, N = 3 + (if (5 : Int) < (ns.length : Nat) then 5 else ((ns.length : Nat) : Int)) := ⟨_, rfl⟩
  have hN2 : 0 ≤ N ∧ N ≤ 8 := by rw [hN]; split <;> omega
  rw [← hN]
  refine ⟨by omega, ?_⟩
  refine forR (m := N.toNat) (I := fun j ρ s => ∃ m, s = ⟨m, μ⟩ ∧ m ≤ j * 1000 ∧ ∃ o1 o2 o3 o4 o5 o6 : Option D, ρ = [some (.scr ns), o1, o2, o3, o4, o5, o6]) ?_ ?_ _ _ ⟨0, rfl, by omega, _, _, _, _, _, _, rfl⟩
  · rintro j ρ s k hj ⟨m, rfl, hm, o1, o2, o3, o4, o5, o6, rfl⟩ k1 k2
    wp_walk using t_law_2
    refine begun_spec hn (by omega) (by omega) ?_
    wp_walk using t_law_3
    refine sp_made (Γ := Γ) (by omega) fun h gs ps n1 ok tt hap hg h11 h12 => ?_
    have rk : reprOk (.lst [planD h gs, partsD ps]) := (ok3 (b := 32) (e := 3) (b' := 66) (e' := 4) (m := 2) (.cons ((ok_plan ok).mono (by decide) (by decide)) (.cons (ok2 (b := 3) (e := 1) (m := 8) (ok_partsS ok tt) (by rw [List.length_map]; exact ps_len ok tt) (by decide) (by decide)) .nil)) (by simp) (by decide) (by decide)).repr (by decide) (by decide)
    wp_walk using t_law_4
    refine ⟨rk, ?_⟩
    wp_walk using t_law_5
    refine sp_days (Γ := Γ) ok tt hap (by omega) fun n2 h21 h22 => ?_
    wp_walk
    refine sp_row (Γ := Γ) ok tt hap (by omega) fun n3 h31 h32 => ?_
    wp_walk using t_law_7
    refine sp_refused (Γ := Γ) ok tt hap ?_
    wp_walk
    refine ⟨rk, ?_⟩
    wp_walk using decide_true, Bool.true_xor, Bool.not_true
    exact k1 _ _ ⟨n3, rfl, by omega, _, _, _, _, _, _, rfl⟩
  · rintro ρ s ⟨m, rfl, hm, o1, o2, o3, o4, o5, o6, rfl⟩
    wp_walk using t_law_9, t_law_10
    refine sp_rowB (Γ := Γ) (m := 5) okH ttH apH (by decide) ?_
    wp_walk
    refine sp_nextB (Γ := Γ) (i := 2) (p := (0, 4, 3)) (t := 4) okH ttH apH (by decide) (by decide) rfl ?_
    wp_walk using cp30, e30
    refine sp_dayB (Γ := Γ) (t := 1000000000000000000000000000000) okH ttH apH (by decide) (by decide) ?_
    wp_walk using t_law_11
    refine f_cmpD (r := true) (by decide +kernel) ?_
    wp_walk using Bool.false_xor
    refine sp_rowB (Γ := Γ) (m := 1000) okH ttH apH (by decide) ?_
    wp_walk using List.length_map, List.length_range
    rfl
end K13

namespace K13
open PySem PySem.Spec L2 OE
def top (i : Nat) : Stmt := PySem.Challenge.pw_oftenenough_k13_days_by_parts.main.body.getD i (.Pass ⟨0, 0, 0, 0⟩)
/-- what the written part says of the names -/
structure Txt (Γ : Gam) (P : Program) (K : PySem.W.Frag) (mg : Str → Option Value) : Prop where
  b_all : mg "all" = none
  b_any : mg "any" = none
  b_bool : mg "bool" = none
  b_enumerate : mg "enumerate" = none
  b_int : mg "int" = none
  b_isinstance : mg "isinstance" = none
  b_len : mg "len" = none
  b_list : mg "list" = none
  b_min : mg "min" = none
  b_range : mg "range" = none
  b_repr : mg "repr" = none
  b_tuple : mg "tuple" = none
  b_zip : mg "zip" = none
  c_MOST_HANDS : ∃ t, mg "MOST_HANDS" = some (.int 3 t)
  c_MOST_THINGS : ∃ t, mg "MOST_THINGS" = some (.int 8 t)
  c_MOST_GAP : ∃ t, mg "MOST_GAP" = some (.int 1000000000000000000000000000000 t)
  c_MOST_ROW : ∃ t, mg "MOST_ROW" = some (.int 1000 t)
  x_BadPlan : ExG Γ P K mg "BadPlan"
  x_BadNumber : ExG Γ P K mg "BadNumber"
  x_BadParts : ExG Γ P K mg "BadParts"
  k_TurnError : CatchG Γ K mg "TurnError" mt_TurnError
  flds : XFs K Γ
  i_BadPlan : KindG Γ K mg "BadPlan" mt_BadPlan
  i_BadNumber : KindG Γ K mg "BadNumber" mt_BadNumber
  i_BadParts : KindG Γ K mg "BadParts" mt_BadParts
  xis : XIs K Γ
  tru : True
section
variable [TN] {Γ : Gam} {P : Program} {w : World} {K : PySem.W.Frag} {mg : Str → Option Value} {base : Heap}
abbrev s_is_whole : Stmt := top 9
theorem S_is_whole : FnScope ["value", "least", "most"] ["value", "least", "most"] (defScope s_is_whole) := ⟨rfl, rfl, rfl, by decide +kernel, rfl, by decide +kernel, by decide +kernel⟩
theorem fn_is_whole {f : Addr} {fd : FuncData} (T : Txt Γ P K mg)  (F : Fun K "is_whole" "is_whole" s_is_whole f fd) (hm : mg "is_whole" = some (.ref f)) (hb : Binds K fd ["value", "least", "most"] []) : Fn Γ P w K mg base "is_whole" 1 3 (F_is_whole Γ) := by
  refine fn_of F hm hb S_is_whole rfl fun cdv hcd A outer s H E hr hg tk hp => ?_
  have hN := S_is_whole.nd
  have hu := unit64 hr
  have hu1 := unit1 hr
  exact db_one (ds_ret (d_and (d_isi (T := "int") (by unfold isiT; simp) T.b_isinstance T.b_int PyProof.Rows.boot_int (d_var 0 (pv 0))) (d_and (d_not (d_isi (T := "bool") (by unfold isiT; simp) T.b_isinstance T.b_bool PyProof.Rows.boot_bool (d_var 0 (pv 0)))) (d_one (d_lele (d_var 1 (pv 1)) (d_var 0 (pv 0)) (d_var 2 (pv 2)))))))
abbrev s_need_plan : Stmt := top 10
theorem S_need_plan : FnScope ["thing", "number", "gap"] ["thing"] (defScope s_need_plan) := ⟨rfl, rfl, rfl, by decide +kernel, rfl, by decide +kernel, by decide +kernel⟩
theorem fn_need_plan {f : Addr} {fd : FuncData} (T : Txt Γ P K mg) (f_is_whole : Fn Γ P w K mg base "is_whole" 1 3 (F_is_whole Γ)) (F : Fun K "need_plan" "need_plan" s_need_plan f fd) (hm : mg "need_plan" = some (.ref f)) (hb : Binds K fd ["thing"] []) : Fn Γ P w K mg base "need_plan" 2 1 (F_need_plan Γ) := by
  refine fn_of F hm hb S_need_plan rfl fun cdv hcd A outer s H E hr hg tk hp => ?_
  have hN := S_need_plan.nd
  have hu := unit64 hr
  have hu1 := unit1 hr
  exact db_cons (ds_if ((dw_or (dt_not (dt_val (d_isi (T := "tuple") (by unfold isiT; simp) T.b_isinstance T.b_tuple PyProof.Rows.boot_tuple (d_var 0 (pv 0))))) (dw_or1 (dt_ne hu (d_len T.b_len (da_cons (d_var 0 (pv 0)) (da_nil))) (d_int)))).dt) (db_one (ds_raiseG T.x_BadPlan hr tk (da_cons (d_tup (da_nil)) (da_nil)))) (db_nil))
    (db_cons (ds_if (dt_not (dt_val (d_call f_is_whole (hr.mono (by decide)) hg tk (da_cons (d_item (d_var 0 (pv 0)) (d_int)) (da_cons (d_int) (da_cons (d_cint T.c_MOST_HANDS) (da_nil))))))) (db_one (ds_raiseG T.x_BadPlan hr tk (da_cons (d_tup (da_cons (d_int) (da_nil))) (da_nil)))) (db_nil))
    (db_cons (ds_if ((dw_or (dt_not (dt_val (d_isi (T := "tuple") (by unfold isiT; simp) T.b_isinstance T.b_tuple PyProof.Rows.boot_tuple (d_item (d_var 0 (pv 0)) (d_int))))) (dw_or1 (dt_not (dt_lele (d_int) (d_len T.b_len (da_cons (d_item (d_var 0 (pv 0)) (d_int)) (da_nil))) (d_cint T.c_MOST_THINGS))))).dt) (db_one (ds_raiseG T.x_BadPlan hr tk (da_cons (d_tup (da_cons (d_int) (da_nil))) (da_nil)))) (db_nil))
    (db_cons (ds_for hp (di_enum T.b_enumerate (da_cons (d_item (d_var 0 (pv 0)) (d_int)) (da_nil))) (dg_tup (dgs_cons (dg_name 1 hN) (dgs_cons (dg_name 2 hN) (dgs_nil)))) (db_one (ds_if (dt_not (dt_val (d_call f_is_whole (hr.mono (by decide)) hg tk (da_cons (d_var 2 (pv 2)) (da_cons (d_int) (da_cons (d_cint T.c_MOST_GAP) (da_nil))))))) (db_one (ds_raiseG T.x_BadPlan hr tk (da_cons (d_tup (da_cons (d_int) (da_cons (d_var 1 (pv 1)) (da_nil)))) (da_nil)))) (db_nil))))
    (db_one (ds_ret (d_var 0 (pv 0)))))))
abbrev s_common : Stmt := top 11
theorem S_common : FnScope ["one", "other"] ["one", "other"] (defScope s_common) := ⟨rfl, rfl, rfl, by decide +kernel, rfl, by decide +kernel, by decide +kernel⟩
theorem fn_common {f : Addr} {fd : FuncData} (T : Txt Γ P K mg)  (F : Fun K "common" "common" s_common f fd) (hm : mg "common" = some (.ref f)) (hb : Binds K fd ["one", "other"] []) : Fn Γ P w K mg base "common" 1 2 (F_common Γ) := by
  refine fn_of F hm hb S_common rfl fun cdv hcd A outer s H E hr hg tk hp => ?_
  have hN := S_common.nd
  have hu := unit64 hr
  have hu1 := unit1 hr
  exact db_cons (ds_while hp (dt_gt (d_var 1 (pv 1)) (d_int)) (db_one (ds_par 0 1 hN (da_cons (d_var 1 (pv 1)) (da_cons (d_mod (d_var 0 (pv 0)) (d_var 1 (pv 1))) (da_nil))))))
    (db_one (ds_ret (d_var 0 (pv 0))))
abbrev s_need_thing : Stmt := top 12
theorem S_need_thing : FnScope ["plan", "number"] ["plan", "number"] (defScope s_need_thing) := ⟨rfl, rfl, rfl, by decide +kernel, rfl, by decide +kernel, by decide +kernel⟩
theorem fn_need_thing {f : Addr} {fd : FuncData} (T : Txt Γ P K mg) (f_is_whole : Fn Γ P w K mg base "is_whole" 1 3 (F_is_whole Γ)) (F : Fun K "need_thing" "need_thing" s_need_thing f fd) (hm : mg "need_thing" = some (.ref f)) (hb : Binds K fd ["plan", "number"] []) : Fn Γ P w K mg base "need_thing" 2 2 (F_need_thing Γ) := by
  refine fn_of F hm hb S_need_thing rfl fun cdv hcd A outer s H E hr hg tk hp => ?_
  have hN := S_need_thing.nd
  have hu := unit64 hr
  have hu1 := unit1 hr
  exact db_one (ds_if (dt_not (dt_val (d_call f_is_whole (hr.mono (by decide)) hg tk (da_cons (d_var 1 (pv 1)) (da_cons (d_int) (da_cons (d_sub (d_len T.b_len (da_cons (d_item (d_var 0 (pv 0)) (d_int)) (da_nil))) (d_int)) (da_nil))))))) (db_one (ds_raiseG T.x_BadNumber hr tk (da_cons (d_var 1 (pv 1)) (da_nil)))) (db_nil))
abbrev s_is_part : Stmt := top 15
theorem S_is_part : FnScope ["plan", "number", "value"] ["plan", "number", "value"] (defScope s_is_part) := ⟨rfl, rfl, rfl, by decide +kernel, rfl, by decide +kernel, by decide +kernel⟩
theorem fn_is_part {f : Addr} {fd : FuncData} (T : Txt Γ P K mg) (f_is_whole : Fn Γ P w K mg base "is_whole" 1 3 (F_is_whole Γ)) (F : Fun K "is_part" "is_part" s_is_part f fd) (hm : mg "is_part" = some (.ref f)) (hb : Binds K fd ["plan", "number", "value"] []) : Fn Γ P w K mg base "is_part" 2 3 (F_is_part Γ) := by
  refine fn_of F hm hb S_is_part rfl fun cdv hcd A outer s H E hr hg tk hp => ?_
  have hN := S_is_part.nd
  have hu := unit64 hr
  have hu1 := unit1 hr
  exact db_cons (ds_if ((dw_or (dt_not (dt_val (d_isi (T := "tuple") (by unfold isiT; simp) T.b_isinstance T.b_tuple PyProof.Rows.boot_tuple (d_var 2 (pv 2))))) (dw_or (dt_ne hu (d_len T.b_len (da_cons (d_var 2 (pv 2)) (da_nil))) (d_int)) (dw_or1 (dt_not (dt_val (d_call f_is_whole (hr.mono (by decide)) hg tk (da_cons (d_item (d_var 2 (pv 2)) (d_int)) (da_cons (d_int) (da_cons (d_sub (d_item (d_var 0 (pv 0)) (d_int)) (d_int)) (da_nil)))))))))).dt) (db_one (ds_ret (d_bl))) (db_nil))
    (db_one (ds_ret (d_and (d_call f_is_whole (hr.mono (by decide)) hg tk (da_cons (d_item (d_var 2 (pv 2)) (d_int)) (da_cons (d_int) (da_cons (d_item (d_item (d_var 0 (pv 0)) (d_int)) (d_var 1 (pv 1))) (da_nil))))) (d_one (d_call f_is_whole (hr.mono (by decide)) hg tk (da_cons (d_item (d_var 2 (pv 2)) (d_int)) (da_cons (d_int) (da_cons (d_sub (d_item (d_var 2 (pv 2)) (d_int)) (d_int)) (da_nil)))))))))
abbrev s_do_meet : Stmt := top 16
theorem S_do_meet : FnScope ["one", "other"] ["one", "other"] (defScope s_do_meet) := ⟨rfl, rfl, rfl, by decide +kernel, rfl, by decide +kernel, by decide +kernel⟩
theorem fn_do_meet {f : Addr} {fd : FuncData} (T : Txt Γ P K mg) (f_common : Fn Γ P w K mg base "common" 1 2 (F_common Γ)) (F : Fun K "do_meet" "do_meet" s_do_meet f fd) (hm : mg "do_meet" = some (.ref f)) (hb : Binds K fd ["one", "other"] []) : Fn Γ P w K mg base "do_meet" 2 2 (F_do_meet Γ) := by
  refine fn_of F hm hb S_do_meet rfl fun cdv hcd A outer s H E hr hg tk hp => ?_
  have hN := S_do_meet.nd
  have hu := unit64 hr
  have hu1 := unit1 hr
  exact db_one (ds_ret (d_and (d_eq hu (d_item (d_var 0 (pv 0)) (d_int)) (d_item (d_var 1 (pv 1)) (d_int))) (d_one (d_eq hu (d_mod (d_sub (d_item (d_var 0 (pv 0)) (d_int)) (d_item (d_var 1 (pv 1)) (d_int))) (d_call f_common (hr.mono (by decide)) hg tk (da_cons (d_item (d_var 0 (pv 0)) (d_int)) (da_cons (d_item (d_var 1 (pv 1)) (d_int)) (da_nil))))) (d_int)))))
abbrev s_are_parts_of : Stmt := top 17
theorem S_are_parts_of : FnScope ["plan", "value", "number", "part", "one", "other"] ["plan", "value"] (defScope s_are_parts_of) := ⟨rfl, rfl, rfl, by decide +kernel, rfl, by decide +kernel, by decide +kernel⟩
theorem fn_are_parts_of {f : Addr} {fd : FuncData} (T : Txt Γ P K mg) (f_do_meet : Fn Γ P w K mg base "do_meet" 2 2 (F_do_meet Γ)) (f_is_part : Fn Γ P w K mg base "is_part" 2 3 (F_is_part Γ)) (F : Fun K "are_parts_of" "are_parts_of" s_are_parts_of f fd) (hm : mg "are_parts_of" = some (.ref f)) (hb : Binds K fd ["plan", "value"] []) : Fn Γ P w K mg base "are_parts_of" 3 2 (F_are_parts_of Γ) := by
  refine fn_of F hm hb S_are_parts_of rfl fun cdv hcd A outer s H E hr hg tk hp => ?_
  have hN := S_are_parts_of.nd
  have hu := unit64 hr
  have hu1 := unit1 hr
  exact db_cons (ds_if ((dw_or (dt_not (dt_val (d_isi (T := "tuple") (by unfold isiT; simp) T.b_isinstance T.b_tuple PyProof.Rows.boot_tuple (d_var 1 (pv 1))))) (dw_or1 (dt_ne hu (d_len T.b_len (da_cons (d_var 1 (pv 1)) (da_nil))) (d_len T.b_len (da_cons (d_item (d_var 0 (pv 0)) (d_int)) (da_nil)))))).dt) (db_one (ds_ret (d_bl))) (db_nil))
    (db_cons (ds_if (dt_not (dt_val (d_all T.b_all (da_cons (d_lc hN (own := [("number", 2), ("part", 3)]) (blkOk_by (by first | rfl | with_unfolding_all rfl | kernel_rfl)) (di_enum T.b_enumerate (da_cons (d_var 1 (pv 1)) (da_nil))) (fun _ _ _ _ _ => dg_tup (dgs_cons (dg_name 2 hN) (dgs_cons (dg_name 3 hN) (dgs_nil)))) (fun _ _ _ _ _ => dts_nil) (fun _ _ _ _ _ => d_call f_is_part (hr.mono (by decide)) hg takes0 (da_cons (d_var 0 (pv 0)) (da_cons (d_var 2 (pv 2)) (da_cons (d_var 3 (pv 3)) (da_nil)))))) (da_nil))))) (db_one (ds_ret (d_bl))) (db_nil))
    (db_one (ds_ret (d_not (d_any T.b_any (da_cons (d_lc2 (own := [("number", 2), ("one", 4), ("other", 5)]) [5] hN (blkOk_by (by first | rfl | with_unfolding_all rfl | kernel_rfl)) (di_enum T.b_enumerate (da_cons (d_var 1 (pv 1)) (da_nil))) (fun _ _ _ _ _ => dg_tup (dgs_cons (dg_name 2 hN) (dgs_cons (dg_name 4 hN) (dgs_nil)))) (fun _ _ _ _ _ => dts_nil) (fun _ _ _ _ _ => di_seq (d_slice (d_var 1 (pv 1)) (do_none) (do_some (d_var 2 (pv 2))))) (fun _ _ _ _ _ => dg_name 5 hN) (fun _ _ _ _ _ => dts_nil) (fun _ _ _ _ _ => d_call f_do_meet (hr.mono (by decide)) hg takes0 (da_cons (d_var 4 (pv 4)) (da_cons (d_var 5 (pv 5)) (da_nil))))) (da_nil)))))))
abbrev s_need_parts : Stmt := top 18
theorem S_need_parts : FnScope ["plan", "parts"] ["plan", "parts"] (defScope s_need_parts) := ⟨rfl, rfl, rfl, by decide +kernel, rfl, by decide +kernel, by decide +kernel⟩
theorem fn_need_parts {f : Addr} {fd : FuncData} (T : Txt Γ P K mg) (f_are_parts_of : Fn Γ P w K mg base "are_parts_of" 3 2 (F_are_parts_of Γ)) (f_need_plan : Fn Γ P w K mg base "need_plan" 2 1 (F_need_plan Γ)) (F : Fun K "need_parts" "need_parts" s_need_parts f fd) (hm : mg "need_parts" = some (.ref f)) (hb : Binds K fd ["plan", "parts"] []) : Fn Γ P w K mg base "need_parts" 4 2 (F_need_parts Γ) := by
  refine fn_of F hm hb S_need_parts rfl fun cdv hcd A outer s H E hr hg tk hp => ?_
  have hN := S_need_parts.nd
  have hu := unit64 hr
  have hu1 := unit1 hr
  exact db_cons (ds_expr (d_call f_need_plan (hr.mono (by decide)) hg tk (da_cons (d_var 0 (pv 0)) (da_nil))))
    (db_cons (ds_if (dt_not (dt_val (d_call f_are_parts_of (hr.mono (by decide)) hg tk (da_cons (d_var 0 (pv 0)) (da_cons (d_var 1 (pv 1)) (da_nil)))))) (db_one (ds_raiseG T.x_BadParts hr tk (da_cons (d_var 1 (pv 1)) (da_nil)))) (db_nil))
    (db_one (ds_ret (d_var 1 (pv 1)))))
abbrev s_need_day : Stmt := top 19
theorem S_need_day : FnScope ["value", "most"] ["value", "most"] (defScope s_need_day) := ⟨rfl, rfl, rfl, by decide +kernel, rfl, by decide +kernel, by decide +kernel⟩
theorem fn_need_day {f : Addr} {fd : FuncData} (T : Txt Γ P K mg) (f_is_whole : Fn Γ P w K mg base "is_whole" 1 3 (F_is_whole Γ)) (F : Fun K "need_day" "need_day" s_need_day f fd) (hm : mg "need_day" = some (.ref f)) (hb : Binds K fd ["value", "most"] []) : Fn Γ P w K mg base "need_day" 2 2 (F_need_day Γ) := by
  refine fn_of F hm hb S_need_day rfl fun cdv hcd A outer s H E hr hg tk hp => ?_
  have hN := S_need_day.nd
  have hu := unit64 hr
  have hu1 := unit1 hr
  exact db_one (ds_if (dt_not (dt_val (d_call f_is_whole (hr.mono (by decide)) hg tk (da_cons (d_var 0 (pv 0)) (da_cons (d_int) (da_cons (d_var 1 (pv 1)) (da_nil))))))) (db_one (ds_raiseG T.x_BadNumber hr tk (da_cons (d_var 0 (pv 0)) (da_nil)))) (db_nil))
abbrev s_day_in : Stmt := top 20
theorem S_day_in : FnScope ["parts", "day", "number", "part"] ["parts", "day"] (defScope s_day_in) := ⟨rfl, rfl, rfl, by decide +kernel, rfl, by decide +kernel, by decide +kernel⟩
theorem fn_day_in {f : Addr} {fd : FuncData} (T : Txt Γ P K mg)  (F : Fun K "day_in" "day_in" s_day_in f fd) (hm : mg "day_in" = some (.ref f)) (hb : Binds K fd ["parts", "day"] []) : Fn Γ P w K mg base "day_in" 1 2 (F_day_in Γ) := by
  refine fn_of F hm hb S_day_in rfl fun cdv hcd A outer s H E hr hg tk hp => ?_
  have hN := S_day_in.nd
  have hu := unit64 hr
  have hu1 := unit1 hr
  exact db_one (ds_ret (d_tuple T.b_tuple (da_cons (d_lc hN (own := [("number", 2), ("part", 3)]) (blkOk_by (by first | rfl | with_unfolding_all rfl | kernel_rfl)) (di_enum T.b_enumerate (da_cons (d_var 0 (pv 0)) (da_nil))) (fun _ _ _ _ _ => dg_tup (dgs_cons (dg_name 2 hN) (dgs_cons (dg_name 3 hN) (dgs_nil)))) (fun _ _ _ _ _ => dts_one (dt_eq (by exact hu) (d_mod (d_var 1 (pv 1)) (d_item (d_var 3 (pv 3)) (d_int))) (d_item (d_var 3 (pv 3)) (d_int)))) (fun _ _ _ _ _ => d_var 2 (pv 2))) (da_nil))))
abbrev s_day_by : Stmt := top 21
theorem S_day_by : FnScope ["plan", "parts", "day"] ["plan", "parts", "day"] (defScope s_day_by) := ⟨rfl, rfl, rfl, by decide +kernel, rfl, by decide +kernel, by decide +kernel⟩
theorem fn_day_by {f : Addr} {fd : FuncData} (T : Txt Γ P K mg) (f_day_in : Fn Γ P w K mg base "day_in" 1 2 (F_day_in Γ)) (f_need_day : Fn Γ P w K mg base "need_day" 2 2 (F_need_day Γ)) (f_need_parts : Fn Γ P w K mg base "need_parts" 4 2 (F_need_parts Γ)) (F : Fun K "day_by" "day_by" s_day_by f fd) (hm : mg "day_by" = some (.ref f)) (hb : Binds K fd ["plan", "parts", "day"] []) : Fn Γ P w K mg base "day_by" 5 3 (F_day_by Γ) := by
  refine fn_of F hm hb S_day_by rfl fun cdv hcd A outer s H E hr hg tk hp => ?_
  have hN := S_day_by.nd
  have hu := unit64 hr
  have hu1 := unit1 hr
  exact db_cons (ds_expr (d_call f_need_parts (hr.mono (by decide)) hg tk (da_cons (d_var 0 (pv 0)) (da_cons (d_var 1 (pv 1)) (da_nil)))))
    (db_cons (ds_expr (d_call f_need_day (hr.mono (by decide)) hg tk (da_cons (d_var 2 (pv 2)) (da_cons (d_cint T.c_MOST_GAP) (da_nil)))))
    (db_one (ds_ret (d_call f_day_in (hr.mono (by decide)) hg tk (da_cons (d_var 1 (pv 1)) (da_cons (d_var 2 (pv 2)) (da_nil)))))))
abbrev s_next_by : Stmt := top 22
theorem S_next_by : FnScope ["plan", "parts", "number", "day", "hand", "every", "start"] ["plan", "parts", "number", "day"] (defScope s_next_by) := ⟨rfl, rfl, rfl, by decide +kernel, rfl, by decide +kernel, by decide +kernel⟩
theorem fn_next_by {f : Addr} {fd : FuncData} (T : Txt Γ P K mg) (f_need_day : Fn Γ P w K mg base "need_day" 2 2 (F_need_day Γ)) (f_need_thing : Fn Γ P w K mg base "need_thing" 2 2 (F_need_thing Γ)) (f_need_parts : Fn Γ P w K mg base "need_parts" 4 2 (F_need_parts Γ)) (F : Fun K "next_by" "next_by" s_next_by f fd) (hm : mg "next_by" = some (.ref f)) (hb : Binds K fd ["plan", "parts", "number", "day"] []) : Fn Γ P w K mg base "next_by" 5 4 (F_next_by Γ) := by
  refine fn_of F hm hb S_next_by rfl fun cdv hcd A outer s H E hr hg tk hp => ?_
  have hN := S_next_by.nd
  have hu := unit64 hr
  have hu1 := unit1 hr
  exact db_cons (ds_expr (d_call f_need_parts (hr.mono (by decide)) hg tk (da_cons (d_var 0 (pv 0)) (da_cons (d_var 1 (pv 1)) (da_nil)))))
    (db_cons (ds_expr (d_call f_need_thing (hr.mono (by decide)) hg tk (da_cons (d_var 0 (pv 0)) (da_cons (d_var 2 (pv 2)) (da_nil)))))
    (db_cons (ds_expr (d_call f_need_day (hr.mono (by decide)) hg tk (da_cons (d_var 3 (pv 3)) (da_cons (d_cint T.c_MOST_GAP) (da_nil)))))
    (db_cons (ds_asg (d_item (d_var 1 (pv 1)) (d_var 2 (pv 2))) (dg_tup (dgs_cons (dg_name 4 hN) (dgs_cons (dg_name 5 hN) (dgs_cons (dg_name 6 hN) (dgs_nil))))))
    (db_one (ds_ret (d_add (d_var 3 (pv 3)) (d_mod (d_sub (d_var 6 (pv 6)) (d_var 3 (pv 3))) (d_var 5 (pv 5)))))))))
abbrev s_row_by : Stmt := top 23
theorem S_row_by : FnScope ["plan", "parts", "many", "day"] ["plan", "parts", "many"] (defScope s_row_by) := ⟨rfl, rfl, rfl, by decide +kernel, rfl, by decide +kernel, by decide +kernel⟩
theorem fn_row_by {f : Addr} {fd : FuncData} (T : Txt Γ P K mg) (f_day_in : Fn Γ P w K mg base "day_in" 1 2 (F_day_in Γ)) (f_need_day : Fn Γ P w K mg base "need_day" 2 2 (F_need_day Γ)) (f_need_parts : Fn Γ P w K mg base "need_parts" 4 2 (F_need_parts Γ)) (F : Fun K "row_by" "row_by" s_row_by f fd) (hm : mg "row_by" = some (.ref f)) (hb : Binds K fd ["plan", "parts", "many"] []) : Fn Γ P w K mg base "row_by" 5 3 (F_row_by Γ) := by
  refine fn_of F hm hb S_row_by rfl fun cdv hcd A outer s H E hr hg tk hp => ?_
  have hN := S_row_by.nd
  have hu := unit64 hr
  have hu1 := unit1 hr
  exact db_cons (ds_expr (d_call f_need_parts (hr.mono (by decide)) hg tk (da_cons (d_var 0 (pv 0)) (da_cons (d_var 1 (pv 1)) (da_nil)))))
    (db_cons (ds_expr (d_call f_need_day (hr.mono (by decide)) hg tk (da_cons (d_var 2 (pv 2)) (da_cons (d_cint T.c_MOST_ROW) (da_nil)))))
    (db_one (ds_ret (d_tuple T.b_tuple (da_cons (d_lc hN (own := [("day", 3)]) (blkOk_by (by first | rfl | with_unfolding_all rfl | kernel_rfl)) (di_range1 T.b_range (da_cons (d_var 2 (pv 2)) (da_nil))) (fun _ _ _ _ _ => dg_name 3 hN) (fun _ _ _ _ _ => dts_nil) (fun _ _ _ _ _ => d_call f_day_in (hr.mono (by decide)) hg takes0 (da_cons (d_var 1 (pv 1)) (da_cons (d_var 3 (pv 3)) (da_nil))))) (da_nil))))))
abbrev s__law_begun : Stmt := top 25
theorem S__law_begun : FnScope ["script", "k", "cells", "great", "seed", "cell"] ["script", "k"] (defScope s__law_begun) := ⟨rfl, rfl, rfl, by decide +kernel, rfl, by decide +kernel, by decide +kernel⟩
theorem fn__law_begun {f : Addr} {fd : FuncData} (T : Txt Γ P K mg)  (F : Fun K "_law_begun" "_law_begun" s__law_begun f fd) (hm : mg "_law_begun" = some (.ref f)) (hb : Binds K fd ["script", "k"] []) : Fn Γ P w K mg base "_law_begun" 1 2 (F__law_begun Γ) := by
  refine fn_of F hm hb S__law_begun rfl fun cdv hcd A outer s H E hr hg tk hp => ?_
  have hN := S__law_begun.nd
  have hu := unit64 hr
  have hu1 := unit1 hr
  exact db_cons (ds_set 2 hN (d_add (d_slice (d_var 0 (pv 0)) (do_some (d_var 1 (pv 1))) (do_none)) (d_slice (d_var 0 (pv 0)) (do_none) (do_some (d_var 1 (pv 1))))))
    (db_cons (ds_setLc 3 hN (own := [("cell", 5)]) (blkOk_by (by first | rfl | with_unfolding_all rfl | kernel_rfl)) (di_seq (d_var 2 (pv 2))) (fun _ _ _ _ _ => dg_name 5 hN) (fun _ _ _ _ _ => dts_one (dt_ge (d_var 5 (pv 5)) (d_pow (d_int) (d_int)))) (fun _ _ _ _ _ => d_var 5 (pv 5)) (sw_true rfl rfl rfl (by decide +kernel)))
    (db_cons (ds_set 4 hN (d_add (d_int) (d_var 1 (pv 1))))
    (db_cons (ds_for hp (di_seq (d_var 2 (pv 2))) (dg_name 5 hN) (db_one (ds_set 4 hN (d_mod (d_toInt T.b_int (da_cons (d_add (d_mul (d_var 4 (pv 4)) (d_int)) (d_var 5 (pv 5))) (da_nil))) (d_int)))))
    (db_one (ds_ret (d_dictM (dp_cons (d_if (dt_ne hu (d_var 3 (pv 3)) (d_lst (da_nil))) (d_item (d_var 3 (pv 3)) (d_int)) (d_int)) (dp_cons (d_var 4 (pv 4)) (dp_cons (d_add (d_var 2 (pv 2)) (d_lst (da_cons (d_add (d_mul (d_int) (d_var 1 (pv 1))) (d_int)) (da_nil)))) (dp_cons (d_int) (dp_nil)))))))))))
abbrev s__law_draw : Stmt := top 26
theorem S__law_draw : FnScope ["m", "many", "found", "spot", "cells", "added", "cell", "blend"] ["m", "many"] (defScope s__law_draw) := ⟨rfl, rfl, rfl, by decide +kernel, rfl, by decide +kernel, by decide +kernel⟩
theorem fn__law_draw {f : Addr} {fd : FuncData} (T : Txt Γ P K mg)  (F : Fun K "_law_draw" "_law_draw" s__law_draw f fd) (hm : mg "_law_draw" = some (.ref f)) (hb : Binds K fd ["m", "many"] []) : Fn Γ P w K mg base "_law_draw" 1 2 (F__law_draw Γ) := by
  refine fn_of F hm hb S__law_draw rfl fun cdv hcd A outer s H E hr hg tk hp => ?_
  have hN := S__law_draw.nd
  have hu := unit64 hr
  have hu1 := unit1 hr
  exact db_cons (ds_if (dt_gt (d_getS hu1 (d_var 0 (pv 0))) (d_int)) (db_cons (ds_set 2 hN (d_mod (d_toInt T.b_int (da_cons (d_getS hu1 (d_var 0 (pv 0))) (da_nil))) (d_var 1 (pv 1))))
    (db_cons (ds_putM hu1 (d_var 0 (pv 0)) (d_div (d_getS hu1 (d_var 0 (pv 0))) (d_var 1 (pv 1))))
    (db_one (ds_ret (d_var 2 (pv 2)))))) (db_nil))
    (db_cons (ds_set 3 hN (d_getS hu1 (d_var 0 (pv 0))))
    (db_cons (ds_putM hu1 (d_var 0 (pv 0)) (d_add (d_var 3 (pv 3)) (d_int)))
    (db_cons (ds_par 4 5 hN (da_cons (d_getS hu1 (d_var 0 (pv 0))) (da_cons (d_add (d_getS hu1 (d_var 0 (pv 0))) (d_mul (d_mul (d_int) (d_var 3 (pv 3))) (d_var 3 (pv 3)))) (da_nil))))
    (db_cons (ds_set 6 hN (d_item (d_var 4 (pv 4)) (d_mod (d_toInt T.b_int (da_cons (d_var 3 (pv 3)) (da_nil))) (d_len T.b_len (da_cons (d_var 4 (pv 4)) (da_nil))))))
    (db_cons (ds_set 7 hN (d_mod (d_toInt T.b_int (da_cons (d_add (d_mul (d_var 6 (pv 6)) (d_add (d_mul (d_int) (d_var 3 (pv 3))) (d_int))) (d_var 5 (pv 5))) (da_nil))) (d_int)))
    (db_cons (ds_set 7 hN (d_mod (d_toInt T.b_int (da_cons (d_add (d_add (d_mul (d_var 7 (pv 7)) (d_var 7 (pv 7))) (d_mul (d_int) (d_var 3 (pv 3)))) (d_getS hu1 (d_var 0 (pv 0)))) (da_nil))) (d_int)))
    (db_one (ds_ret (d_mod (d_div (d_mod (d_toInt T.b_int (da_cons (d_add (d_mul (d_var 7 (pv 7)) (d_int)) (d_var 3 (pv 3))) (da_nil))) (d_int)) (d_int)) (d_var 1 (pv 1)))))))))))
abbrev s__law_of : Stmt := top 27
theorem S__law_of : FnScope ["m", "some"] ["m", "some"] (defScope s__law_of) := ⟨rfl, rfl, rfl, by decide +kernel, rfl, by decide +kernel, by decide +kernel⟩
theorem fn__law_of {f : Addr} {fd : FuncData} (T : Txt Γ P K mg) (f__law_draw : Fn Γ P w K mg base "_law_draw" 1 2 (F__law_draw Γ)) (F : Fun K "_law_of" "_law_of" s__law_of f fd) (hm : mg "_law_of" = some (.ref f)) (hb : Binds K fd ["m", "some"] []) : Fn Γ P w K mg base "_law_of" 2 2 (F__law_of Γ) := by
  refine fn_of F hm hb S__law_of rfl fun cdv hcd A outer s H E hr hg tk hp => ?_
  have hN := S__law_of.nd
  have hu := unit64 hr
  have hu1 := unit1 hr
  exact db_one (ds_ret (d_item (d_var 1 (pv 1)) (d_call f__law_draw (hr.mono (by decide)) hg tk (da_cons (d_var 0 (pv 0)) (da_cons (d_len T.b_len (da_cons (d_var 1 (pv 1)) (da_nil))) (da_nil))))))
abbrev s__law_go : Stmt := top 28
theorem S__law_go : FnScope ["frame", "ages", "lot", "later", "over", "k", "age", "gap"] ["frame", "ages", "lot"] (defScope s__law_go) := ⟨rfl, rfl, rfl, by decide +kernel, rfl, by decide +kernel, by decide +kernel⟩
theorem fn__law_go {f : Addr} {fd : FuncData} (T : Txt Γ P K mg)  (F : Fun K "_law_go" "_law_go" s__law_go f fd) (hm : mg "_law_go" = some (.ref f)) (hb : Binds K fd ["frame", "ages", "lot"] []) : Fn Γ P w K mg base "_law_go" 1 3 (F__law_go Γ) := by
  refine fn_of F hm hb S__law_go rfl fun cdv hcd A outer s H E hr hg tk hp => ?_
  have hN := S__law_go.nd
  have hu := unit64 hr
  have hu1 := unit1 hr
  exact db_cons (ds_set 3 hN (d_tuple T.b_tuple (da_cons (d_lc hN (own := [("k", 5), ("age", 6)]) (blkOk_by (by first | rfl | with_unfolding_all rfl | kernel_rfl)) (di_enum T.b_enumerate (da_cons (d_var 1 (pv 1)) (da_nil))) (fun _ _ _ _ _ => dg_tup (dgs_cons (dg_name 5 hN) (dgs_cons (dg_name 6 hN) (dgs_nil)))) (fun _ _ _ _ _ => dts_nil) (fun _ _ _ _ _ => d_if (dt_in (d_var 5 (pv 5)) (d_var 2 (pv 2))) (d_int) (d_add (d_var 6 (pv 6)) (d_int)))) (da_nil))))
    (db_cons (ds_setLc 4 hN (own := [("age", 6), ("gap", 7)]) (blkOk_by (by first | rfl | with_unfolding_all rfl | kernel_rfl)) (di_zip T.b_zip (da_cons (d_var 3 (pv 3)) (da_cons (d_item (d_var 0 (pv 0)) (d_int)) (da_nil)))) (fun _ _ _ _ _ => dg_tup (dgs_cons (dg_name 6 hN) (dgs_cons (dg_name 7 hN) (dgs_nil)))) (fun _ _ _ _ _ => dts_one (dt_ge (d_var 6 (pv 6)) (d_var 7 (pv 7)))) (fun _ _ _ _ _ => d_int) (sw_true rfl rfl rfl (by decide +kernel)))
    (db_one (ds_ret (d_if (dt_ne hu (d_var 4 (pv 4)) (d_lst (da_nil))) (d_non) (d_var 3 (pv 3))))))
abbrev s__law_start : Stmt := top 29
theorem S__law_start : FnScope ["frame"] ["frame"] (defScope s__law_start) := ⟨rfl, rfl, rfl, by decide +kernel, rfl, by decide +kernel, by decide +kernel⟩
theorem fn__law_start {f : Addr} {fd : FuncData} (T : Txt Γ P K mg)  (F : Fun K "_law_start" "_law_start" s__law_start f fd) (hm : mg "_law_start" = some (.ref f)) (hb : Binds K fd ["frame"] []) : Fn Γ P w K mg base "_law_start" 1 1 (F__law_start Γ) := by
  refine fn_of F hm hb S__law_start rfl fun cdv hcd A outer s H E hr hg tk hp => ?_
  have hN := S__law_start.nd
  have hu := unit64 hr
  have hu1 := unit1 hr
  exact db_one (ds_ret (d_mul (d_tup (da_cons (d_int) (da_nil))) (d_len T.b_len (da_cons (d_item (d_var 0 (pv 0)) (d_int)) (da_nil)))))
abbrev s__law_said : Stmt := top 30
theorem S__law_said : FnScope ["call", "found", "error", "e", "heard"] ["call"] (defScope s__law_said) := ⟨rfl, rfl, rfl, by decide +kernel, rfl, by decide +kernel, by decide +kernel⟩
theorem fn__law_said {f : Addr} {fd : FuncData} (T : Txt Γ P K mg)  (F : Fun K "_law_said" "_law_said" s__law_said f fd) (hm : mg "_law_said" = some (.ref f)) (hb : Binds K fd ["call"] []) : FnC Γ P w K mg base "_law_said" 7 6 1 (F__law_said Γ) := by
  refine fnC_of F hm hb S__law_said rfl fun cdv hcd A outer s H E Θ hr hg tk hp C => ?_
  have hN := S__law_said.nd
  have hu := unit64 hr
  have hu1 := unit1 hr
  exact db_cons (ds_asg (d_tup (da_cons (d_non) (da_cons (d_non) (da_nil)))) (dg_tup (dgs_cons (dg_name 1 hN) (dgs_cons (dg_name 2 hN) (dgs_nil)))))
    (db_cons (ds_trySetG 3 1 hN T.k_TurnError tk (fun _ _ _ tk2 hp2 => d_act 0 C (hr.mono (by decide)) hg tk2) (fun _ _ => db_one (ds_set 2 hN (d_var 3 (pv 3)))))
    (db_cons (ds_if (dt_isN (d_var 2 (pv 2))) (db_one (ds_ret (d_lst (da_cons (d_var 1 (pv 1)) (da_nil))))) (db_nil))
    (db_cons (ds_set 4 hN (d_if (dt_val (d_isx T.xis T.i_BadPlan T.b_isinstance (d_var 2 (pv 2)))) (d_lst (da_cons (d_tup (da_cons (d_str) (da_cons (d_fld T.flds (d_var 2 (pv 2))) (da_nil)))) (da_nil))) (d_lst (da_nil))))
    (db_cons (ds_set 4 hN (d_if (dt_val (d_isx T.xis T.i_BadNumber T.b_isinstance (d_var 2 (pv 2)))) (d_add (d_var 4 (pv 4)) (d_lst (da_cons (d_tup (da_cons (d_str) (da_cons (d_fld T.flds (d_var 2 (pv 2))) (da_nil)))) (da_nil)))) (d_var 4 (pv 4))))
    (db_cons (ds_set 4 hN (d_if (dt_val (d_isx T.xis T.i_BadParts T.b_isinstance (d_var 2 (pv 2)))) (d_add (d_var 4 (pv 4)) (d_lst (da_cons (d_tup (da_cons (d_str) (da_cons (d_fld T.flds (d_var 2 (pv 2))) (da_nil)))) (da_nil)))) (d_var 4 (pv 4))))
    (db_one (ds_ret (d_if (dt_eq hu (d_len T.b_len (da_cons (d_var 4 (pv 4)) (da_nil))) (d_int)) (d_item (d_var 4 (pv 4)) (d_int)) (d_tup (da_cons (d_str) (da_nil)))))))))))
abbrev s__law_common : Stmt := top 31
theorem S__law_common : FnScope ["near", "far"] ["near", "far"] (defScope s__law_common) := ⟨rfl, rfl, rfl, by decide +kernel, rfl, by decide +kernel, by decide +kernel⟩
theorem fn__law_common {f : Addr} {fd : FuncData} (T : Txt Γ P K mg)  (F : Fun K "_law_common" "_law_common" s__law_common f fd) (hm : mg "_law_common" = some (.ref f)) (hb : Binds K fd ["near", "far"] []) : Fn Γ P w K mg base "_law_common" 1 2 (F__law_common Γ) := by
  refine fn_of F hm hb S__law_common rfl fun cdv hcd A outer s H E hr hg tk hp => ?_
  have hN := S__law_common.nd
  have hu := unit64 hr
  have hu1 := unit1 hr
  exact db_cons (ds_while hp (dt_gt (d_var 1 (pv 1)) (d_int)) (db_one (ds_par 0 1 hN (da_cons (d_var 1 (pv 1)) (da_cons (d_mod (d_toInt T.b_int (da_cons (d_var 0 (pv 0)) (da_nil))) (d_toInt T.b_int (da_cons (d_var 1 (pv 1)) (da_nil)))) (da_nil))))))
    (db_one (ds_ret (d_var 0 (pv 0))))
abbrev s__law_meet : Stmt := top 32
theorem S__law_meet : FnScope ["near", "far", "days", "k"] ["near", "far"] (defScope s__law_meet) := ⟨rfl, rfl, rfl, by decide +kernel, rfl, by decide +kernel, by decide +kernel⟩
theorem fn__law_meet {f : Addr} {fd : FuncData} (T : Txt Γ P K mg) (f__law_common : Fn Γ P w K mg base "_law_common" 1 2 (F__law_common Γ)) (F : Fun K "_law_meet" "_law_meet" s__law_meet f fd) (hm : mg "_law_meet" = some (.ref f)) (hb : Binds K fd ["near", "far"] []) : Fn Γ P w K mg base "_law_meet" 2 2 (F__law_meet Γ) := by
  refine fn_of F hm hb S__law_meet rfl fun cdv hcd A outer s H E hr hg tk hp => ?_
  have hN := S__law_meet.nd
  have hu := unit64 hr
  have hu1 := unit1 hr
  exact db_cons (ds_if (dt_ne hu (d_item (d_var 0 (pv 0)) (d_int)) (d_item (d_var 1 (pv 1)) (d_int))) (db_one (ds_ret (d_bl))) (db_nil))
    (db_cons (ds_if (dt_le (d_mul (d_item (d_var 0 (pv 0)) (d_int)) (d_item (d_var 1 (pv 1)) (d_int))) (d_int)) (db_cons (ds_setLc 2 hN (own := [("k", 3)]) (blkOk_by (by first | rfl | with_unfolding_all rfl | kernel_rfl)) (di_range1 T.b_range (da_cons (d_mul (d_item (d_var 0 (pv 0)) (d_int)) (d_item (d_var 1 (pv 1)) (d_int))) (da_nil))) (fun _ _ _ _ _ => dg_name 3 hN) (fun _ _ _ _ _ => dts_one ((dw_and (dt_eq (by exact hu) (d_mod (d_toInt T.b_int (da_cons (d_var 3 (pv 3)) (da_nil))) (d_item (d_var 0 (pv 0)) (d_int))) (d_item (d_var 0 (pv 0)) (d_int))) (dw_and1 (dt_eq (by exact hu) (d_mod (d_toInt T.b_int (da_cons (d_var 3 (pv 3)) (da_nil))) (d_item (d_var 1 (pv 1)) (d_int))) (d_item (d_var 1 (pv 1)) (d_int))))).dt)) (fun _ _ _ _ _ => d_var 3 (pv 3)) (sw_true rfl rfl rfl (by decide +kernel)))
    (db_one (ds_ret (d_ne hu (d_var 2 (pv 2)) (d_lst (da_nil)))))) (db_nil))
    (db_one (ds_ret (d_eq hu (d_mod (d_toInt T.b_int (da_cons (d_sub (d_item (d_var 0 (pv 0)) (d_int)) (d_item (d_var 1 (pv 1)) (d_int))) (da_nil))) (d_call f__law_common (hr.mono (by decide)) hg tk (da_cons (d_item (d_var 0 (pv 0)) (d_int)) (da_cons (d_item (d_var 1 (pv 1)) (d_int)) (da_nil))))) (d_int)))))
abbrev s__law_made : Stmt := top 35
theorem S__law_made : FnScope ["m", "hands", "found", "turn", "every", "own", "sizes", "far"] ["m"] (defScope s__law_made) := ⟨rfl, rfl, rfl, by decide +kernel, rfl, by decide +kernel, by decide +kernel⟩
theorem fn__law_made {f : Addr} {fd : FuncData} (T : Txt Γ P K mg) (f__law_of : Fn Γ P w K mg base "_law_of" 2 2 (F__law_of Γ)) (f__law_draw : Fn Γ P w K mg base "_law_draw" 1 2 (F__law_draw Γ)) (f__law_meet : Fn Γ P w K mg base "_law_meet" 2 2 (F__law_meet Γ)) (F : Fun K "_law_made" "_law_made" s__law_made f fd) (hm : mg "_law_made" = some (.ref f)) (hb : Binds K fd ["m"] []) : Fn Γ P w K mg base "_law_made" 3 1 (F__law_made Γ) := by
  refine fn_of F hm hb S__law_made rfl fun cdv hcd A outer s H E hr hg tk hp => ?_
  have hN := S__law_made.nd
  have hu := unit64 hr
  have hu1 := unit1 hr
  exact db_cons (ds_par 1 2 hN (da_cons (d_add (d_int) (d_call f__law_draw (hr.mono (by decide)) hg tk (da_cons (d_var 0 (pv 0)) (da_cons (d_int) (da_nil))))) (da_cons (d_mlst (da_nil)) (da_nil))))
    (db_cons (ds_for hp (di_range1 T.b_range (da_cons (d_mul (d_int) (d_add (d_int) (d_call f__law_draw (hr.mono (by decide)) hg tk (da_cons (d_var 0 (pv 0)) (da_cons (d_int) (da_nil)))))) (da_nil))) (dg_name 3 hN) (db_cons (ds_set 4 hN (d_call f__law_of (hr.mono (by decide)) hg tk (da_cons (d_var 0 (pv 0)) (da_cons (d_lst (da_cons (d_add (d_int) (d_call f__law_draw (hr.mono (by decide)) hg tk (da_cons (d_var 0 (pv 0)) (da_cons (d_int) (da_nil))))) (da_cons (d_call f__law_of (hr.mono (by decide)) hg tk (da_cons (d_var 0 (pv 0)) (da_cons (d_lst (da_cons (d_int) (da_cons (d_int) (da_cons (d_int) (da_cons (d_int) (da_cons (d_int) (da_nil))))))) (da_nil)))) (da_cons (d_mul (d_pow (d_int) (d_int)) (d_add (d_int) (d_call f__law_draw (hr.mono (by decide)) hg tk (da_cons (d_var 0 (pv 0)) (da_cons (d_int) (da_nil)))))) (da_nil))))) (da_nil)))))
    (db_cons (ds_set 5 hN (d_tup (da_cons (d_call f__law_draw (hr.mono (by decide)) hg tk (da_cons (d_var 0 (pv 0)) (da_cons (d_var 1 (pv 1)) (da_nil)))) (da_cons (d_var 4 (pv 4)) (da_cons (d_call f__law_of (hr.mono (by decide)) hg tk (da_cons (d_var 0 (pv 0)) (da_cons (d_lst (da_cons (d_call f__law_draw (hr.mono (by decide)) hg tk (da_cons (d_var 0 (pv 0)) (da_cons (d_var 4 (pv 4)) (da_nil)))) (da_cons (d_sub (d_var 4 (pv 4)) (d_int)) (da_nil)))) (da_nil)))) (da_nil))))))
    (db_one (ds_if ((dw_and (dt_lt (d_len T.b_len (da_cons (d_var 2 (pv 2)) (da_nil))) (d_int)) (dw_and1 (dt_eq hu (d_lcG hN (own := [("far", 7)]) (blkOk_by (by first | rfl | with_unfolding_all rfl | kernel_rfl)) (dig_seq (d_var 2 (pv 2))) (fun _ _ _ _ _ => dg_name 7 hN) (fun _ _ _ _ _ => dts_one (dt_val (d_call f__law_meet (hr.mono (by decide)) hg takes0 (da_cons (d_var 5 (pv 5)) (da_cons (d_var 7 (pv 7)) (da_nil)))))) (fun _ _ _ _ _ => d_var 7 (pv 7))) (d_lst (da_nil))))).dt) (db_one (ds_expr (d_append (d_var 2 (pv 2)) (d_var 5 (pv 5))))) (db_nil))))))
    (db_frz 2 (db_cons (ds_setLc 6 hN (own := [("own", 5)]) (blkOk_by (by first | rfl | with_unfolding_all rfl | kernel_rfl)) (di_seq (d_var 2 (pv 2))) (fun _ _ _ _ _ => dg_name 5 hN) (fun _ _ _ _ _ => dts_nil) (fun _ _ _ _ _ => d_add (d_item (d_var 5 (pv 5)) (d_int)) (d_call f__law_of (hr.mono (by decide)) hg takes0 (da_cons (d_var 0 (pv 0)) (da_cons (d_lst (da_cons (d_int) (da_cons (d_int) (da_cons (d_int) (da_cons (d_call f__law_draw (hr.mono (by decide)) hg takes0 (da_cons (d_var 0 (pv 0)) (da_cons (d_int) (da_nil)))) (da_cons (d_pow (d_int) (d_int)) (da_nil))))))) (da_nil))))) (sw_true rfl rfl rfl (by decide +kernel)))
    (db_frz 2 (db_one (ds_ret (d_tup (da_cons (d_tup (da_cons (d_var 1 (pv 1)) (da_cons (d_tuple T.b_tuple (da_cons (d_var 6 (pv 6)) (da_nil))) (da_nil)))) (da_cons (d_tuple T.b_tuple (da_cons (d_var 2 (pv 2)) (da_nil))) (da_nil))))))))))
abbrev s__law_day : Stmt := top 36
theorem S__law_day : FnScope ["sheet", "spot", "k"] ["sheet", "spot"] (defScope s__law_day) := ⟨rfl, rfl, rfl, by decide +kernel, rfl, by decide +kernel, by decide +kernel⟩
theorem fn__law_day {f : Addr} {fd : FuncData} (T : Txt Γ P K mg)  (F : Fun K "_law_day" "_law_day" s__law_day f fd) (hm : mg "_law_day" = some (.ref f)) (hb : Binds K fd ["sheet", "spot"] []) : Fn Γ P w K mg base "_law_day" 1 2 (F__law_day Γ) := by
  refine fn_of F hm hb S__law_day rfl fun cdv hcd A outer s H E hr hg tk hp => ?_
  have hN := S__law_day.nd
  have hu := unit64 hr
  have hu1 := unit1 hr
  exact db_one (ds_ret (d_tuple T.b_tuple (da_cons (d_lc hN (own := [("k", 2)]) (blkOk_by (by first | rfl | with_unfolding_all rfl | kernel_rfl)) (di_range1 T.b_range (da_cons (d_len T.b_len (da_cons (d_var 0 (pv 0)) (da_nil))) (da_nil))) (fun _ _ _ _ _ => dg_name 2 hN) (fun _ _ _ _ _ => dts_one (dt_eq (by exact hu) (d_mod (d_toInt T.b_int (da_cons (d_var 1 (pv 1)) (da_nil))) (d_item (d_item (d_var 0 (pv 0)) (d_var 2 (pv 2))) (d_int))) (d_item (d_item (d_var 0 (pv 0)) (d_var 2 (pv 2))) (d_int)))) (fun _ _ _ _ _ => d_var 2 (pv 2))) (da_nil))))
abbrev s__law_days_right : Stmt := top 37
theorem S__law_days_right : FnScope ["m", "frame", "sheet", "spots", "spot", "due", "told", "k"] ["m", "frame", "sheet"] (defScope s__law_days_right) := ⟨rfl, rfl, rfl, by decide +kernel, rfl, by decide +kernel, by decide +kernel⟩
theorem fn__law_days_right {f : Addr} {fd : FuncData} (T : Txt Γ P K mg) (f_next_by : Fn Γ P w K mg base "next_by" 5 4 (F_next_by Γ)) (f__law_day : Fn Γ P w K mg base "_law_day" 1 2 (F__law_day Γ)) (f_day_by : Fn Γ P w K mg base "day_by" 5 3 (F_day_by Γ)) (f__law_draw : Fn Γ P w K mg base "_law_draw" 1 2 (F__law_draw Γ)) (F : Fun K "_law_days_right" "_law_days_right" s__law_days_right f fd) (hm : mg "_law_days_right" = some (.ref f)) (hb : Binds K fd ["m", "frame", "sheet"] []) : Fn Γ P w K mg base "_law_days_right" 6 3 (F__law_days_right Γ) := by
  refine fn_of F hm hb S__law_days_right rfl fun cdv hcd A outer s H E hr hg tk hp => ?_
  have hN := S__law_days_right.nd
  have hu := unit64 hr
  have hu1 := unit1 hr
  exact db_cons (ds_set 3 hN (d_lst (da_cons (d_int) (da_cons (d_int) (da_cons (d_call f__law_draw (hr.mono (by decide)) hg tk (da_cons (d_var 0 (pv 0)) (da_cons (d_int) (da_nil)))) (da_cons (d_pow (d_int) (d_int)) (da_cons (d_sub (d_pow (d_int) (d_int)) (d_call f__law_draw (hr.mono (by decide)) hg tk (da_cons (d_var 0 (pv 0)) (da_cons (d_int) (da_nil))))) (da_cons (d_mul (d_call f__law_draw (hr.mono (by decide)) hg tk (da_cons (d_var 0 (pv 0)) (da_cons (d_pow (d_int) (d_int)) (da_nil)))) (d_pow (d_int) (d_int))) (da_nil)))))))))
    (db_cons (ds_for hp (di_seq (d_var 3 (pv 3))) (dg_name 4 hN) (db_cons (ds_set 5 hN (d_call f__law_day (hr.mono (by decide)) hg tk (da_cons (d_var 2 (pv 2)) (da_cons (d_var 4 (pv 4)) (da_nil)))))
    (db_cons (ds_set 6 hN (d_lst (da_cons (d_call f_day_by (hr.mono (by decide)) hg tk (da_cons (d_var 1 (pv 1)) (da_cons (d_var 2 (pv 2)) (da_cons (d_var 4 (pv 4)) (da_nil))))) (da_cons (d_call f_day_by (hr.mono (by decide)) hg tk (da_cons (d_var 1 (pv 1)) (da_cons (d_var 2 (pv 2)) (da_cons (d_var 4 (pv 4)) (da_nil))))) (da_nil)))))
    (db_cons (ds_if ((dw_or (dt_ne hu (d_repr hg hu T.b_repr (da_cons (d_var 6 (pv 6)) (da_nil))) (d_repr hg hu T.b_repr (da_cons (d_lst (da_cons (d_var 5 (pv 5)) (da_cons (d_var 5 (pv 5)) (da_nil)))) (da_nil)))) (dw_or1 (dt_gt (d_len T.b_len (da_cons (d_var 5 (pv 5)) (da_nil))) (d_item (d_var 1 (pv 1)) (d_int))))).dt) (db_one (ds_ret (d_bl))) (db_nil))
    (db_one (ds_for hp (di_range1 T.b_range (da_cons (d_len T.b_len (da_cons (d_var 2 (pv 2)) (da_nil))) (da_nil))) (dg_name 7 hN) (db_cons (ds_set 5 hN (d_add (d_var 4 (pv 4)) (d_mod (d_toInt T.b_int (da_cons (d_sub (d_item (d_item (d_var 2 (pv 2)) (d_var 7 (pv 7))) (d_int)) (d_var 4 (pv 4))) (da_nil))) (d_item (d_item (d_var 2 (pv 2)) (d_var 7 (pv 7))) (d_int)))))
    (db_one (ds_if ((dw_or (dt_ne hu (d_repr hg hu T.b_repr (da_cons (d_mul (d_lst (da_cons (d_call f_next_by (hr.mono (by decide)) hg tk (da_cons (d_var 1 (pv 1)) (da_cons (d_var 2 (pv 2)) (da_cons (d_var 7 (pv 7)) (da_cons (d_var 4 (pv 4)) (da_nil)))))) (da_nil))) (d_int)) (da_nil))) (d_repr hg hu T.b_repr (da_cons (d_mul (d_lst (da_cons (d_var 5 (pv 5)) (da_nil))) (d_int)) (da_nil)))) (dw_or1 (dt_nin (d_var 7 (pv 7)) (d_call f__law_day (hr.mono (by decide)) hg tk (da_cons (d_var 2 (pv 2)) (da_cons (d_var 5 (pv 5)) (da_nil))))))).dt) (db_one (ds_ret (d_bl))) (db_nil))))))))))
    (db_one (ds_ret (d_bl))))
abbrev s__law_row_right : Stmt := top 38
theorem S__law_row_right : FnScope ["m", "frame", "sheet", "size", "due", "ages", "lot", "k"] ["m", "frame", "sheet"] (defScope s__law_row_right) := ⟨rfl, rfl, rfl, by decide +kernel, rfl, by decide +kernel, by decide +kernel⟩
theorem fn__law_row_right {f : Addr} {fd : FuncData} (T : Txt Γ P K mg) (f__law_go : Fn Γ P w K mg base "_law_go" 1 3 (F__law_go Γ)) (f__law_start : Fn Γ P w K mg base "_law_start" 1 1 (F__law_start Γ)) (f_row_by : Fn Γ P w K mg base "row_by" 5 3 (F_row_by Γ)) (f__law_day : Fn Γ P w K mg base "_law_day" 1 2 (F__law_day Γ)) (f__law_of : Fn Γ P w K mg base "_law_of" 2 2 (F__law_of Γ)) (F : Fun K "_law_row_right" "_law_row_right" s__law_row_right f fd) (hm : mg "_law_row_right" = some (.ref f)) (hb : Binds K fd ["m", "frame", "sheet"] []) : Fn Γ P w K mg base "_law_row_right" 6 3 (F__law_row_right Γ) := by
  refine fn_of F hm hb S__law_row_right rfl fun cdv hcd A outer s H E hr hg tk hp => ?_
  have hN := S__law_row_right.nd
  have hu := unit64 hr
  have hu1 := unit1 hr
  exact db_cons (ds_set 3 hN (d_call f__law_of (hr.mono (by decide)) hg tk (da_cons (d_var 0 (pv 0)) (da_cons (d_lst (da_cons (d_int) (da_cons (d_int) (da_cons (d_int) (da_cons (d_int) (da_nil)))))) (da_nil)))))
    (db_cons (ds_set 4 hN (d_tuple T.b_tuple (da_cons (d_lc hN (own := [("k", 7)]) (blkOk_by (by first | rfl | with_unfolding_all rfl | kernel_rfl)) (di_range1 T.b_range (da_cons (d_var 3 (pv 3)) (da_nil))) (fun _ _ _ _ _ => dg_name 7 hN) (fun _ _ _ _ _ => dts_nil) (fun _ _ _ _ _ => d_call f__law_day (hr.mono (by decide)) hg takes0 (da_cons (d_var 2 (pv 2)) (da_cons (d_var 7 (pv 7)) (da_nil))))) (da_nil))))
    (db_cons (ds_if (dt_ne hu (d_repr hg hu T.b_repr (da_cons (d_lst (da_cons (d_call f_row_by (hr.mono (by decide)) hg tk (da_cons (d_var 1 (pv 1)) (da_cons (d_var 2 (pv 2)) (da_cons (d_var 3 (pv 3)) (da_nil))))) (da_cons (d_call f_row_by (hr.mono (by decide)) hg tk (da_cons (d_var 1 (pv 1)) (da_cons (d_var 2 (pv 2)) (da_cons (d_var 3 (pv 3)) (da_nil))))) (da_nil)))) (da_nil))) (d_repr hg hu T.b_repr (da_cons (d_lst (da_cons (d_var 4 (pv 4)) (da_cons (d_var 4 (pv 4)) (da_nil)))) (da_nil)))) (db_one (ds_ret (d_bl))) (db_nil))
    (db_cons (ds_set 5 hN (d_call f__law_start (hr.mono (by decide)) hg tk (da_cons (d_var 1 (pv 1)) (da_nil))))
    (db_cons (ds_for hp (di_seq (d_var 4 (pv 4))) (dg_name 6 hN) (db_cons (ds_set 5 hN (d_call f__law_go (hr.mono (by decide)) hg tk (da_cons (d_var 1 (pv 1)) (da_cons (d_var 5 (pv 5)) (da_cons (d_var 6 (pv 6)) (da_nil))))))
    (db_one (ds_if (dt_isN (d_var 5 (pv 5))) (db_one (ds_ret (d_bl))) (db_nil)))))
    (db_one (ds_ret (d_bl)))))))
abbrev s__law_refused_right : Stmt := top 39
theorem S__law_refused_right : FnScope ["frame", "sheet", "odd", "place", "told"] ["frame", "sheet"] (defScope s__law_refused_right) := ⟨rfl, rfl, rfl, by decide +kernel, rfl, by decide +kernel, by decide +kernel⟩
theorem fn__law_refused_right {f : Addr} {fd : FuncData} (T : Txt Γ P K mg) (f__law_said : FnC Γ P w K mg base "_law_said" 7 6 1 (F__law_said Γ)) (f_row_by : Fn Γ P w K mg base "row_by" 5 3 (F_row_by Γ)) (f_next_by : Fn Γ P w K mg base "next_by" 5 4 (F_next_by Γ)) (f_day_by : Fn Γ P w K mg base "day_by" 5 3 (F_day_by Γ)) {c P0 : Addr} (hfc : fd.code = .ref c) (TB : LamX.TabB base mg c P0) (hq : TN.nm P0 = some ((PyProof.Rows.envOfC "_law_refused_right" (defScope s__law_refused_right) 0 0 .none).qual ++ "<lambda>")) (F : Fun K "_law_refused_right" "_law_refused_right" s__law_refused_right f fd) (hm : mg "_law_refused_right" = some (.ref f)) (hb : Binds K fd ["frame", "sheet"] []) : Fn Γ P w K mg base "_law_refused_right" 8 2 (F__law_refused_right Γ) := by
  refine fn_of F hm hb S__law_refused_right rfl fun cdv hcd A outer s H E hr hg tk hp => ?_
  have hN := S__law_refused_right.nd
  have hu := unit64 hr
  have hu1 := unit1 hr
  exact db_cons (ds_for hp (di_seq (d_tup (da_cons (d_tup (da_cons (d_non) (da_cons (d_tup (da_nil)) (da_nil)))) (da_cons (d_tup (da_cons (d_tup (da_cons (d_int) (da_cons (d_tup (da_cons (d_int) (da_nil))) (da_nil)))) (da_cons (d_tup (da_cons (d_int) (da_nil))) (da_nil)))) (da_cons (d_tup (da_cons (d_tup (da_cons (d_int) (da_cons (d_tup (da_cons (d_int) (da_nil))) (da_nil)))) (da_cons (d_tup (da_cons (d_int) (da_cons (d_int) (da_nil)))) (da_nil)))) (da_nil)))))) (dg_tup (dgs_cons (dg_name 2 hN) (dgs_cons (dg_name 3 hN) (dgs_nil)))) (db_cons (ds_set 4 hN (d_lst (da_cons (d_lam0 f__law_said TB (hcd.symm.trans hfc) hq (hr.mono (by decide)) hg tk (fun _ _ _ _ _ _ _ hr hg tk => have hu := unit64 hr; have hu1 := unit1 hr; d_call f_day_by (hr.mono (by decide)) hg tk (da_cons (d_var 2 (pv 2)) (da_cons (d_non) (da_cons (d_non) (da_nil)))))) (da_cons (d_lam1 f__law_said TB (hcd.symm.trans hfc) hq (hr.mono (by decide)) hg tk (fun _ _ _ _ _ _ _ hr hg tk => have hu := unit64 hr; have hu1 := unit1 hr; d_call f_next_by (hr.mono (by decide)) hg tk (da_cons (d_var 2 (pv 2)) (da_cons (d_non) (da_cons (d_non) (da_cons (d_non) (da_nil))))))) (da_nil)))))
    (db_one (ds_if (dt_ne hu (d_add (d_var 4 (pv 4)) (d_lst (da_cons (d_lam0 f__law_said TB (hcd.symm.trans hfc) hq (hr.mono (by decide)) hg tk (fun _ _ _ _ _ _ _ hr hg tk => have hu := unit64 hr; have hu1 := unit1 hr; d_call f_row_by (hr.mono (by decide)) hg tk (da_cons (d_var 2 (pv 2)) (da_cons (d_non) (da_cons (d_non) (da_nil)))))) (da_nil)))) (d_mul (d_lst (da_cons (d_tup (da_cons (d_str) (da_cons (d_var 3 (pv 3)) (da_nil)))) (da_nil))) (d_int))) (db_one (ds_ret (d_bl))) (db_nil)))))
    (db_cons (ds_for hp (di_seq (d_tup (da_cons (d_non) (da_cons (d_tup (da_nil)) (da_cons (d_list T.b_list (da_cons (d_var 1 (pv 1)) (da_nil))) (da_cons (d_slice (d_var 1 (pv 1)) (do_none) (do_some (d_neg (d_int)))) (da_cons (d_add (d_var 1 (pv 1)) (d_var 1 (pv 1))) (da_cons (d_add (d_slice (d_var 1 (pv 1)) (do_none) (do_some (d_neg (d_int)))) (d_tup (da_cons (d_non) (da_nil)))) (da_cons (d_dict0) (da_cons (d_str) (da_nil))))))))))) (dg_name 2 hN) (db_cons (ds_set 4 hN (d_lst (da_cons (d_lam0 f__law_said TB (hcd.symm.trans hfc) hq (hr.mono (by decide)) hg tk (fun _ _ _ _ _ _ _ hr hg tk => have hu := unit64 hr; have hu1 := unit1 hr; d_call f_day_by (hr.mono (by decide)) hg tk (da_cons (d_var 0 (pv 0)) (da_cons (d_var 2 (pv 2)) (da_cons (d_non) (da_nil)))))) (da_cons (d_lam1 f__law_said TB (hcd.symm.trans hfc) hq (hr.mono (by decide)) hg tk (fun _ _ _ _ _ _ _ hr hg tk => have hu := unit64 hr; have hu1 := unit1 hr; d_call f_next_by (hr.mono (by decide)) hg tk (da_cons (d_var 0 (pv 0)) (da_cons (d_var 2 (pv 2)) (da_cons (d_non) (da_cons (d_non) (da_nil))))))) (da_nil)))))
    (db_one (ds_if (dt_ne hu (d_repr hg hu T.b_repr (da_cons (d_add (d_var 4 (pv 4)) (d_lst (da_cons (d_lam0 f__law_said TB (hcd.symm.trans hfc) hq (hr.mono (by decide)) hg tk (fun _ _ _ _ _ _ _ hr hg tk => have hu := unit64 hr; have hu1 := unit1 hr; d_call f_row_by (hr.mono (by decide)) hg tk (da_cons (d_var 0 (pv 0)) (da_cons (d_var 2 (pv 2)) (da_cons (d_non) (da_nil)))))) (da_nil)))) (da_nil))) (d_repr hg hu T.b_repr (da_cons (d_mul (d_lst (da_cons (d_tup (da_cons (d_str) (da_cons (d_var 2 (pv 2)) (da_nil)))) (da_nil))) (d_int)) (da_nil)))) (db_one (ds_ret (d_bl))) (db_nil)))))
    (db_cons (ds_for hp (di_seq (d_tup (da_cons (d_non) (da_cons (d_sub (d_int) (d_int)) (da_cons (d_add (d_pow (d_int) (d_int)) (d_int)) (da_cons (d_bl) (da_cons (d_str) (da_cons (d_tup (da_cons (d_int) (da_nil))) (da_nil))))))))) (dg_name 2 hN) (db_cons (ds_set 4 hN (d_lst (da_cons (d_lam0 f__law_said TB (hcd.symm.trans hfc) hq (hr.mono (by decide)) hg tk (fun _ _ _ _ _ _ _ hr hg tk => have hu := unit64 hr; have hu1 := unit1 hr; d_call f_day_by (hr.mono (by decide)) hg tk (da_cons (d_var 0 (pv 0)) (da_cons (d_var 1 (pv 1)) (da_cons (d_var 2 (pv 2)) (da_nil)))))) (da_cons (d_lam1 f__law_said TB (hcd.symm.trans hfc) hq (hr.mono (by decide)) hg tk (fun _ _ _ _ _ _ _ hr hg tk => have hu := unit64 hr; have hu1 := unit1 hr; d_call f_next_by (hr.mono (by decide)) hg tk (da_cons (d_var 0 (pv 0)) (da_cons (d_var 1 (pv 1)) (da_cons (d_int) (da_cons (d_var 2 (pv 2)) (da_nil))))))) (da_nil)))))
    (db_one (ds_if (dt_ne hu (d_repr hg hu T.b_repr (da_cons (d_var 4 (pv 4)) (da_nil))) (d_repr hg hu T.b_repr (da_cons (d_mul (d_lst (da_cons (d_tup (da_cons (d_str) (da_cons (d_var 2 (pv 2)) (da_nil)))) (da_nil))) (d_int)) (da_nil)))) (db_one (ds_ret (d_bl))) (db_nil)))))
    (db_cons (ds_for hp (di_seq (d_tup (da_cons (d_non) (da_cons (d_sub (d_int) (d_int)) (da_cons (d_len T.b_len (da_cons (d_var 1 (pv 1)) (da_nil))) (da_cons (d_bl) (da_cons (d_str) (da_nil)))))))) (dg_name 2 hN) (db_one (ds_if (dt_ne hu (d_repr hg hu T.b_repr (da_cons (d_lam0 f__law_said TB (hcd.symm.trans hfc) hq (hr.mono (by decide)) hg tk (fun _ _ _ _ _ _ _ hr hg tk => have hu := unit64 hr; have hu1 := unit1 hr; d_call f_next_by (hr.mono (by decide)) hg tk (da_cons (d_var 0 (pv 0)) (da_cons (d_var 1 (pv 1)) (da_cons (d_var 2 (pv 2)) (da_cons (d_non) (da_nil))))))) (da_nil))) (d_repr hg hu T.b_repr (da_cons (d_tup (da_cons (d_str) (da_cons (d_var 2 (pv 2)) (da_nil)))) (da_nil)))) (db_one (ds_ret (d_bl))) (db_nil))))
    (db_cons (ds_for hp (di_seq (d_tup (da_cons (d_non) (da_cons (d_sub (d_int) (d_int)) (da_cons (d_int) (da_cons (d_bl) (da_cons (d_str) (da_cons (d_tup (da_cons (d_int) (da_nil))) (da_nil))))))))) (dg_name 2 hN) (db_one (ds_if (dt_ne hu (d_repr hg hu T.b_repr (da_cons (d_lam0 f__law_said TB (hcd.symm.trans hfc) hq (hr.mono (by decide)) hg tk (fun _ _ _ _ _ _ _ hr hg tk => have hu := unit64 hr; have hu1 := unit1 hr; d_call f_row_by (hr.mono (by decide)) hg tk (da_cons (d_var 0 (pv 0)) (da_cons (d_var 1 (pv 1)) (da_cons (d_var 2 (pv 2)) (da_nil)))))) (da_nil))) (d_repr hg hu T.b_repr (da_cons (d_tup (da_cons (d_str) (da_cons (d_var 2 (pv 2)) (da_nil)))) (da_nil)))) (db_one (ds_ret (d_bl))) (db_nil))))
    (db_one (ds_ret (d_bl)))))))
abbrev s_law : Stmt := top 40
theorem S_law : FnScope ["script", "k", "m", "frame", "sheet", "kept", "told"] ["script"] (defScope s_law) := ⟨rfl, rfl, rfl, by decide +kernel, rfl, by decide +kernel, by decide +kernel⟩
theorem fn_law {f : Addr} {fd : FuncData} (T : Txt Γ P K mg) (f_row_by : Fn Γ P w K mg base "row_by" 5 3 (F_row_by Γ)) (f_day_by : Fn Γ P w K mg base "day_by" 5 3 (F_day_by Γ)) (f_next_by : Fn Γ P w K mg base "next_by" 5 4 (F_next_by Γ)) (f__law_refused_right : Fn Γ P w K mg base "_law_refused_right" 8 2 (F__law_refused_right Γ)) (f__law_days_right : Fn Γ P w K mg base "_law_days_right" 6 3 (F__law_days_right Γ)) (f__law_row_right : Fn Γ P w K mg base "_law_row_right" 6 3 (F__law_row_right Γ)) (f__law_made : Fn Γ P w K mg base "_law_made" 3 1 (F__law_made Γ)) (f__law_begun : Fn Γ P w K mg base "_law_begun" 1 2 (F__law_begun Γ)) (F : Fun K "law" "law" s_law f fd) (hm : mg "law" = some (.ref f)) (hb : Binds K fd ["script"] []) : Fn Γ P w K mg base "law" 9 1 (F_law Γ) := by
  refine fn_of F hm hb S_law rfl fun cdv hcd A outer s H E hr hg tk hp => ?_
  have hN := S_law.nd
  have hu := unit64 hr
  have hu1 := unit1 hr
  exact db_cons (ds_for hp (di_range1 T.b_range (da_cons (d_add (d_int) (d_min T.b_min (da_cons (d_len T.b_len (da_cons (d_var 0 (pv 0)) (da_nil))) (da_cons (d_int) (da_nil))))) (da_nil))) (dg_name 1 hN) (db_cons (ds_set 2 hN (d_call f__law_begun (hr.mono (by decide)) hg tk (da_cons (d_var 0 (pv 0)) (da_cons (d_var 1 (pv 1)) (da_nil)))))
    (db_cons (ds_asg (d_call f__law_made (hr.mono (by decide)) hg tk (da_cons (d_var 2 (pv 2)) (da_nil))) (dg_tup (dgs_cons (dg_name 3 hN) (dgs_cons (dg_name 4 hN) (dgs_nil)))))
    (db_cons (ds_set 5 hN (d_repr hg hu T.b_repr (da_cons (d_lst (da_cons (d_var 3 (pv 3)) (da_cons (d_var 4 (pv 4)) (da_nil)))) (da_nil))))
    (db_cons (ds_if ((dw_or (dt_not (dt_val (d_call f__law_days_right (hr.mono (by decide)) hg tk (da_cons (d_var 2 (pv 2)) (da_cons (d_var 3 (pv 3)) (da_cons (d_var 4 (pv 4)) (da_nil))))))) (dw_or1 (dt_not (dt_val (d_call f__law_row_right (hr.mono (by decide)) hg tk (da_cons (d_var 2 (pv 2)) (da_cons (d_var 3 (pv 3)) (da_cons (d_var 4 (pv 4)) (da_nil))))))))).dt) (db_one (ds_ret (d_bl))) (db_nil))
    (db_one (ds_if ((dw_or (dt_not (dt_val (d_call f__law_refused_right (hr.mono (by decide)) hg tk (da_cons (d_var 3 (pv 3)) (da_cons (d_var 4 (pv 4)) (da_nil)))))) (dw_or1 (dt_ne hu (d_repr hg hu T.b_repr (da_cons (d_lst (da_cons (d_var 3 (pv 3)) (da_cons (d_var 4 (pv 4)) (da_nil)))) (da_nil))) (d_var 5 (pv 5))))).dt) (db_one (ds_ret (d_bl))) (db_nil))))))))
    (db_cons (ds_asg (d_tup (da_cons (d_tup (da_cons (d_int) (da_cons (d_tup (da_cons (d_int) (da_cons (d_int) (da_cons (d_int) (da_nil))))) (da_nil)))) (da_cons (d_tup (da_cons (d_tup (da_cons (d_int) (da_cons (d_int) (da_cons (d_int) (da_nil))))) (da_cons (d_tup (da_cons (d_int) (da_cons (d_int) (da_cons (d_int) (da_nil))))) (da_cons (d_tup (da_cons (d_int) (da_cons (d_int) (da_cons (d_int) (da_nil))))) (da_nil))))) (da_nil)))) (dg_tup (dgs_cons (dg_name 3 hN) (dgs_cons (dg_name 4 hN) (dgs_nil)))))
    (db_cons (ds_set 6 hN (d_lst (da_cons (d_call f_row_by (hr.mono (by decide)) hg tk (da_cons (d_var 3 (pv 3)) (da_cons (d_var 4 (pv 4)) (da_cons (d_int) (da_nil))))) (da_cons (d_call f_next_by (hr.mono (by decide)) hg tk (da_cons (d_var 3 (pv 3)) (da_cons (d_var 4 (pv 4)) (da_cons (d_int) (da_cons (d_int) (da_nil)))))) (da_cons (d_call f_day_by (hr.mono (by decide)) hg tk (da_cons (d_var 3 (pv 3)) (da_cons (d_var 4 (pv 4)) (da_cons (d_pow (d_int) (d_int)) (da_nil))))) (da_nil))))))
    (db_one (ds_ret (d_and (d_eq hu (d_var 6 (pv 6)) (d_lst (da_cons (d_tup (da_cons (d_tup (da_cons (d_int) (da_nil))) (da_cons (d_tup (da_cons (d_int) (da_nil))) (da_cons (d_tup (da_cons (d_int) (da_nil))) (da_cons (d_tup (da_cons (d_int) (da_nil))) (da_cons (d_tup (da_cons (d_int) (da_nil))) (da_nil))))))) (da_cons (d_int) (da_cons (d_tup (da_cons (d_int) (da_nil))) (da_nil)))))) (d_one (d_eq hu (d_len T.b_len (da_cons (d_call f_row_by (hr.mono (by decide)) hg tk (da_cons (d_var 3 (pv 3)) (da_cons (d_var 4 (pv 4)) (da_cons (d_int) (da_nil))))) (da_nil))) (d_int))))))))
end
theorem all_mk {P : Program} {w : World} {K : PySem.W.Frag} {h : Heap} {mg : Str → Option Value} {fa : Addr} (X : K.In h) (G : h.Ns mainGlobals mg) (hfa : mg "law" = some (.ref fa))
    {t_MOST_HANDS : Tok}
    {t_MOST_THINGS : Tok}
    {t_MOST_GAP : Tok}
    {t_MOST_ROW : Tok}
    {C_TurnError : Addr}
    {C_BadPlan : Addr}
    {C_BadNumber : Addr}
    {C_BadParts : Addr}
    {i_BadPlan cc_BadPlan : Addr} {oc_BadPlan kV_BadPlan dc_BadPlan pm_BadPlan ct_BadPlan cl_BadPlan ccl_BadPlan : Value} {od_BadPlan an_BadPlan cld_BadPlan cdd_BadPlan : Option Addr} {sl_BadPlan csl_BadPlan ccs_BadPlan : Array (Option Value)} {cda_BadPlan : Addr} {vs_BadPlan : Array Value} {fi_BadPlan : Str} {tf_BadPlan : Tok}
    {i_BadNumber cc_BadNumber : Addr} {oc_BadNumber kV_BadNumber dc_BadNumber pm_BadNumber ct_BadNumber cl_BadNumber ccl_BadNumber : Value} {od_BadNumber an_BadNumber cld_BadNumber cdd_BadNumber : Option Addr} {sl_BadNumber csl_BadNumber ccs_BadNumber : Array (Option Value)} {cda_BadNumber : Addr} {vs_BadNumber : Array Value} {fi_BadNumber : Str} {tf_BadNumber : Tok}
    {i_BadParts cc_BadParts : Addr} {oc_BadParts kV_BadParts dc_BadParts pm_BadParts ct_BadParts cl_BadParts ccl_BadParts : Value} {od_BadParts an_BadParts cld_BadParts cdd_BadParts : Option Addr} {sl_BadParts csl_BadParts ccs_BadParts : Array (Option Value)} {cda_BadParts : Addr} {vs_BadParts : Array Value} {fi_BadParts : Str} {tf_BadParts : Tok}
    {a_is_whole : Addr} {oc_is_whole kV_is_whole dc_is_whole pm_is_whole cd_is_whole ct_is_whole : Value} {od_is_whole an_is_whole : Option Addr} {sl_is_whole : Array (Option Value)}
    {a_need_plan : Addr} {oc_need_plan kV_need_plan dc_need_plan pm_need_plan cd_need_plan ct_need_plan : Value} {od_need_plan an_need_plan : Option Addr} {sl_need_plan : Array (Option Value)}
    {a_common : Addr} {oc_common kV_common dc_common pm_common cd_common ct_common : Value} {od_common an_common : Option Addr} {sl_common : Array (Option Value)}
    {a_need_thing : Addr} {oc_need_thing kV_need_thing dc_need_thing pm_need_thing cd_need_thing ct_need_thing : Value} {od_need_thing an_need_thing : Option Addr} {sl_need_thing : Array (Option Value)}
    {a_is_part : Addr} {oc_is_part kV_is_part dc_is_part pm_is_part cd_is_part ct_is_part : Value} {od_is_part an_is_part : Option Addr} {sl_is_part : Array (Option Value)}
    {a_do_meet : Addr} {oc_do_meet kV_do_meet dc_do_meet pm_do_meet cd_do_meet ct_do_meet : Value} {od_do_meet an_do_meet : Option Addr} {sl_do_meet : Array (Option Value)}
    {a_are_parts_of : Addr} {oc_are_parts_of kV_are_parts_of dc_are_parts_of pm_are_parts_of cd_are_parts_of ct_are_parts_of : Value} {od_are_parts_of an_are_parts_of : Option Addr} {sl_are_parts_of : Array (Option Value)}
    {a_need_parts : Addr} {oc_need_parts kV_need_parts dc_need_parts pm_need_parts cd_need_parts ct_need_parts : Value} {od_need_parts an_need_parts : Option Addr} {sl_need_parts : Array (Option Value)}
    {a_need_day : Addr} {oc_need_day kV_need_day dc_need_day pm_need_day cd_need_day ct_need_day : Value} {od_need_day an_need_day : Option Addr} {sl_need_day : Array (Option Value)}
    {a_day_in : Addr} {oc_day_in kV_day_in dc_day_in pm_day_in cd_day_in ct_day_in : Value} {od_day_in an_day_in : Option Addr} {sl_day_in : Array (Option Value)}
    {a_day_by : Addr} {oc_day_by kV_day_by dc_day_by pm_day_by cd_day_by ct_day_by : Value} {od_day_by an_day_by : Option Addr} {sl_day_by : Array (Option Value)}
    {a_next_by : Addr} {oc_next_by kV_next_by dc_next_by pm_next_by cd_next_by ct_next_by : Value} {od_next_by an_next_by : Option Addr} {sl_next_by : Array (Option Value)}
    {a_row_by : Addr} {oc_row_by kV_row_by dc_row_by pm_row_by cd_row_by ct_row_by : Value} {od_row_by an_row_by : Option Addr} {sl_row_by : Array (Option Value)}
    {a__law_begun : Addr} {oc__law_begun kV__law_begun dc__law_begun pm__law_begun cd__law_begun ct__law_begun : Value} {od__law_begun an__law_begun : Option Addr} {sl__law_begun : Array (Option Value)}
    {a__law_draw : Addr} {oc__law_draw kV__law_draw dc__law_draw pm__law_draw cd__law_draw ct__law_draw : Value} {od__law_draw an__law_draw : Option Addr} {sl__law_draw : Array (Option Value)}
    {a__law_of : Addr} {oc__law_of kV__law_of dc__law_of pm__law_of cd__law_of ct__law_of : Value} {od__law_of an__law_of : Option Addr} {sl__law_of : Array (Option Value)}
    {a__law_go : Addr} {oc__law_go kV__law_go dc__law_go pm__law_go cd__law_go ct__law_go : Value} {od__law_go an__law_go : Option Addr} {sl__law_go : Array (Option Value)}
    {a__law_start : Addr} {oc__law_start kV__law_start dc__law_start pm__law_start cd__law_start ct__law_start : Value} {od__law_start an__law_start : Option Addr} {sl__law_start : Array (Option Value)}
    {a__law_said : Addr} {oc__law_said kV__law_said dc__law_said pm__law_said cd__law_said ct__law_said : Value} {od__law_said an__law_said : Option Addr} {sl__law_said : Array (Option Value)}
    {a__law_common : Addr} {oc__law_common kV__law_common dc__law_common pm__law_common cd__law_common ct__law_common : Value} {od__law_common an__law_common : Option Addr} {sl__law_common : Array (Option Value)}
    {a__law_meet : Addr} {oc__law_meet kV__law_meet dc__law_meet pm__law_meet cd__law_meet ct__law_meet : Value} {od__law_meet an__law_meet : Option Addr} {sl__law_meet : Array (Option Value)}
    {a__law_made : Addr} {oc__law_made kV__law_made dc__law_made pm__law_made cd__law_made ct__law_made : Value} {od__law_made an__law_made : Option Addr} {sl__law_made : Array (Option Value)}
    {a__law_day : Addr} {oc__law_day kV__law_day dc__law_day pm__law_day cd__law_day ct__law_day : Value} {od__law_day an__law_day : Option Addr} {sl__law_day : Array (Option Value)}
    {a__law_days_right : Addr} {oc__law_days_right kV__law_days_right dc__law_days_right pm__law_days_right cd__law_days_right ct__law_days_right : Value} {od__law_days_right an__law_days_right : Option Addr} {sl__law_days_right : Array (Option Value)}
    {a__law_row_right : Addr} {oc__law_row_right kV__law_row_right dc__law_row_right pm__law_row_right cd__law_row_right ct__law_row_right : Value} {od__law_row_right an__law_row_right : Option Addr} {sl__law_row_right : Array (Option Value)}
    {a__law_refused_right : Addr} {oc__law_refused_right kV__law_refused_right dc__law_refused_right pm__law_refused_right  ct__law_refused_right : Value} {od__law_refused_right an__law_refused_right : Option Addr} {sl__law_refused_right : Array (Option Value)}
    {cA__law_refused_right pA__law_refused_right : Addr} {cC__law_refused_right : Value} {cD__law_refused_right : Option Addr} {cV__law_refused_right : Array Value} {cS__law_refused_right : Array (Option Value)}
    {a_law : Addr} {oc_law kV_law dc_law pm_law cd_law ct_law : Value} {od_law an_law : Option Addr} {sl_law : Array (Option Value)}
    (b_all : PySem.W.nsIn K mainGlobals "all" = some none)
    (b_any : PySem.W.nsIn K mainGlobals "any" = some none)
    (b_bool : PySem.W.nsIn K mainGlobals "bool" = some none)
    (b_enumerate : PySem.W.nsIn K mainGlobals "enumerate" = some none)
    (b_int : PySem.W.nsIn K mainGlobals "int" = some none)
    (b_isinstance : PySem.W.nsIn K mainGlobals "isinstance" = some none)
    (b_len : PySem.W.nsIn K mainGlobals "len" = some none)
    (b_list : PySem.W.nsIn K mainGlobals "list" = some none)
    (b_min : PySem.W.nsIn K mainGlobals "min" = some none)
    (b_range : PySem.W.nsIn K mainGlobals "range" = some none)
    (b_repr : PySem.W.nsIn K mainGlobals "repr" = some none)
    (b_tuple : PySem.W.nsIn K mainGlobals "tuple" = some none)
    (b_zip : PySem.W.nsIn K mainGlobals "zip" = some none)
    (c_MOST_HANDS : PySem.W.nsIn K mainGlobals "MOST_HANDS" = some (some (.int 3 t_MOST_HANDS)))
    (c_MOST_THINGS : PySem.W.nsIn K mainGlobals "MOST_THINGS" = some (some (.int 8 t_MOST_THINGS)))
    (c_MOST_GAP : PySem.W.nsIn K mainGlobals "MOST_GAP" = some (some (.int 1000000000000000000000000000000 t_MOST_GAP)))
    (c_MOST_ROW : PySem.W.nsIn K mainGlobals "MOST_ROW" = some (some (.int 1000 t_MOST_ROW)))
    (n_TurnError : PySem.W.nsIn K mainGlobals "TurnError" = some (some (.ref C_TurnError)))
    (xe_TurnError : PySem.W.subIn K (.ref C_TurnError) (.type "BaseException") = some true)
    (xt_TurnError : PySem.W.typeIn K (.ref C_TurnError) = some (.type "type"))
    (n_BadPlan : PySem.W.nsIn K mainGlobals "BadPlan" = some (some (.ref C_BadPlan)))
    (xe_BadPlan : PySem.W.subIn K (.ref C_BadPlan) (.type "BaseException") = some true)
    (xt_BadPlan : PySem.W.typeIn K (.ref C_BadPlan) = some (.type "type"))
    (n_BadNumber : PySem.W.nsIn K mainGlobals "BadNumber" = some (some (.ref C_BadNumber)))
    (xe_BadNumber : PySem.W.subIn K (.ref C_BadNumber) (.type "BaseException") = some true)
    (xt_BadNumber : PySem.W.typeIn K (.ref C_BadNumber) = some (.type "type"))
    (n_BadParts : PySem.W.nsIn K mainGlobals "BadParts" = some (some (.ref C_BadParts)))
    (xe_BadParts : PySem.W.subIn K (.ref C_BadParts) (.type "BaseException") = some true)
    (xt_BadParts : PySem.W.typeIn K (.ref C_BadParts) = some (.type "type"))
    (xc_BadPlan : PySem.W.excInitIn K C_BadPlan [.type "ValueError", .type "Exception", .type "BaseException", .type "object"] "ValueError.__new__" = true)
    (xo_BadPlan : PySem.W.excOver K C_BadPlan [.type "ValueError", .type "Exception", .type "BaseException", .type "object"] = true)
    (xs_BadPlan : PySem.W.findIn K (.ref C_BadPlan) "__setattr__" = some (some (.builtin "object.__setattr__")))
    (xg_BadPlan : PySem.W.findIn K (.ref C_BadPlan) "__getattribute__" = some (some (.builtin "BaseException.__getattribute__")))
    (xh_BadPlan : PySem.W.findIn K (.ref C_BadPlan) "__getattr__" = some none)
    (xi_BadPlan : PySem.W.findIn K (.ref C_BadPlan) "__init__" = some (some (.ref i_BadPlan)))
    (xf_BadPlan : PySem.W.typeIn K (.ref i_BadPlan) = some (.type "function"))
    (xk_BadPlan : PySem.W.keepIn K (.ref C_BadPlan) = true)
    (xb_BadPlan : PySem.W.subIn K (.ref C_BadPlan) (.type "ValueError") = some true)
    (xd_BadPlan : PySem.W.hasDictIn K C_BadPlan = true)
    (xm_BadPlan : PySem.W.mroIn K C_BadPlan (.ref C_BadPlan) = some true)
    (xn_BadPlan : PySem.W.findIn K (.ref C_BadPlan) "place" = some none)
    (xl_BadPlan : K.lookup i_BadPlan = some ⟨oc_BadPlan, od_BadPlan, .func (PySem.W.ksFn "__init__" "BadPlan.__init__" (PySem.OExc.initArgs ([("self", ⟨6, 17, 6, 21⟩), ("place", ⟨6, 23, 6, 28⟩)])) (PySem.OExc.superSt "not a plan" ⟨7, 8, 7, 13⟩ ⟨7, 8, 7, 15⟩ ⟨7, 8, 7, 24⟩ ⟨7, 25, 7, 37⟩ ⟨7, 8, 7, 38⟩ ⟨7, 8, 7, 38⟩ :: [PySem.OExc.fieldSt "place" ⟨8, 8, 8, 12⟩ ⟨8, 8, 8, 18⟩ ⟨8, 21, 8, 26⟩ ⟨8, 8, 8, 26⟩]) (PySem.OExc.scopeF "place") .none kV_BadPlan dc_BadPlan pm_BadPlan an_BadPlan (.ref cda_BadPlan) ct_BadPlan cc_BadPlan), sl_BadPlan⟩)
    (xq_BadPlan : PySem.W.codeIn K (.ref cda_BadPlan) "BadPlan.__init__" = true)
    (xr_BadPlan : K.lookup cda_BadPlan = some ⟨ccl_BadPlan, cdd_BadPlan, .fields vs_BadPlan, ccs_BadPlan⟩)
    (xv_BadPlan : vs_BadPlan[2]? = some (.str fi_BadPlan tf_BadPlan))
    (xw_BadPlan : ((P.main.file : Str) == fi_BadPlan) = true)
    (xu_BadPlan : K.lookup cc_BadPlan = some ⟨cl_BadPlan, cld_BadPlan, .cell (some (.ref C_BadPlan)), csl_BadPlan⟩)
    (xy_BadPlan : PySem.W.ks_superIn K C_BadPlan C_BadPlan "__init__" = some (some (.builtin "ValueError.__init__")))
    (xc_BadNumber : PySem.W.excInitIn K C_BadNumber [.type "ValueError", .type "Exception", .type "BaseException", .type "object"] "ValueError.__new__" = true)
    (xo_BadNumber : PySem.W.excOver K C_BadNumber [.type "ValueError", .type "Exception", .type "BaseException", .type "object"] = true)
    (xs_BadNumber : PySem.W.findIn K (.ref C_BadNumber) "__setattr__" = some (some (.builtin "object.__setattr__")))
    (xg_BadNumber : PySem.W.findIn K (.ref C_BadNumber) "__getattribute__" = some (some (.builtin "BaseException.__getattribute__")))
    (xh_BadNumber : PySem.W.findIn K (.ref C_BadNumber) "__getattr__" = some none)
    (xi_BadNumber : PySem.W.findIn K (.ref C_BadNumber) "__init__" = some (some (.ref i_BadNumber)))
    (xf_BadNumber : PySem.W.typeIn K (.ref i_BadNumber) = some (.type "function"))
    (xk_BadNumber : PySem.W.keepIn K (.ref C_BadNumber) = true)
    (xb_BadNumber : PySem.W.subIn K (.ref C_BadNumber) (.type "ValueError") = some true)
    (xd_BadNumber : PySem.W.hasDictIn K C_BadNumber = true)
    (xm_BadNumber : PySem.W.mroIn K C_BadNumber (.ref C_BadNumber) = some true)
    (xn_BadNumber : PySem.W.findIn K (.ref C_BadNumber) "value" = some none)
    (xl_BadNumber : K.lookup i_BadNumber = some ⟨oc_BadNumber, od_BadNumber, .func (PySem.W.ksFn "__init__" "BadNumber.__init__" (PySem.OExc.initArgs ([("self", ⟨11, 17, 11, 21⟩), ("value", ⟨11, 23, 11, 28⟩)])) (PySem.OExc.superSt "not such a number" ⟨12, 8, 12, 13⟩ ⟨12, 8, 12, 15⟩ ⟨12, 8, 12, 24⟩ ⟨12, 25, 12, 44⟩ ⟨12, 8, 12, 45⟩ ⟨12, 8, 12, 45⟩ :: [PySem.OExc.fieldSt "value" ⟨13, 8, 13, 12⟩ ⟨13, 8, 13, 18⟩ ⟨13, 21, 13, 26⟩ ⟨13, 8, 13, 26⟩]) (PySem.OExc.scopeF "value") .none kV_BadNumber dc_BadNumber pm_BadNumber an_BadNumber (.ref cda_BadNumber) ct_BadNumber cc_BadNumber), sl_BadNumber⟩)
    (xq_BadNumber : PySem.W.codeIn K (.ref cda_BadNumber) "BadNumber.__init__" = true)
    (xr_BadNumber : K.lookup cda_BadNumber = some ⟨ccl_BadNumber, cdd_BadNumber, .fields vs_BadNumber, ccs_BadNumber⟩)
    (xv_BadNumber : vs_BadNumber[2]? = some (.str fi_BadNumber tf_BadNumber))
    (xw_BadNumber : ((P.main.file : Str) == fi_BadNumber) = true)
    (xu_BadNumber : K.lookup cc_BadNumber = some ⟨cl_BadNumber, cld_BadNumber, .cell (some (.ref C_BadNumber)), csl_BadNumber⟩)
    (xy_BadNumber : PySem.W.ks_superIn K C_BadNumber C_BadNumber "__init__" = some (some (.builtin "ValueError.__init__")))
    (xc_BadParts : PySem.W.excInitIn K C_BadParts [.type "ValueError", .type "Exception", .type "BaseException", .type "object"] "ValueError.__new__" = true)
    (xo_BadParts : PySem.W.excOver K C_BadParts [.type "ValueError", .type "Exception", .type "BaseException", .type "object"] = true)
    (xs_BadParts : PySem.W.findIn K (.ref C_BadParts) "__setattr__" = some (some (.builtin "object.__setattr__")))
    (xg_BadParts : PySem.W.findIn K (.ref C_BadParts) "__getattribute__" = some (some (.builtin "BaseException.__getattribute__")))
    (xh_BadParts : PySem.W.findIn K (.ref C_BadParts) "__getattr__" = some none)
    (xi_BadParts : PySem.W.findIn K (.ref C_BadParts) "__init__" = some (some (.ref i_BadParts)))
    (xf_BadParts : PySem.W.typeIn K (.ref i_BadParts) = some (.type "function"))
    (xk_BadParts : PySem.W.keepIn K (.ref C_BadParts) = true)
    (xb_BadParts : PySem.W.subIn K (.ref C_BadParts) (.type "ValueError") = some true)
    (xd_BadParts : PySem.W.hasDictIn K C_BadParts = true)
    (xm_BadParts : PySem.W.mroIn K C_BadParts (.ref C_BadParts) = some true)
    (xn_BadParts : PySem.W.findIn K (.ref C_BadParts) "value" = some none)
    (xl_BadParts : K.lookup i_BadParts = some ⟨oc_BadParts, od_BadParts, .func (PySem.W.ksFn "__init__" "BadParts.__init__" (PySem.OExc.initArgs ([("self", ⟨16, 17, 16, 21⟩), ("value", ⟨16, 23, 16, 28⟩)])) (PySem.OExc.superSt "not parts" ⟨17, 8, 17, 13⟩ ⟨17, 8, 17, 15⟩ ⟨17, 8, 17, 24⟩ ⟨17, 25, 17, 36⟩ ⟨17, 8, 17, 37⟩ ⟨17, 8, 17, 37⟩ :: [PySem.OExc.fieldSt "value" ⟨18, 8, 18, 12⟩ ⟨18, 8, 18, 18⟩ ⟨18, 21, 18, 26⟩ ⟨18, 8, 18, 26⟩]) (PySem.OExc.scopeF "value") .none kV_BadParts dc_BadParts pm_BadParts an_BadParts (.ref cda_BadParts) ct_BadParts cc_BadParts), sl_BadParts⟩)
    (xq_BadParts : PySem.W.codeIn K (.ref cda_BadParts) "BadParts.__init__" = true)
    (xr_BadParts : K.lookup cda_BadParts = some ⟨ccl_BadParts, cdd_BadParts, .fields vs_BadParts, ccs_BadParts⟩)
    (xv_BadParts : vs_BadParts[2]? = some (.str fi_BadParts tf_BadParts))
    (xw_BadParts : ((P.main.file : Str) == fi_BadParts) = true)
    (xu_BadParts : K.lookup cc_BadParts = some ⟨cl_BadParts, cld_BadParts, .cell (some (.ref C_BadParts)), csl_BadParts⟩)
    (xy_BadParts : PySem.W.ks_superIn K C_BadParts C_BadParts "__init__" = some (some (.builtin "ValueError.__init__")))
    (z_opq : PySem.W.nsIn K cStatics "thirdparty.any" = some none)
    (z_sup : PySem.W.nsIn K mainGlobals "super" = some none)
    (z_top : (P.main.scope.names.lookup ("super" : Str)).isSome = false)
    (es_BadPlan : PySem.W.subIn K (.ref C_BadPlan) (.ref C_BadPlan) = some true)
    (es_BadNumber : PySem.W.subIn K (.ref C_BadNumber) (.ref C_BadNumber) = some true)
    (es_BadParts : PySem.W.subIn K (.ref C_BadParts) (.ref C_BadParts) = some true)
    (z_hn : PySem.W.specialIn K (.builtin "object.__class__") "__get__" = some (some (.builtin "getset_descriptor.__get__")))
    (z_tk : PySem.W.takesIn K (.builtin "object.__class__") = some true)
    (ic_BadPlan : (PySem.W.clsIn K C_BadPlan).isSome = true)
    (ia_BadPlan : PySem.W.findIn K (.ref C_BadPlan) "__class__" = some (some (.builtin "object.__class__")))
    (io_BadPlan : PySem.W.mroIn K C_BadPlan (.type "object") = some true)
    (ic_BadNumber : (PySem.W.clsIn K C_BadNumber).isSome = true)
    (ia_BadNumber : PySem.W.findIn K (.ref C_BadNumber) "__class__" = some (some (.builtin "object.__class__")))
    (io_BadNumber : PySem.W.mroIn K C_BadNumber (.type "object") = some true)
    (ic_BadParts : (PySem.W.clsIn K C_BadParts).isSome = true)
    (ia_BadParts : PySem.W.findIn K (.ref C_BadParts) "__class__" = some (some (.builtin "object.__class__")))
    (io_BadParts : PySem.W.mroIn K C_BadParts (.type "object") = some true)
    (w_TurnError : PySem.W.isClsIn K C_TurnError = true)
    (e_BadPlan_TurnError : PySem.W.subIn K (.ref C_BadPlan) (.ref C_TurnError) = some true)
    (e_BadNumber_TurnError : PySem.W.subIn K (.ref C_BadNumber) (.ref C_TurnError) = some true)
    (e_BadParts_TurnError : PySem.W.subIn K (.ref C_BadParts) (.ref C_TurnError) = some true)
    (w_BadPlan : PySem.W.isClsIn K C_BadPlan = true)
    (e_BadPlan_BadPlan : PySem.W.subIn K (.ref C_BadPlan) (.ref C_BadPlan) = some true)
    (e_BadNumber_BadPlan : PySem.W.subIn K (.ref C_BadNumber) (.ref C_BadPlan) = some false)
    (e_BadParts_BadPlan : PySem.W.subIn K (.ref C_BadParts) (.ref C_BadPlan) = some false)
    (w_BadNumber : PySem.W.isClsIn K C_BadNumber = true)
    (e_BadPlan_BadNumber : PySem.W.subIn K (.ref C_BadPlan) (.ref C_BadNumber) = some false)
    (e_BadNumber_BadNumber : PySem.W.subIn K (.ref C_BadNumber) (.ref C_BadNumber) = some true)
    (e_BadParts_BadNumber : PySem.W.subIn K (.ref C_BadParts) (.ref C_BadNumber) = some false)
    (w_BadParts : PySem.W.isClsIn K C_BadParts = true)
    (e_BadPlan_BadParts : PySem.W.subIn K (.ref C_BadPlan) (.ref C_BadParts) = some false)
    (e_BadNumber_BadParts : PySem.W.subIn K (.ref C_BadNumber) (.ref C_BadParts) = some false)
    (e_BadParts_BadParts : PySem.W.subIn K (.ref C_BadParts) (.ref C_BadParts) = some true)
    (a_is_whole_ : PySem.W.nsIn K mainGlobals "is_whole" = some (some (.ref a_is_whole)))
    (l_is_whole : K.lookup a_is_whole = some ⟨oc_is_whole, od_is_whole, .func (PySem.W.fnOf "is_whole" "is_whole" (defArgs s_is_whole) (defBody s_is_whole) (defScope s_is_whole) .none kV_is_whole dc_is_whole pm_is_whole an_is_whole cd_is_whole ct_is_whole), sl_is_whole⟩)
    (q_is_whole : PySem.W.codeIn K cd_is_whole "is_whole" = true)
    (k_is_whole : PySem.W.keepIn K (.ref a_is_whole) = true)
    (a_need_plan_ : PySem.W.nsIn K mainGlobals "need_plan" = some (some (.ref a_need_plan)))
    (l_need_plan : K.lookup a_need_plan = some ⟨oc_need_plan, od_need_plan, .func (PySem.W.fnOf "need_plan" "need_plan" (defArgs s_need_plan) (defBody s_need_plan) (defScope s_need_plan) .none kV_need_plan dc_need_plan pm_need_plan an_need_plan cd_need_plan ct_need_plan), sl_need_plan⟩)
    (q_need_plan : PySem.W.codeIn K cd_need_plan "need_plan" = true)
    (k_need_plan : PySem.W.keepIn K (.ref a_need_plan) = true)
    (a_common_ : PySem.W.nsIn K mainGlobals "common" = some (some (.ref a_common)))
    (l_common : K.lookup a_common = some ⟨oc_common, od_common, .func (PySem.W.fnOf "common" "common" (defArgs s_common) (defBody s_common) (defScope s_common) .none kV_common dc_common pm_common an_common cd_common ct_common), sl_common⟩)
    (q_common : PySem.W.codeIn K cd_common "common" = true)
    (k_common : PySem.W.keepIn K (.ref a_common) = true)
    (a_need_thing_ : PySem.W.nsIn K mainGlobals "need_thing" = some (some (.ref a_need_thing)))
    (l_need_thing : K.lookup a_need_thing = some ⟨oc_need_thing, od_need_thing, .func (PySem.W.fnOf "need_thing" "need_thing" (defArgs s_need_thing) (defBody s_need_thing) (defScope s_need_thing) .none kV_need_thing dc_need_thing pm_need_thing an_need_thing cd_need_thing ct_need_thing), sl_need_thing⟩)
    (q_need_thing : PySem.W.codeIn K cd_need_thing "need_thing" = true)
    (k_need_thing : PySem.W.keepIn K (.ref a_need_thing) = true)
    (a_is_part_ : PySem.W.nsIn K mainGlobals "is_part" = some (some (.ref a_is_part)))
    (l_is_part : K.lookup a_is_part = some ⟨oc_is_part, od_is_part, .func (PySem.W.fnOf "is_part" "is_part" (defArgs s_is_part) (defBody s_is_part) (defScope s_is_part) .none kV_is_part dc_is_part pm_is_part an_is_part cd_is_part ct_is_part), sl_is_part⟩)
    (q_is_part : PySem.W.codeIn K cd_is_part "is_part" = true)
    (k_is_part : PySem.W.keepIn K (.ref a_is_part) = true)
    (a_do_meet_ : PySem.W.nsIn K mainGlobals "do_meet" = some (some (.ref a_do_meet)))
    (l_do_meet : K.lookup a_do_meet = some ⟨oc_do_meet, od_do_meet, .func (PySem.W.fnOf "do_meet" "do_meet" (defArgs s_do_meet) (defBody s_do_meet) (defScope s_do_meet) .none kV_do_meet dc_do_meet pm_do_meet an_do_meet cd_do_meet ct_do_meet), sl_do_meet⟩)
    (q_do_meet : PySem.W.codeIn K cd_do_meet "do_meet" = true)
    (k_do_meet : PySem.W.keepIn K (.ref a_do_meet) = true)
    (a_are_parts_of_ : PySem.W.nsIn K mainGlobals "are_parts_of" = some (some (.ref a_are_parts_of)))
    (l_are_parts_of : K.lookup a_are_parts_of = some ⟨oc_are_parts_of, od_are_parts_of, .func (PySem.W.fnOf "are_parts_of" "are_parts_of" (defArgs s_are_parts_of) (defBody s_are_parts_of) (defScope s_are_parts_of) .none kV_are_parts_of dc_are_parts_of pm_are_parts_of an_are_parts_of cd_are_parts_of ct_are_parts_of), sl_are_parts_of⟩)
    (q_are_parts_of : PySem.W.codeIn K cd_are_parts_of "are_parts_of" = true)
    (k_are_parts_of : PySem.W.keepIn K (.ref a_are_parts_of) = true)
    (a_need_parts_ : PySem.W.nsIn K mainGlobals "need_parts" = some (some (.ref a_need_parts)))
    (l_need_parts : K.lookup a_need_parts = some ⟨oc_need_parts, od_need_parts, .func (PySem.W.fnOf "need_parts" "need_parts" (defArgs s_need_parts) (defBody s_need_parts) (defScope s_need_parts) .none kV_need_parts dc_need_parts pm_need_parts an_need_parts cd_need_parts ct_need_parts), sl_need_parts⟩)
    (q_need_parts : PySem.W.codeIn K cd_need_parts "need_parts" = true)
    (k_need_parts : PySem.W.keepIn K (.ref a_need_parts) = true)
    (a_need_day_ : PySem.W.nsIn K mainGlobals "need_day" = some (some (.ref a_need_day)))
    (l_need_day : K.lookup a_need_day = some ⟨oc_need_day, od_need_day, .func (PySem.W.fnOf "need_day" "need_day" (defArgs s_need_day) (defBody s_need_day) (defScope s_need_day) .none kV_need_day dc_need_day pm_need_day an_need_day cd_need_day ct_need_day), sl_need_day⟩)
    (q_need_day : PySem.W.codeIn K cd_need_day "need_day" = true)
    (k_need_day : PySem.W.keepIn K (.ref a_need_day) = true)
    (a_day_in_ : PySem.W.nsIn K mainGlobals "day_in" = some (some (.ref a_day_in)))
    (l_day_in : K.lookup a_day_in = some ⟨oc_day_in, od_day_in, .func (PySem.W.fnOf "day_in" "day_in" (defArgs s_day_in) (defBody s_day_in) (defScope s_day_in) .none kV_day_in dc_day_in pm_day_in an_day_in cd_day_in ct_day_in), sl_day_in⟩)
    (q_day_in : PySem.W.codeIn K cd_day_in "day_in" = true)
    (k_day_in : PySem.W.keepIn K (.ref a_day_in) = true)
    (a_day_by_ : PySem.W.nsIn K mainGlobals "day_by" = some (some (.ref a_day_by)))
    (l_day_by : K.lookup a_day_by = some ⟨oc_day_by, od_day_by, .func (PySem.W.fnOf "day_by" "day_by" (defArgs s_day_by) (defBody s_day_by) (defScope s_day_by) .none kV_day_by dc_day_by pm_day_by an_day_by cd_day_by ct_day_by), sl_day_by⟩)
    (q_day_by : PySem.W.codeIn K cd_day_by "day_by" = true)
    (k_day_by : PySem.W.keepIn K (.ref a_day_by) = true)
    (a_next_by_ : PySem.W.nsIn K mainGlobals "next_by" = some (some (.ref a_next_by)))
    (l_next_by : K.lookup a_next_by = some ⟨oc_next_by, od_next_by, .func (PySem.W.fnOf "next_by" "next_by" (defArgs s_next_by) (defBody s_next_by) (defScope s_next_by) .none kV_next_by dc_next_by pm_next_by an_next_by cd_next_by ct_next_by), sl_next_by⟩)
    (q_next_by : PySem.W.codeIn K cd_next_by "next_by" = true)
    (k_next_by : PySem.W.keepIn K (.ref a_next_by) = true)
    (a_row_by_ : PySem.W.nsIn K mainGlobals "row_by" = some (some (.ref a_row_by)))
    (l_row_by : K.lookup a_row_by = some ⟨oc_row_by, od_row_by, .func (PySem.W.fnOf "row_by" "row_by" (defArgs s_row_by) (defBody s_row_by) (defScope s_row_by) .none kV_row_by dc_row_by pm_row_by an_row_by cd_row_by ct_row_by), sl_row_by⟩)
    (q_row_by : PySem.W.codeIn K cd_row_by "row_by" = true)
    (k_row_by : PySem.W.keepIn K (.ref a_row_by) = true)
    (a__law_begun_ : PySem.W.nsIn K mainGlobals "_law_begun" = some (some (.ref a__law_begun)))
    (l__law_begun : K.lookup a__law_begun = some ⟨oc__law_begun, od__law_begun, .func (PySem.W.fnOf "_law_begun" "_law_begun" (defArgs s__law_begun) (defBody s__law_begun) (defScope s__law_begun) .none kV__law_begun dc__law_begun pm__law_begun an__law_begun cd__law_begun ct__law_begun), sl__law_begun⟩)
    (q__law_begun : PySem.W.codeIn K cd__law_begun "_law_begun" = true)
    (k__law_begun : PySem.W.keepIn K (.ref a__law_begun) = true)
    (a__law_draw_ : PySem.W.nsIn K mainGlobals "_law_draw" = some (some (.ref a__law_draw)))
    (l__law_draw : K.lookup a__law_draw = some ⟨oc__law_draw, od__law_draw, .func (PySem.W.fnOf "_law_draw" "_law_draw" (defArgs s__law_draw) (defBody s__law_draw) (defScope s__law_draw) .none kV__law_draw dc__law_draw pm__law_draw an__law_draw cd__law_draw ct__law_draw), sl__law_draw⟩)
    (q__law_draw : PySem.W.codeIn K cd__law_draw "_law_draw" = true)
    (k__law_draw : PySem.W.keepIn K (.ref a__law_draw) = true)
    (a__law_of_ : PySem.W.nsIn K mainGlobals "_law_of" = some (some (.ref a__law_of)))
    (l__law_of : K.lookup a__law_of = some ⟨oc__law_of, od__law_of, .func (PySem.W.fnOf "_law_of" "_law_of" (defArgs s__law_of) (defBody s__law_of) (defScope s__law_of) .none kV__law_of dc__law_of pm__law_of an__law_of cd__law_of ct__law_of), sl__law_of⟩)
    (q__law_of : PySem.W.codeIn K cd__law_of "_law_of" = true)
    (k__law_of : PySem.W.keepIn K (.ref a__law_of) = true)
    (a__law_go_ : PySem.W.nsIn K mainGlobals "_law_go" = some (some (.ref a__law_go)))
    (l__law_go : K.lookup a__law_go = some ⟨oc__law_go, od__law_go, .func (PySem.W.fnOf "_law_go" "_law_go" (defArgs s__law_go) (defBody s__law_go) (defScope s__law_go) .none kV__law_go dc__law_go pm__law_go an__law_go cd__law_go ct__law_go), sl__law_go⟩)
    (q__law_go : PySem.W.codeIn K cd__law_go "_law_go" = true)
    (k__law_go : PySem.W.keepIn K (.ref a__law_go) = true)
    (a__law_start_ : PySem.W.nsIn K mainGlobals "_law_start" = some (some (.ref a__law_start)))
    (l__law_start : K.lookup a__law_start = some ⟨oc__law_start, od__law_start, .func (PySem.W.fnOf "_law_start" "_law_start" (defArgs s__law_start) (defBody s__law_start) (defScope s__law_start) .none kV__law_start dc__law_start pm__law_start an__law_start cd__law_start ct__law_start), sl__law_start⟩)
    (q__law_start : PySem.W.codeIn K cd__law_start "_law_start" = true)
    (k__law_start : PySem.W.keepIn K (.ref a__law_start) = true)
    (a__law_said_ : PySem.W.nsIn K mainGlobals "_law_said" = some (some (.ref a__law_said)))
    (l__law_said : K.lookup a__law_said = some ⟨oc__law_said, od__law_said, .func (PySem.W.fnOf "_law_said" "_law_said" (defArgs s__law_said) (defBody s__law_said) (defScope s__law_said) .none kV__law_said dc__law_said pm__law_said an__law_said cd__law_said ct__law_said), sl__law_said⟩)
    (q__law_said : PySem.W.codeIn K cd__law_said "_law_said" = true)
    (k__law_said : PySem.W.keepIn K (.ref a__law_said) = true)
    (a__law_common_ : PySem.W.nsIn K mainGlobals "_law_common" = some (some (.ref a__law_common)))
    (l__law_common : K.lookup a__law_common = some ⟨oc__law_common, od__law_common, .func (PySem.W.fnOf "_law_common" "_law_common" (defArgs s__law_common) (defBody s__law_common) (defScope s__law_common) .none kV__law_common dc__law_common pm__law_common an__law_common cd__law_common ct__law_common), sl__law_common⟩)
    (q__law_common : PySem.W.codeIn K cd__law_common "_law_common" = true)
    (k__law_common : PySem.W.keepIn K (.ref a__law_common) = true)
    (a__law_meet_ : PySem.W.nsIn K mainGlobals "_law_meet" = some (some (.ref a__law_meet)))
    (l__law_meet : K.lookup a__law_meet = some ⟨oc__law_meet, od__law_meet, .func (PySem.W.fnOf "_law_meet" "_law_meet" (defArgs s__law_meet) (defBody s__law_meet) (defScope s__law_meet) .none kV__law_meet dc__law_meet pm__law_meet an__law_meet cd__law_meet ct__law_meet), sl__law_meet⟩)
    (q__law_meet : PySem.W.codeIn K cd__law_meet "_law_meet" = true)
    (k__law_meet : PySem.W.keepIn K (.ref a__law_meet) = true)
    (a__law_made_ : PySem.W.nsIn K mainGlobals "_law_made" = some (some (.ref a__law_made)))
    (l__law_made : K.lookup a__law_made = some ⟨oc__law_made, od__law_made, .func (PySem.W.fnOf "_law_made" "_law_made" (defArgs s__law_made) (defBody s__law_made) (defScope s__law_made) .none kV__law_made dc__law_made pm__law_made an__law_made cd__law_made ct__law_made), sl__law_made⟩)
    (q__law_made : PySem.W.codeIn K cd__law_made "_law_made" = true)
    (k__law_made : PySem.W.keepIn K (.ref a__law_made) = true)
    (a__law_day_ : PySem.W.nsIn K mainGlobals "_law_day" = some (some (.ref a__law_day)))
    (l__law_day : K.lookup a__law_day = some ⟨oc__law_day, od__law_day, .func (PySem.W.fnOf "_law_day" "_law_day" (defArgs s__law_day) (defBody s__law_day) (defScope s__law_day) .none kV__law_day dc__law_day pm__law_day an__law_day cd__law_day ct__law_day), sl__law_day⟩)
    (q__law_day : PySem.W.codeIn K cd__law_day "_law_day" = true)
    (k__law_day : PySem.W.keepIn K (.ref a__law_day) = true)
    (a__law_days_right_ : PySem.W.nsIn K mainGlobals "_law_days_right" = some (some (.ref a__law_days_right)))
    (l__law_days_right : K.lookup a__law_days_right = some ⟨oc__law_days_right, od__law_days_right, .func (PySem.W.fnOf "_law_days_right" "_law_days_right" (defArgs s__law_days_right) (defBody s__law_days_right) (defScope s__law_days_right) .none kV__law_days_right dc__law_days_right pm__law_days_right an__law_days_right cd__law_days_right ct__law_days_right), sl__law_days_right⟩)
    (q__law_days_right : PySem.W.codeIn K cd__law_days_right "_law_days_right" = true)
    (k__law_days_right : PySem.W.keepIn K (.ref a__law_days_right) = true)
    (a__law_row_right_ : PySem.W.nsIn K mainGlobals "_law_row_right" = some (some (.ref a__law_row_right)))
    (l__law_row_right : K.lookup a__law_row_right = some ⟨oc__law_row_right, od__law_row_right, .func (PySem.W.fnOf "_law_row_right" "_law_row_right" (defArgs s__law_row_right) (defBody s__law_row_right) (defScope s__law_row_right) .none kV__law_row_right dc__law_row_right pm__law_row_right an__law_row_right cd__law_row_right ct__law_row_right), sl__law_row_right⟩)
    (q__law_row_right : PySem.W.codeIn K cd__law_row_right "_law_row_right" = true)
    (k__law_row_right : PySem.W.keepIn K (.ref a__law_row_right) = true)
    (a__law_refused_right_ : PySem.W.nsIn K mainGlobals "_law_refused_right" = some (some (.ref a__law_refused_right)))
    (l__law_refused_right : K.lookup a__law_refused_right = some ⟨oc__law_refused_right, od__law_refused_right, .func (PySem.W.fnOf "_law_refused_right" "_law_refused_right" (defArgs s__law_refused_right) (defBody s__law_refused_right) (defScope s__law_refused_right) .none kV__law_refused_right dc__law_refused_right pm__law_refused_right an__law_refused_right (.ref cA__law_refused_right) ct__law_refused_right), sl__law_refused_right⟩)
    (q__law_refused_right : PySem.W.codeIn K (.ref cA__law_refused_right) "_law_refused_right" = true)
    (k__law_refused_right : PySem.W.keepIn K (.ref a__law_refused_right) = true)
    (u1__law_refused_right : K.lookup cA__law_refused_right = some ⟨cC__law_refused_right, cD__law_refused_right, .fields cV__law_refused_right, cS__law_refused_right⟩)
    (u2__law_refused_right : cV__law_refused_right[11]? = some (.ref pA__law_refused_right))
    (u3__law_refused_right : PySem.W.codeHdIn K cA__law_refused_right pA__law_refused_right = true)
    (u4__law_refused_right : K.lookup pA__law_refused_right = none)
    (u5__law_refused_right : h.get? pA__law_refused_right = some { cls := .none, data := .fields #[] })
    (a_law_ : PySem.W.nsIn K mainGlobals "law" = some (some (.ref a_law)))
    (l_law : K.lookup a_law = some ⟨oc_law, od_law, .func (PySem.W.fnOf "law" "law" (defArgs s_law) (defBody s_law) (defScope s_law) .none kV_law dc_law pm_law an_law cd_law ct_law), sl_law⟩)
    (q_law : PySem.W.codeIn K cd_law "law" = true)
    (k_law : PySem.W.keepIn K (.ref a_law) = true) :
    ∃ (cs : Tabls) (Γ : Gam), (∀ p ∈ cs, h.get? p.2.1 = some { cls := .none, data := .fields #[] }) ∧ (∀ p ∈ cs, K.lookup p.2.1 = none) ∧ (∀ p ∈ cs, PySem.W.CodeHd h p.1 p.2.1) ∧ ∀ base : Heap, K.In base → base.Ns mainGlobals mg → TabsB base mg cs → @Fn (tnOf cs) Γ P w K mg base "law" 9 1 (F_law Γ) := by
  letI tn0 : TN := tnOf []
  obtain ⟨Γ, hΓ⟩ : ∃ Γ : Gam, Γ = fun nm : Str => if nm = "BadPlan" then some C_BadPlan else if nm = "BadNumber" then some C_BadNumber else if nm = "BadParts" then some C_BadParts else none := ⟨_, rfl⟩
  have g_BadPlan : Γ "BadPlan" = some C_BadPlan := by rw [hΓ]; rfl
  have g_BadNumber : Γ "BadNumber" = some C_BadNumber := by rw [hΓ]; rfl
  have g_BadParts : Γ "BadParts" = some C_BadParts := by rw [hΓ]; rfl
  have allΓ : ∀ nm C, Γ nm = some C → (nm = "BadPlan" ∧ C = C_BadPlan) ∨ (nm = "BadNumber" ∧ C = C_BadNumber) ∨ (nm = "BadParts" ∧ C = C_BadParts) := fun nm C e => by
    rw [hΓ] at e
    dsimp only at e
    split at e
    · rename_i z; cases e; exact .inl ⟨z, rfl⟩
    split at e
    · rename_i z; cases e; exact .inr (.inl ⟨z, rfl⟩)
    split at e
    · rename_i z; cases e; exact .inr (.inr (⟨z, rfl⟩))
    cases e
  have T : Txt Γ P K mg :=
    { b_all := PySem.W.mg_none_of X G b_all
      b_any := PySem.W.mg_none_of X G b_any
      b_bool := PySem.W.mg_none_of X G b_bool
      b_enumerate := PySem.W.mg_none_of X G b_enumerate
      b_int := PySem.W.mg_none_of X G b_int
      b_isinstance := PySem.W.mg_none_of X G b_isinstance
      b_len := PySem.W.mg_none_of X G b_len
      b_list := PySem.W.mg_none_of X G b_list
      b_min := PySem.W.mg_none_of X G b_min
      b_range := PySem.W.mg_none_of X G b_range
      b_repr := PySem.W.mg_none_of X G b_repr
      b_tuple := PySem.W.mg_none_of X G b_tuple
      b_zip := PySem.W.mg_none_of X G b_zip
      c_MOST_HANDS := ⟨_, PySem.W.mg_of X G c_MOST_HANDS⟩
      c_MOST_THINGS := ⟨_, PySem.W.mg_of X G c_MOST_THINGS⟩
      c_MOST_GAP := ⟨_, PySem.W.mg_of X G c_MOST_GAP⟩
      c_MOST_ROW := ⟨_, PySem.W.mg_of X G c_MOST_ROW⟩
      x_BadPlan := ⟨C_BadPlan, g_BadPlan, "ValueError", "ValueError.__new__", "ValueError.__init__", _, i_BadPlan, cc_BadPlan, _, _, { gC := PySem.W.mg_of X G n_BadPlan, FB := PySem.F.excBase_ValueError, SF := PySem.F.store_ValueError, KF := PySem.W.kxs_ValueError, cls := xc_BadPlan, over := xo_BadPlan, sa := xs_BadPlan, ga := xg_BadPlan, gg := xh_BadPlan, iC := xi_BadPlan, tC := xf_BadPlan, kC := xk_BadPlan, exC := xe_BadPlan, subB := xb_BadPlan, tyC := xt_BadPlan, hdC := xd_BadPlan, self := xm_BadPlan, sup := xy_BadPlan, cell := ⟨_, _, _, xu_BadPlan⟩, opq := z_opq, noS := PySem.W.mg_none_of X G z_sup, top := z_top }, ⟨⟨_, _, _, _, _, _, _, _, _, [⟨6, 17, 6, 21⟩, ⟨6, 23, 6, 28⟩], _, _, _, _, _, _, _, _, _, _, _, _, _, rfl, ⟨_, _, _, _, rfl⟩, xl_BadPlan, xq_BadPlan, xr_BadPlan, xv_BadPlan, xw_BadPlan, rfl⟩⟩, xn_BadPlan⟩
      x_BadNumber := ⟨C_BadNumber, g_BadNumber, "ValueError", "ValueError.__new__", "ValueError.__init__", _, i_BadNumber, cc_BadNumber, _, _, { gC := PySem.W.mg_of X G n_BadNumber, FB := PySem.F.excBase_ValueError, SF := PySem.F.store_ValueError, KF := PySem.W.kxs_ValueError, cls := xc_BadNumber, over := xo_BadNumber, sa := xs_BadNumber, ga := xg_BadNumber, gg := xh_BadNumber, iC := xi_BadNumber, tC := xf_BadNumber, kC := xk_BadNumber, exC := xe_BadNumber, subB := xb_BadNumber, tyC := xt_BadNumber, hdC := xd_BadNumber, self := xm_BadNumber, sup := xy_BadNumber, cell := ⟨_, _, _, xu_BadNumber⟩, opq := z_opq, noS := PySem.W.mg_none_of X G z_sup, top := z_top }, ⟨⟨_, _, _, _, _, _, _, _, _, [⟨11, 17, 11, 21⟩, ⟨11, 23, 11, 28⟩], _, _, _, _, _, _, _, _, _, _, _, _, _, rfl, ⟨_, _, _, _, rfl⟩, xl_BadNumber, xq_BadNumber, xr_BadNumber, xv_BadNumber, xw_BadNumber, rfl⟩⟩, xn_BadNumber⟩
      x_BadParts := ⟨C_BadParts, g_BadParts, "ValueError", "ValueError.__new__", "ValueError.__init__", _, i_BadParts, cc_BadParts, _, _, { gC := PySem.W.mg_of X G n_BadParts, FB := PySem.F.excBase_ValueError, SF := PySem.F.store_ValueError, KF := PySem.W.kxs_ValueError, cls := xc_BadParts, over := xo_BadParts, sa := xs_BadParts, ga := xg_BadParts, gg := xh_BadParts, iC := xi_BadParts, tC := xf_BadParts, kC := xk_BadParts, exC := xe_BadParts, subB := xb_BadParts, tyC := xt_BadParts, hdC := xd_BadParts, self := xm_BadParts, sup := xy_BadParts, cell := ⟨_, _, _, xu_BadParts⟩, opq := z_opq, noS := PySem.W.mg_none_of X G z_sup, top := z_top }, ⟨⟨_, _, _, _, _, _, _, _, _, [⟨16, 17, 16, 21⟩, ⟨16, 23, 16, 28⟩], _, _, _, _, _, _, _, _, _, _, _, _, _, rfl, ⟨_, _, _, _, rfl⟩, xl_BadParts, xq_BadParts, xr_BadParts, xv_BadParts, xw_BadParts, rfl⟩⟩, xn_BadParts⟩
      k_TurnError := ⟨_, PySem.W.mg_of X G n_TurnError, fun nm C e => by
        rcases allΓ nm C e with ⟨rfl, rfl⟩ | ⟨rfl, rfl⟩ | ⟨rfl, rfl⟩
        · exact exm_of xe_TurnError w_TurnError xt_TurnError e_BadPlan_TurnError
        · exact exm_of xe_TurnError w_TurnError xt_TurnError e_BadNumber_TurnError
        · exact exm_of xe_TurnError w_TurnError xt_TurnError e_BadParts_TurnError⟩
      flds := fun nm C e => by
        rcases allΓ nm C e with ⟨rfl, rfl⟩ | ⟨rfl, rfl⟩ | ⟨rfl, rfl⟩
        · exact ⟨xg_BadPlan, xh_BadPlan, xe_BadPlan, xd_BadPlan, xn_BadPlan⟩
        · exact ⟨xg_BadNumber, xh_BadNumber, xe_BadNumber, xd_BadNumber, xn_BadNumber⟩
        · exact ⟨xg_BadParts, xh_BadParts, xe_BadParts, xd_BadParts, xn_BadParts⟩
      i_BadPlan := ⟨_, PySem.W.mg_of X G n_BadPlan, fun nm C e => by
        rcases allΓ nm C e with ⟨rfl, rfl⟩ | ⟨rfl, rfl⟩ | ⟨rfl, rfl⟩
        · exact kit_ofX w_BadPlan xt_BadPlan e_BadPlan_BadPlan es_BadPlan
        · exact kit_ofX w_BadPlan xt_BadPlan e_BadNumber_BadPlan es_BadPlan
        · exact kit_ofX w_BadPlan xt_BadPlan e_BadParts_BadPlan es_BadPlan⟩
      i_BadNumber := ⟨_, PySem.W.mg_of X G n_BadNumber, fun nm C e => by
        rcases allΓ nm C e with ⟨rfl, rfl⟩ | ⟨rfl, rfl⟩ | ⟨rfl, rfl⟩
        · exact kit_ofX w_BadNumber xt_BadNumber e_BadPlan_BadNumber es_BadNumber
        · exact kit_ofX w_BadNumber xt_BadNumber e_BadNumber_BadNumber es_BadNumber
        · exact kit_ofX w_BadNumber xt_BadNumber e_BadParts_BadNumber es_BadNumber⟩
      i_BadParts := ⟨_, PySem.W.mg_of X G n_BadParts, fun nm C e => by
        rcases allΓ nm C e with ⟨rfl, rfl⟩ | ⟨rfl, rfl⟩ | ⟨rfl, rfl⟩
        · exact kit_ofX w_BadParts xt_BadParts e_BadPlan_BadParts es_BadParts
        · exact kit_ofX w_BadParts xt_BadParts e_BadNumber_BadParts es_BadParts
        · exact kit_ofX w_BadParts xt_BadParts e_BadParts_BadParts es_BadParts⟩
      xis := ⟨z_hn, z_tk, fun nm C e => by
        rcases allΓ nm C e with ⟨rfl, rfl⟩ | ⟨rfl, rfl⟩ | ⟨rfl, rfl⟩
        · exact ⟨ic_BadPlan, xg_BadPlan, xh_BadPlan, xe_BadPlan, ia_BadPlan, io_BadPlan⟩
        · exact ⟨ic_BadNumber, xg_BadNumber, xh_BadNumber, xe_BadNumber, ia_BadNumber, io_BadNumber⟩
        · exact ⟨ic_BadParts, xg_BadParts, xh_BadParts, xe_BadParts, ia_BadParts, io_BadParts⟩⟩
      tru := trivial }
  refine ⟨[(cA__law_refused_right, pA__law_refused_right, ((PyProof.Rows.envOfC "_law_refused_right" (defScope s__law_refused_right) 0 0 .none).qual ++ "<lambda>"))], Γ, (mem_cons' (u5__law_refused_right) (fun _ z => (nomatch z))), (mem_cons' (u4__law_refused_right) (fun _ z => (nomatch z))), (mem_cons' (PySem.W.codeHd_of_K X u3__law_refused_right) (fun _ z => (nomatch z))), fun base _ _ tb => ?_⟩
  letI : TN := tnOf [(cA__law_refused_right, pA__law_refused_right, ((PyProof.Rows.envOfC "_law_refused_right" (defScope s__law_refused_right) 0 0 .none).qual ++ "<lambda>"))]
  have tb__law_refused_right : LamX.TabB base mg cA__law_refused_right pA__law_refused_right := tb (cA__law_refused_right, pA__law_refused_right, ((PyProof.Rows.envOfC "_law_refused_right" (defScope s__law_refused_right) 0 0 .none).qual ++ "<lambda>")) (List.mem_cons_self)
  have nq__law_refused_right : TN.nm pA__law_refused_right = some ((PyProof.Rows.envOfC "_law_refused_right" (defScope s__law_refused_right) 0 0 .none).qual ++ "<lambda>") := tn_hit
  have H_is_whole := fun_mk (st := s_is_whole) l_is_whole q_is_whole k_is_whole
  have B_is_whole := H_is_whole.binds (ps := ["value", "least", "most"]) fun _ _ _ _ _ _ us hl => match us, hl with | [_, _, _], _ => rfl
  have f_is_whole : Fn Γ P w K mg base "is_whole" 1 3 (F_is_whole Γ) := fn_is_whole T  H_is_whole (PySem.W.mg_of X G a_is_whole_) B_is_whole
  have H_need_plan := fun_mk (st := s_need_plan) l_need_plan q_need_plan k_need_plan
  have B_need_plan := H_need_plan.binds (ps := ["thing"]) fun _ _ _ _ _ _ us hl => match us, hl with | [_], _ => rfl
  have f_need_plan : Fn Γ P w K mg base "need_plan" 2 1 (F_need_plan Γ) := fn_need_plan T f_is_whole H_need_plan (PySem.W.mg_of X G a_need_plan_) B_need_plan
  have H_common := fun_mk (st := s_common) l_common q_common k_common
  have B_common := H_common.binds (ps := ["one", "other"]) fun _ _ _ _ _ _ us hl => match us, hl with | [_, _], _ => rfl
  have f_common : Fn Γ P w K mg base "common" 1 2 (F_common Γ) := fn_common T  H_common (PySem.W.mg_of X G a_common_) B_common
  have H_need_thing := fun_mk (st := s_need_thing) l_need_thing q_need_thing k_need_thing
  have B_need_thing := H_need_thing.binds (ps := ["plan", "number"]) fun _ _ _ _ _ _ us hl => match us, hl with | [_, _], _ => rfl
  have f_need_thing : Fn Γ P w K mg base "need_thing" 2 2 (F_need_thing Γ) := fn_need_thing T f_is_whole H_need_thing (PySem.W.mg_of X G a_need_thing_) B_need_thing
  have H_is_part := fun_mk (st := s_is_part) l_is_part q_is_part k_is_part
  have B_is_part := H_is_part.binds (ps := ["plan", "number", "value"]) fun _ _ _ _ _ _ us hl => match us, hl with | [_, _, _], _ => rfl
  have f_is_part : Fn Γ P w K mg base "is_part" 2 3 (F_is_part Γ) := fn_is_part T f_is_whole H_is_part (PySem.W.mg_of X G a_is_part_) B_is_part
  have H_do_meet := fun_mk (st := s_do_meet) l_do_meet q_do_meet k_do_meet
  have B_do_meet := H_do_meet.binds (ps := ["one", "other"]) fun _ _ _ _ _ _ us hl => match us, hl with | [_, _], _ => rfl
  have f_do_meet : Fn Γ P w K mg base "do_meet" 2 2 (F_do_meet Γ) := fn_do_meet T f_common H_do_meet (PySem.W.mg_of X G a_do_meet_) B_do_meet
  have H_are_parts_of := fun_mk (st := s_are_parts_of) l_are_parts_of q_are_parts_of k_are_parts_of
  have B_are_parts_of := H_are_parts_of.binds (ps := ["plan", "value"]) fun _ _ _ _ _ _ us hl => match us, hl with | [_, _], _ => rfl
  have f_are_parts_of : Fn Γ P w K mg base "are_parts_of" 3 2 (F_are_parts_of Γ) := fn_are_parts_of T f_do_meet f_is_part H_are_parts_of (PySem.W.mg_of X G a_are_parts_of_) B_are_parts_of
  have H_need_parts := fun_mk (st := s_need_parts) l_need_parts q_need_parts k_need_parts
  have B_need_parts := H_need_parts.binds (ps := ["plan", "parts"]) fun _ _ _ _ _ _ us hl => match us, hl with | [_, _], _ => rfl
  have f_need_parts : Fn Γ P w K mg base "need_parts" 4 2 (F_need_parts Γ) := fn_need_parts T f_are_parts_of f_need_plan H_need_parts (PySem.W.mg_of X G a_need_parts_) B_need_parts
  have H_need_day := fun_mk (st := s_need_day) l_need_day q_need_day k_need_day
  have B_need_day := H_need_day.binds (ps := ["value", "most"]) fun _ _ _ _ _ _ us hl => match us, hl with | [_, _], _ => rfl
  have f_need_day : Fn Γ P w K mg base "need_day" 2 2 (F_need_day Γ) := fn_need_day T f_is_whole H_need_day (PySem.W.mg_of X G a_need_day_) B_need_day
  have H_day_in := fun_mk (st := s_day_in) l_day_in q_day_in k_day_in
  have B_day_in := H_day_in.binds (ps := ["parts", "day"]) fun _ _ _ _ _ _ us hl => match us, hl with | [_, _], _ => rfl
  have f_day_in : Fn Γ P w K mg base "day_in" 1 2 (F_day_in Γ) := fn_day_in T  H_day_in (PySem.W.mg_of X G a_day_in_) B_day_in
  have H_day_by := fun_mk (st := s_day_by) l_day_by q_day_by k_day_by
  have B_day_by := H_day_by.binds (ps := ["plan", "parts", "day"]) fun _ _ _ _ _ _ us hl => match us, hl with | [_, _, _], _ => rfl
  have f_day_by : Fn Γ P w K mg base "day_by" 5 3 (F_day_by Γ) := fn_day_by T f_day_in f_need_day f_need_parts H_day_by (PySem.W.mg_of X G a_day_by_) B_day_by
  have H_next_by := fun_mk (st := s_next_by) l_next_by q_next_by k_next_by
  have B_next_by := H_next_by.binds (ps := ["plan", "parts", "number", "day"]) fun _ _ _ _ _ _ us hl => match us, hl with | [_, _, _, _], _ => rfl
  have f_next_by : Fn Γ P w K mg base "next_by" 5 4 (F_next_by Γ) := fn_next_by T f_need_day f_need_thing f_need_parts H_next_by (PySem.W.mg_of X G a_next_by_) B_next_by
  have H_row_by := fun_mk (st := s_row_by) l_row_by q_row_by k_row_by
  have B_row_by := H_row_by.binds (ps := ["plan", "parts", "many"]) fun _ _ _ _ _ _ us hl => match us, hl with | [_, _, _], _ => rfl
  have f_row_by : Fn Γ P w K mg base "row_by" 5 3 (F_row_by Γ) := fn_row_by T f_day_in f_need_day f_need_parts H_row_by (PySem.W.mg_of X G a_row_by_) B_row_by
  have H__law_begun := fun_mk (st := s__law_begun) l__law_begun q__law_begun k__law_begun
  have B__law_begun := H__law_begun.binds (ps := ["script", "k"]) fun _ _ _ _ _ _ us hl => match us, hl with | [_, _], _ => rfl
  have f__law_begun : Fn Γ P w K mg base "_law_begun" 1 2 (F__law_begun Γ) := fn__law_begun T  H__law_begun (PySem.W.mg_of X G a__law_begun_) B__law_begun
  have H__law_draw := fun_mk (st := s__law_draw) l__law_draw q__law_draw k__law_draw
  have B__law_draw := H__law_draw.binds (ps := ["m", "many"]) fun _ _ _ _ _ _ us hl => match us, hl with | [_, _], _ => rfl
  have f__law_draw : Fn Γ P w K mg base "_law_draw" 1 2 (F__law_draw Γ) := fn__law_draw T  H__law_draw (PySem.W.mg_of X G a__law_draw_) B__law_draw
  have H__law_of := fun_mk (st := s__law_of) l__law_of q__law_of k__law_of
  have B__law_of := H__law_of.binds (ps := ["m", "some"]) fun _ _ _ _ _ _ us hl => match us, hl with | [_, _], _ => rfl
  have f__law_of : Fn Γ P w K mg base "_law_of" 2 2 (F__law_of Γ) := fn__law_of T f__law_draw H__law_of (PySem.W.mg_of X G a__law_of_) B__law_of
  have H__law_go := fun_mk (st := s__law_go) l__law_go q__law_go k__law_go
  have B__law_go := H__law_go.binds (ps := ["frame", "ages", "lot"]) fun _ _ _ _ _ _ us hl => match us, hl with | [_, _, _], _ => rfl
  have f__law_go : Fn Γ P w K mg base "_law_go" 1 3 (F__law_go Γ) := fn__law_go T  H__law_go (PySem.W.mg_of X G a__law_go_) B__law_go
  have H__law_start := fun_mk (st := s__law_start) l__law_start q__law_start k__law_start
  have B__law_start := H__law_start.binds (ps := ["frame"]) fun _ _ _ _ _ _ us hl => match us, hl with | [_], _ => rfl
  have f__law_start : Fn Γ P w K mg base "_law_start" 1 1 (F__law_start Γ) := fn__law_start T  H__law_start (PySem.W.mg_of X G a__law_start_) B__law_start
  have H__law_said := fun_mk (st := s__law_said) l__law_said q__law_said k__law_said
  have B__law_said := H__law_said.binds (ps := ["call"]) fun _ _ _ _ _ _ us hl => match us, hl with | [_], _ => rfl
  have f__law_said : FnC Γ P w K mg base "_law_said" 7 6 1 (F__law_said Γ) := fn__law_said T  H__law_said (PySem.W.mg_of X G a__law_said_) B__law_said
  have H__law_common := fun_mk (st := s__law_common) l__law_common q__law_common k__law_common
  have B__law_common := H__law_common.binds (ps := ["near", "far"]) fun _ _ _ _ _ _ us hl => match us, hl with | [_, _], _ => rfl
  have f__law_common : Fn Γ P w K mg base "_law_common" 1 2 (F__law_common Γ) := fn__law_common T  H__law_common (PySem.W.mg_of X G a__law_common_) B__law_common
  have H__law_meet := fun_mk (st := s__law_meet) l__law_meet q__law_meet k__law_meet
  have B__law_meet := H__law_meet.binds (ps := ["near", "far"]) fun _ _ _ _ _ _ us hl => match us, hl with | [_, _], _ => rfl
  have f__law_meet : Fn Γ P w K mg base "_law_meet" 2 2 (F__law_meet Γ) := fn__law_meet T f__law_common H__law_meet (PySem.W.mg_of X G a__law_meet_) B__law_meet
  have H__law_made := fun_mk (st := s__law_made) l__law_made q__law_made k__law_made
  have B__law_made := H__law_made.binds (ps := ["m"]) fun _ _ _ _ _ _ us hl => match us, hl with | [_], _ => rfl
  have f__law_made : Fn Γ P w K mg base "_law_made" 3 1 (F__law_made Γ) := fn__law_made T f__law_of f__law_draw f__law_meet H__law_made (PySem.W.mg_of X G a__law_made_) B__law_made
  have H__law_day := fun_mk (st := s__law_day) l__law_day q__law_day k__law_day
  have B__law_day := H__law_day.binds (ps := ["sheet", "spot"]) fun _ _ _ _ _ _ us hl => match us, hl with | [_, _], _ => rfl
  have f__law_day : Fn Γ P w K mg base "_law_day" 1 2 (F__law_day Γ) := fn__law_day T  H__law_day (PySem.W.mg_of X G a__law_day_) B__law_day
  have H__law_days_right := fun_mk (st := s__law_days_right) l__law_days_right q__law_days_right k__law_days_right
  have B__law_days_right := H__law_days_right.binds (ps := ["m", "frame", "sheet"]) fun _ _ _ _ _ _ us hl => match us, hl with | [_, _, _], _ => rfl
  have f__law_days_right : Fn Γ P w K mg base "_law_days_right" 6 3 (F__law_days_right Γ) := fn__law_days_right T f_next_by f__law_day f_day_by f__law_draw H__law_days_right (PySem.W.mg_of X G a__law_days_right_) B__law_days_right
  have H__law_row_right := fun_mk (st := s__law_row_right) l__law_row_right q__law_row_right k__law_row_right
  have B__law_row_right := H__law_row_right.binds (ps := ["m", "frame", "sheet"]) fun _ _ _ _ _ _ us hl => match us, hl with | [_, _, _], _ => rfl
  have f__law_row_right : Fn Γ P w K mg base "_law_row_right" 6 3 (F__law_row_right Γ) := fn__law_row_right T f__law_go f__law_start f_row_by f__law_day f__law_of H__law_row_right (PySem.W.mg_of X G a__law_row_right_) B__law_row_right
  have H__law_refused_right := fun_mk (st := s__law_refused_right) l__law_refused_right q__law_refused_right k__law_refused_right
  have B__law_refused_right := H__law_refused_right.binds (ps := ["frame", "sheet"]) fun _ _ _ _ _ _ us hl => match us, hl with | [_, _], _ => rfl
  have f__law_refused_right : Fn Γ P w K mg base "_law_refused_right" 8 2 (F__law_refused_right Γ) := fn__law_refused_right T f__law_said f_row_by f_next_by f_day_by (c := cA__law_refused_right) (P0 := pA__law_refused_right) rfl tb__law_refused_right nq__law_refused_right H__law_refused_right (PySem.W.mg_of X G a__law_refused_right_) B__law_refused_right
  have H_law := fun_mk (st := s_law) l_law q_law k_law
  have B_law := H_law.binds (ps := ["script"]) fun _ _ _ _ _ _ us hl => match us, hl with | [_], _ => rfl
  have f_law : Fn Γ P w K mg base "law" 9 1 (F_law Γ) := fn_law T f_row_by f_day_by f_next_by f__law_refused_right f__law_days_right f__law_row_right f__law_made f__law_begun H_law (PySem.W.mg_of X G a_law_) B_law
  exact f_law
end K13

open PySem PySem.W PyProof.Rows
set_option maxHeartbeats 8000000 in
theorem PySem.Challenge.cw_oftenenough_k13_days_by_parts_holds : PySem.Challenge.rw_oftenenough_k13_days_by_parts.Holds := by
  w_on; o_law; k_head; (case hw => w_witness2)
  k_fill
  letI tn0 : OE.TN := OE.tnOf []
  refine OE.walk_g (l := PySem.Challenge.rw_oftenenough_k13_days_by_parts) (n := 63) (k := 9) (G := K13.F_law) rfl (by decide) rfl ⟨rfl, by decide, by decide⟩ (fun w h Y => PySem.W.km_in_of Y) ?F (fun Γ ns hn => K13.law_true Γ ns hn)
  case F =>
    intro w mg fa h Y KX G hmg
    refine' K13.all_mk KX G hmg ?b_all ?b_any ?b_bool ?b_enumerate ?b_int ?b_isinstance ?b_len ?b_list ?b_min ?b_range ?b_repr ?b_tuple ?b_zip ?c_MOST_HANDS ?c_MOST_THINGS ?c_MOST_GAP ?c_MOST_ROW ?n_TurnError ?xe_TurnError ?xt_TurnError ?n_BadPlan ?xe_BadPlan ?xt_BadPlan ?n_BadNumber ?xe_BadNumber ?xt_BadNumber ?n_BadParts ?xe_BadParts ?xt_BadParts ?xc_BadPlan ?xo_BadPlan ?xs_BadPlan ?xg_BadPlan ?xh_BadPlan ?xi_BadPlan ?xf_BadPlan ?xk_BadPlan ?xb_BadPlan ?xd_BadPlan ?xm_BadPlan ?xn_BadPlan ?xl_BadPlan ?xq_BadPlan ?xr_BadPlan ?xv_BadPlan ?xw_BadPlan ?xu_BadPlan ?xy_BadPlan ?xc_BadNumber ?xo_BadNumber ?xs_BadNumber ?xg_BadNumber ?xh_BadNumber ?xi_BadNumber ?xf_BadNumber ?xk_BadNumber ?xb_BadNumber ?xd_BadNumber ?xm_BadNumber ?xn_BadNumber ?xl_BadNumber ?xq_BadNumber ?xr_BadNumber ?xv_BadNumber ?xw_BadNumber ?xu_BadNumber ?xy_BadNumber ?xc_BadParts ?xo_BadParts ?xs_BadParts ?xg_BadParts ?xh_BadParts ?xi_BadParts ?xf_BadParts ?xk_BadParts ?xb_BadParts ?xd_BadParts ?xm_BadParts ?xn_BadParts ?xl_BadParts ?xq_BadParts ?xr_BadParts ?xv_BadParts ?xw_BadParts ?xu_BadParts ?xy_BadParts ?z_opq ?z_sup ?z_top ?es_BadPlan ?es_BadNumber ?es_BadParts ?z_hn ?z_tk ?ic_BadPlan ?ia_BadPlan ?io_BadPlan ?ic_BadNumber ?ia_BadNumber ?io_BadNumber ?ic_BadParts ?ia_BadParts ?io_BadParts ?w_TurnError ?e_BadPlan_TurnError ?e_BadNumber_TurnError ?e_BadParts_TurnError ?w_BadPlan ?e_BadPlan_BadPlan ?e_BadNumber_BadPlan ?e_BadParts_BadPlan ?w_BadNumber ?e_BadPlan_BadNumber ?e_BadNumber_BadNumber ?e_BadParts_BadNumber ?w_BadParts ?e_BadPlan_BadParts ?e_BadNumber_BadParts ?e_BadParts_BadParts ?a_is_whole_ ?l_is_whole ?q_is_whole ?k_is_whole ?a_need_plan_ ?l_need_plan ?q_need_plan ?k_need_plan ?a_common_ ?l_common ?q_common ?k_common ?a_need_thing_ ?l_need_thing ?q_need_thing ?k_need_thing ?a_is_part_ ?l_is_part ?q_is_part ?k_is_part ?a_do_meet_ ?l_do_meet ?q_do_meet ?k_do_meet ?a_are_parts_of_ ?l_are_parts_of ?q_are_parts_of ?k_are_parts_of ?a_need_parts_ ?l_need_parts ?q_need_parts ?k_need_parts ?a_need_day_ ?l_need_day ?q_need_day ?k_need_day ?a_day_in_ ?l_day_in ?q_day_in ?k_day_in ?a_day_by_ ?l_day_by ?q_day_by ?k_day_by ?a_next_by_ ?l_next_by ?q_next_by ?k_next_by ?a_row_by_ ?l_row_by ?q_row_by ?k_row_by ?a__law_begun_ ?l__law_begun ?q__law_begun ?k__law_begun ?a__law_draw_ ?l__law_draw ?q__law_draw ?k__law_draw ?a__law_of_ ?l__law_of ?q__law_of ?k__law_of ?a__law_go_ ?l__law_go ?q__law_go ?k__law_go ?a__law_start_ ?l__law_start ?q__law_start ?k__law_start ?a__law_said_ ?l__law_said ?q__law_said ?k__law_said ?a__law_common_ ?l__law_common ?q__law_common ?k__law_common ?a__law_meet_ ?l__law_meet ?q__law_meet ?k__law_meet ?a__law_made_ ?l__law_made ?q__law_made ?k__law_made ?a__law_day_ ?l__law_day ?q__law_day ?k__law_day ?a__law_days_right_ ?l__law_days_right ?q__law_days_right ?k__law_days_right ?a__law_row_right_ ?l__law_row_right ?q__law_row_right ?k__law_row_right ?a__law_refused_right_ ?l__law_refused_right ?q__law_refused_right ?k__law_refused_right ?u1__law_refused_right ?u2__law_refused_right ?u3__law_refused_right ?u4__law_refused_right ?u5__law_refused_right ?a_law_ ?l_law ?q_law ?k_law
    (case b_all => first | k_is | kx_is | ks_is | rfl | decide +kernel)
    (case b_any => first | k_is | kx_is | ks_is | rfl | decide +kernel)
    (case b_bool => first | k_is | kx_is | ks_is | rfl | decide +kernel)
    (case b_enumerate => first | k_is | kx_is | ks_is | rfl | decide +kernel)
    (case b_int => first | k_is | kx_is | ks_is | rfl | decide +kernel)
    (case b_isinstance => first | k_is | kx_is | ks_is | rfl | decide +kernel)
    (case b_len => first | k_is | kx_is | ks_is | rfl | decide +kernel)
    (case b_list => first | k_is | kx_is | ks_is | rfl | decide +kernel)
    (case b_min => first | k_is | kx_is | ks_is | rfl | decide +kernel)
    (case b_range => first | k_is | kx_is | ks_is | rfl | decide +kernel)
    (case b_repr => first | k_is | kx_is | ks_is | rfl | decide +kernel)
    (case b_tuple => first | k_is | kx_is | ks_is | rfl | decide +kernel)
    (case b_zip => first | k_is | kx_is | ks_is | rfl | decide +kernel)
    (case c_MOST_HANDS => first | k_is | kx_is | ks_is | rfl | decide +kernel)
    (case c_MOST_THINGS => first | k_is | kx_is | ks_is | rfl | decide +kernel)
    (case c_MOST_GAP => first | k_is | kx_is | ks_is | rfl | decide +kernel)
    (case c_MOST_ROW => first | k_is | kx_is | ks_is | rfl | decide +kernel)
    (case n_TurnError => first | k_is | kx_is | ks_is | rfl | decide +kernel)
    (case xe_TurnError => first | k_is | kx_is | ks_is | rfl | decide +kernel)
    (case xt_TurnError => first | k_is | kx_is | ks_is | rfl | decide +kernel)
    (case n_BadPlan => first | k_is | kx_is | ks_is | rfl | decide +kernel)
    (case xe_BadPlan => first | k_is | kx_is | ks_is | rfl | decide +kernel)
    (case xt_BadPlan => first | k_is | kx_is | ks_is | rfl | decide +kernel)
    (case n_BadNumber => first | k_is | kx_is | ks_is | rfl | decide +kernel)
    (case xe_BadNumber => first | k_is | kx_is | ks_is | rfl | decide +kernel)
    (case xt_BadNumber => first | k_is | kx_is | ks_is | rfl | decide +kernel)
    (case n_BadParts => first | k_is | kx_is | ks_is | rfl | decide +kernel)
    (case xe_BadParts => first | k_is | kx_is | ks_is | rfl | decide +kernel)
    (case xt_BadParts => first | k_is | kx_is | ks_is | rfl | decide +kernel)
    (case xc_BadPlan => first | k_is | kx_is | ks_is | rfl | decide +kernel)
    (case xo_BadPlan => first | k_is | kx_is | ks_is | rfl | decide +kernel)
    (case xs_BadPlan => first | k_is | kx_is | ks_is | rfl | decide +kernel)
    (case xg_BadPlan => first | k_is | kx_is | ks_is | rfl | decide +kernel)
    (case xh_BadPlan => first | k_is | kx_is | ks_is | rfl | decide +kernel)
    (case xi_BadPlan => first | k_is | kx_is | ks_is | rfl | decide +kernel)
    (case xf_BadPlan => first | k_is | kx_is | ks_is | rfl | decide +kernel)
    (case xk_BadPlan => first | k_is | kx_is | ks_is | rfl | decide +kernel)
    (case xb_BadPlan => first | k_is | kx_is | ks_is | rfl | decide +kernel)
    (case xd_BadPlan => first | k_is | kx_is | ks_is | rfl | decide +kernel)
    (case xm_BadPlan => first | k_is | kx_is | ks_is | rfl | decide +kernel)
    (case xn_BadPlan => first | k_is | kx_is | ks_is | rfl | decide +kernel)
    (case xl_BadPlan => first | k_is | kx_is | ks_is | rfl | decide +kernel)
    (case xq_BadPlan => first | k_is | kx_is | ks_is | rfl | decide +kernel)
    (case xr_BadPlan => first | k_is | kx_is | ks_is | rfl | decide +kernel)
    (case xv_BadPlan => first | k_is | kx_is | ks_is | rfl | decide +kernel)
    (case xw_BadPlan => first | k_is | kx_is | ks_is | rfl | decide +kernel)
    (case xu_BadPlan => first | k_is | kx_is | ks_is | rfl | decide +kernel)
    (case xy_BadPlan => first | k_is | kx_is | ks_is | rfl | decide +kernel)
    (case xc_BadNumber => first | k_is | kx_is | ks_is | rfl | decide +kernel)
    (case xo_BadNumber => first | k_is | kx_is | ks_is | rfl | decide +kernel)
    (case xs_BadNumber => first | k_is | kx_is | ks_is | rfl | decide +kernel)
    (case xg_BadNumber => first | k_is | kx_is | ks_is | rfl | decide +kernel)
    (case xh_BadNumber => first | k_is | kx_is | ks_is | rfl | decide +kernel)
    (case xi_BadNumber => first | k_is | kx_is | ks_is | rfl | decide +kernel)
    (case xf_BadNumber => first | k_is | kx_is | ks_is | rfl | decide +kernel)
    (case xk_BadNumber => first | k_is | kx_is | ks_is | rfl | decide +kernel)
    (case xb_BadNumber => first | k_is | kx_is | ks_is | rfl | decide +kernel)
    (case xd_BadNumber => first | k_is | kx_is | ks_is | rfl | decide +kernel)
    (case xm_BadNumber => first | k_is | kx_is | ks_is | rfl | decide +kernel)
    (case xn_BadNumber => first | k_is | kx_is | ks_is | rfl | decide +kernel)
    (case xl_BadNumber => first | k_is | kx_is | ks_is | rfl | decide +kernel)
    (case xq_BadNumber => first | k_is | kx_is | ks_is | rfl | decide +kernel)
    (case xr_BadNumber => first | k_is | kx_is | ks_is | rfl | decide +kernel)
    (case xv_BadNumber => first | k_is | kx_is | ks_is | rfl | decide +kernel)
    (case xw_BadNumber => first | k_is | kx_is | ks_is | rfl | decide +kernel)
    (case xu_BadNumber => first | k_is | kx_is | ks_is | rfl | decide +kernel)
    (case xy_BadNumber => first | k_is | kx_is | ks_is | rfl | decide +kernel)
    (case xc_BadParts => first | k_is | kx_is | ks_is | rfl | decide +kernel)
    (case xo_BadParts => first | k_is | kx_is | ks_is | rfl | decide +kernel)
    (case xs_BadParts => first | k_is | kx_is | ks_is | rfl | decide +kernel)
    (case xg_BadParts => first | k_is | kx_is | ks_is | rfl | decide +kernel)
    (case xh_BadParts => first | k_is | kx_is | ks_is | rfl | decide +kernel)
    (case xi_BadParts => first | k_is | kx_is | ks_is | rfl | decide +kernel)
    (case xf_BadParts => first | k_is | kx_is | ks_is | rfl | decide +kernel)
    (case xk_BadParts => first | k_is | kx_is | ks_is | rfl | decide +kernel)
    (case xb_BadParts => first | k_is | kx_is | ks_is | rfl | decide +kernel)
    (case xd_BadParts => first | k_is | kx_is | ks_is | rfl | decide +kernel)
    (case xm_BadParts => first | k_is | kx_is | ks_is | rfl | decide +kernel)
    (case xn_BadParts => first | k_is | kx_is | ks_is | rfl | decide +kernel)
    (case xl_BadParts => first | k_is | kx_is | ks_is | rfl | decide +kernel)
    (case xq_BadParts => first | k_is | kx_is | ks_is | rfl | decide +kernel)
    (case xr_BadParts => first | k_is | kx_is | ks_is | rfl | decide +kernel)
    (case xv_BadParts => first | k_is | kx_is | ks_is | rfl | decide +kernel)
    (case xw_BadParts => first | k_is | kx_is | ks_is | rfl | decide +kernel)
    (case xu_BadParts => first | k_is | kx_is | ks_is | rfl | decide +kernel)
    (case xy_BadParts => first | k_is | kx_is | ks_is | rfl | decide +kernel)
    (case z_opq => first | k_is | kx_is | ks_is | rfl | decide +kernel)
    (case z_sup => first | k_is | kx_is | ks_is | rfl | decide +kernel)
    (case z_top => first | k_is | kx_is | ks_is | rfl | decide +kernel)
    (case es_BadPlan => first | k_is | kx_is | ks_is | rfl | decide +kernel)
    (case es_BadNumber => first | k_is | kx_is | ks_is | rfl | decide +kernel)
    (case es_BadParts => first | k_is | kx_is | ks_is | rfl | decide +kernel)
    (case z_hn => first | k_is | kx_is | ks_is | rfl | decide +kernel)
    (case z_tk => first | k_is | kx_is | ks_is | rfl | decide +kernel)
    (case ic_BadPlan => first | k_is | kx_is | ks_is | rfl | decide +kernel)
    (case ia_BadPlan => first | k_is | kx_is | ks_is | rfl | decide +kernel)
    (case io_BadPlan => first | k_is | kx_is | ks_is | rfl | decide +kernel)
    (case ic_BadNumber => first | k_is | kx_is | ks_is | rfl | decide +kernel)
    (case ia_BadNumber => first | k_is | kx_is | ks_is | rfl | decide +kernel)
    (case io_BadNumber => first | k_is | kx_is | ks_is | rfl | decide +kernel)
    (case ic_BadParts => first | k_is | kx_is | ks_is | rfl | decide +kernel)
    (case ia_BadParts => first | k_is | kx_is | ks_is | rfl | decide +kernel)
    (case io_BadParts => first | k_is | kx_is | ks_is | rfl | decide +kernel)
    (case w_TurnError => first | k_is | kx_is | ks_is | rfl | decide +kernel)
    (case e_BadPlan_TurnError => first | k_is | kx_is | ks_is | rfl | decide +kernel)
    (case e_BadNumber_TurnError => first | k_is | kx_is | ks_is | rfl | decide +kernel)
    (case e_BadParts_TurnError => first | k_is | kx_is | ks_is | rfl | decide +kernel)
    (case w_BadPlan => first | k_is | kx_is | ks_is | rfl | decide +kernel)
    (case e_BadPlan_BadPlan => first | k_is | kx_is | ks_is | rfl | decide +kernel)
    (case e_BadNumber_BadPlan => first | k_is | kx_is | ks_is | rfl | decide +kernel)
    (case e_BadParts_BadPlan => first | k_is | kx_is | ks_is | rfl | decide +kernel)
    (case w_BadNumber => first | k_is | kx_is | ks_is | rfl | decide +kernel)
    (case e_BadPlan_BadNumber => first | k_is | kx_is | ks_is | rfl | decide +kernel)
    (case e_BadNumber_BadNumber => first | k_is | kx_is | ks_is | rfl | decide +kernel)
    (case e_BadParts_BadNumber => first | k_is | kx_is | ks_is | rfl | decide +kernel)
    (case w_BadParts => first | k_is | kx_is | ks_is | rfl | decide +kernel)
    (case e_BadPlan_BadParts => first | k_is | kx_is | ks_is | rfl | decide +kernel)
    (case e_BadNumber_BadParts => first | k_is | kx_is | ks_is | rfl | decide +kernel)
    (case e_BadParts_BadParts => first | k_is | kx_is | ks_is | rfl | decide +kernel)
    (case a_is_whole_ => first | k_is | kx_is | ks_is | rfl | decide +kernel)
    (case l_is_whole => first | k_is | kx_is | ks_is | rfl | decide +kernel)
    (case q_is_whole => first | k_is | kx_is | ks_is | rfl | decide +kernel)
    (case k_is_whole => first | k_is | kx_is | ks_is | rfl | decide +kernel)
    (case a_need_plan_ => first | k_is | kx_is | ks_is | rfl | decide +kernel)
    (case l_need_plan => first | k_is | kx_is | ks_is | rfl | decide +kernel)
    (case q_need_plan => first | k_is | kx_is | ks_is | rfl | decide +kernel)
    (case k_need_plan => first | k_is | kx_is | ks_is | rfl | decide +kernel)
    (case a_common_ => first | k_is | kx_is | ks_is | rfl | decide +kernel)
    (case l_common => first | k_is | kx_is | ks_is | rfl | decide +kernel)
    (case q_common => first | k_is | kx_is | ks_is | rfl | decide +kernel)
    (case k_common => first | k_is | kx_is | ks_is | rfl | decide +kernel)
    (case a_need_thing_ => first | k_is | kx_is | ks_is | rfl | decide +kernel)
    (case l_need_thing => first | k_is | kx_is | ks_is | rfl | decide +kernel)
    (case q_need_thing => first | k_is | kx_is | ks_is | rfl | decide +kernel)
    (case k_need_thing => first | k_is | kx_is | ks_is | rfl | decide +kernel)
    (case a_is_part_ => first | k_is | kx_is | ks_is | rfl | decide +kernel)
    (case l_is_part => first | k_is | kx_is | ks_is | rfl | decide +kernel)
    (case q_is_part => first | k_is | kx_is | ks_is | rfl | decide +kernel)
    (case k_is_part => first | k_is | kx_is | ks_is | rfl | decide +kernel)
    (case a_do_meet_ => first | k_is | kx_is | ks_is | rfl | decide +kernel)
    (case l_do_meet => first | k_is | kx_is | ks_is | rfl | decide +kernel)
    (case q_do_meet => first | k_is | kx_is | ks_is | rfl | decide +kernel)
    (case k_do_meet => first | k_is | kx_is | ks_is | rfl | decide +kernel)
    (case a_are_parts_of_ => first | k_is | kx_is | ks_is | rfl | decide +kernel)
    (case l_are_parts_of => first | k_is | kx_is | ks_is | rfl | decide +kernel)
    (case q_are_parts_of => first | k_is | kx_is | ks_is | rfl | decide +kernel)
    (case k_are_parts_of => first | k_is | kx_is | ks_is | rfl | decide +kernel)
    (case a_need_parts_ => first | k_is | kx_is | ks_is | rfl | decide +kernel)
    (case l_need_parts => first | k_is | kx_is | ks_is | rfl | decide +kernel)
    (case q_need_parts => first | k_is | kx_is | ks_is | rfl | decide +kernel)
    (case k_need_parts => first | k_is | kx_is | ks_is | rfl | decide +kernel)
    (case a_need_day_ => first | k_is | kx_is | ks_is | rfl | decide +kernel)
    (case l_need_day => first | k_is | kx_is | ks_is | rfl | decide +kernel)
    (case q_need_day => first | k_is | kx_is | ks_is | rfl | decide +kernel)
    (case k_need_day => first | k_is | kx_is | ks_is | rfl | decide +kernel)
    (case a_day_in_ => first | k_is | kx_is | ks_is | rfl | decide +kernel)
    (case l_day_in => first | k_is | kx_is | ks_is | rfl | decide +kernel)
    (case q_day_in => first | k_is | kx_is | ks_is | rfl | decide +kernel)
    (case k_day_in => first | k_is | kx_is | ks_is | rfl | decide +kernel)
    (case a_day_by_ => first | k_is | kx_is | ks_is | rfl | decide +kernel)
    (case l_day_by => first | k_is | kx_is | ks_is | rfl | decide +kernel)
    (case q_day_by => first | k_is | kx_is | ks_is | rfl | decide +kernel)
    (case k_day_by => first | k_is | kx_is | ks_is | rfl | decide +kernel)
    (case a_next_by_ => first | k_is | kx_is | ks_is | rfl | decide +kernel)
    (case l_next_by => first | k_is | kx_is | ks_is | rfl | decide +kernel)
    (case q_next_by => first | k_is | kx_is | ks_is | rfl | decide +kernel)
    (case k_next_by => first | k_is | kx_is | ks_is | rfl | decide +kernel)
    (case a_row_by_ => first | k_is | kx_is | ks_is | rfl | decide +kernel)
    (case l_row_by => first | k_is | kx_is | ks_is | rfl | decide +kernel)
    (case q_row_by => first | k_is | kx_is | ks_is | rfl | decide +kernel)
    (case k_row_by => first | k_is | kx_is | ks_is | rfl | decide +kernel)
    (case a__law_begun_ => first | k_is | kx_is | ks_is | rfl | decide +kernel)
    (case l__law_begun => first | k_is | kx_is | ks_is | rfl | decide +kernel)
    (case q__law_begun => first | k_is | kx_is | ks_is | rfl | decide +kernel)
    (case k__law_begun => first | k_is | kx_is | ks_is | rfl | decide +kernel)
    (case a__law_draw_ => first | k_is | kx_is | ks_is | rfl | decide +kernel)
    (case l__law_draw => first | k_is | kx_is | ks_is | rfl | decide +kernel)
    (case q__law_draw => first | k_is | kx_is | ks_is | rfl | decide +kernel)
    (case k__law_draw => first | k_is | kx_is | ks_is | rfl | decide +kernel)
    (case a__law_of_ => first | k_is | kx_is | ks_is | rfl | decide +kernel)
    (case l__law_of => first | k_is | kx_is | ks_is | rfl | decide +kernel)
    (case q__law_of => first | k_is | kx_is | ks_is | rfl | decide +kernel)
    (case k__law_of => first | k_is | kx_is | ks_is | rfl | decide +kernel)
    (case a__law_go_ => first | k_is | kx_is | ks_is | rfl | decide +kernel)
    (case l__law_go => first | k_is | kx_is | ks_is | rfl | decide +kernel)
    (case q__law_go => first | k_is | kx_is | ks_is | rfl | decide +kernel)
    (case k__law_go => first | k_is | kx_is | ks_is | rfl | decide +kernel)
    (case a__law_start_ => first | k_is | kx_is | ks_is | rfl | decide +kernel)
    (case l__law_start => first | k_is | kx_is | ks_is | rfl | decide +kernel)
    (case q__law_start => first | k_is | kx_is | ks_is | rfl | decide +kernel)
    (case k__law_start => first | k_is | kx_is | ks_is | rfl | decide +kernel)
    (case a__law_said_ => first | k_is | kx_is | ks_is | rfl | decide +kernel)
    (case l__law_said => first | k_is | kx_is | ks_is | rfl | decide +kernel)
    (case q__law_said => first | k_is | kx_is | ks_is | rfl | decide +kernel)
    (case k__law_said => first | k_is | kx_is | ks_is | rfl | decide +kernel)
    (case a__law_common_ => first | k_is | kx_is | ks_is | rfl | decide +kernel)
    (case l__law_common => first | k_is | kx_is | ks_is | rfl | decide +kernel)
    (case q__law_common => first | k_is | kx_is | ks_is | rfl | decide +kernel)
    (case k__law_common => first | k_is | kx_is | ks_is | rfl | decide +kernel)
    (case a__law_meet_ => first | k_is | kx_is | ks_is | rfl | decide +kernel)
    (case l__law_meet => first | k_is | kx_is | ks_is | rfl | decide +kernel)
    (case q__law_meet => first | k_is | kx_is | ks_is | rfl | decide +kernel)
    (case k__law_meet => first | k_is | kx_is | ks_is | rfl | decide +kernel)
    (case a__law_made_ => first | k_is | kx_is | ks_is | rfl | decide +kernel)
    (case l__law_made => first | k_is | kx_is | ks_is | rfl | decide +kernel)
    (case q__law_made => first | k_is | kx_is | ks_is | rfl | decide +kernel)
    (case k__law_made => first | k_is | kx_is | ks_is | rfl | decide +kernel)
    (case a__law_day_ => first | k_is | kx_is | ks_is | rfl | decide +kernel)
    (case l__law_day => first | k_is | kx_is | ks_is | rfl | decide +kernel)
    (case q__law_day => first | k_is | kx_is | ks_is | rfl | decide +kernel)
    (case k__law_day => first | k_is | kx_is | ks_is | rfl | decide +kernel)
    (case a__law_days_right_ => first | k_is | kx_is | ks_is | rfl | decide +kernel)
    (case l__law_days_right => first | k_is | kx_is | ks_is | rfl | decide +kernel)
    (case q__law_days_right => first | k_is | kx_is | ks_is | rfl | decide +kernel)
    (case k__law_days_right => first | k_is | kx_is | ks_is | rfl | decide +kernel)
    (case a__law_row_right_ => first | k_is | kx_is | ks_is | rfl | decide +kernel)
    (case l__law_row_right => first | k_is | kx_is | ks_is | rfl | decide +kernel)
    (case q__law_row_right => first | k_is | kx_is | ks_is | rfl | decide +kernel)
    (case k__law_row_right => first | k_is | kx_is | ks_is | rfl | decide +kernel)
    (case a__law_refused_right_ => first | k_is | kx_is | ks_is | rfl | decide +kernel)
    (case l__law_refused_right => first | k_is | kx_is | ks_is | rfl | decide +kernel)
    (case q__law_refused_right => first | k_is | kx_is | ks_is | rfl | decide +kernel)
    (case k__law_refused_right => first | k_is | kx_is | ks_is | rfl | decide +kernel)
    (case u1__law_refused_right => first | k_is | kx_is | ks_is | rfl | decide +kernel)
    (case u2__law_refused_right => first | k_is | kx_is | ks_is | rfl | decide +kernel)
    (case u3__law_refused_right => first | k_is | kx_is | ks_is | rfl | decide +kernel)
    (case u4__law_refused_right => first | k_is | kx_is | ks_is | rfl | decide +kernel)
    (case u5__law_refused_right => exact PySem.W.km_tabs_of Y _ (by decide))
    (case a_law_ => first | k_is | kx_is | ks_is | rfl | decide +kernel)
    (case l_law => first | k_is | kx_is | ks_is | rfl | decide +kernel)
    (case q_law => first | k_is | kx_is | ks_is | rfl | decide +kernel)
    (case k_law => first | k_is | kx_is | ks_is | rfl | decide +kernel)
#print axioms PySem.Challenge.cw_oftenenough_k13_days_by_parts_holds
