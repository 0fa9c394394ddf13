import PyProof.Rows.All
import Wide.All
import OpenK.AllK
import Wide.FinOn
import HandS.ForMost
import HandS.ForExc
import HandS.Lambda
import HandS.Defaults
import HandS.CallSlots
import HandS.MakeKw
import HandS.MakeKwOnly
import KE.DataEq
import HandS.Text
import HandS.SortInts
import HandS.SortKw
import HandS.Flow
import HandS.IsInst
import HandS.Wide
import HandS.TupAny
import HandS.Style
import HandS.Deep
import HandS.Codes
import HandS.More
import HandS.WordsDict
import HandS.DictEq
import KE.SortData
import KE.DataMinMax
import HandS.TryOnly
import PyProof.ExcBaseAll.ValueError
import HandS.HeadHook1
import HandS.HeadHook2
import HandS.WordsExc
import KE.KUnpackStar
import HandS.Ends
import HandS.EndBits
import PyProof.ReprRoads
import HandS.RaiseMore
import HandS.HeadEnd
import HandS.DictComp
import HandS.Head0
import HandS.Head1
import HandS.Head2
import HandS.ExcIs
import KE.KDictKeyed
import HandS.NestedK
import HandS.HeadHook4
import HandS.HeadWalk
import KE.DataFind
import PySem.Challenge.RW_bandforks_k02_what_is_no_place
set_option Elab.async false
set_option linter.all false
set_option maxRecDepth 100000
set_option maxHeartbeats 4000000
namespace BF
open PySem PySem.Spec L2
open PyProof.Rows hiding St
set_option autoImplicit false

inductive PV where
  | non | bl (b : Bool) | int (i : Int) | str (x : Str) | ty (n : String)
  | tup (xs : List PV) | lst (xs : List PV)
  | dct (kvs : List (Key × PV))
  | ins (c : Str) (fs : List (Str × PV))
  | scr (ns : List Int)
  | cl (c : Str)
instance : Inhabited PV := ⟨.non⟩

inductive Res (α : Type) where
  | ok (a : α) | exc (c : Str) | stuck
def Res.bind {α β : Type} : Res α → (α → Res β) → Res β
  | .ok a, f => f a
  | .exc c, _ => .exc c
  | .stuck, _ => .stuck
instance : Monad Res where
  pure := Res.ok
  bind := Res.bind
@[simp] theorem ok_bind {α β : Type} (a : α) (f : α → Res β) : (Res.ok a >>= f) = f a := rfl
@[simp] theorem exc_bind {α β : Type} (c : Str) (f : α → Res β) : ((Res.exc c : Res α) >>= f) = .exc c := rfl
@[simp] theorem stuck_bind {α β : Type} (f : α → Res β) : ((Res.stuck : Res α) >>= f) = .stuck := rfl
@[simp] theorem pure_ok {α : Type} (a : α) : (pure a : Res α) = .ok a := rfl
theorem res_assoc {α β γ : Type} (m : Res α) (f : α → Res β) (g : β → Res γ) : (m >>= f) >>= g = m >>= fun a => f a >>= g := by
  cases m <;> rfl

/-- what is known of a slot: nothing; data, frozen; data of an object that no one else holds (this def's own, or handed in by reference) -/
inductive Slot where
  | dead | val (x : PV) | own (x : PV) | prm (x : PV)
instance : Inhabited Slot := ⟨.dead⟩
abbrev En := List Slot
def Slot.pv : Slot → PV
  | .val x => x
  | .own x => x
  | _ => .non

@[simp] theorem pv_val (x : PV) : (Slot.val x).pv = x := rfl
@[simp] theorem pv_own (x : PV) : (Slot.own x).pv = x := rfl
structure Gm where
  cls : Str → Addr
  /-- tables of code objects of defs that make a lambda -/
  tabs : List Addr := []
/-- the lambdas' names by where they stand (a column alone tells) -/
def nmT : Nat → Nat → Str := fun _ c => if c = 25 then "state_course.<locals>.<lambda>" else if c = 29 then "marks_course.<locals>.<lambda>" else "Sights.later.<locals>.<lambda>"
/-- a good table -/
def TabM (H : Hp) (P : Addr) : Prop := ∃ ps : Array Value, H P = some (.tbl ps) ∧ TriplesOk ps.toList ∧ ∀ (pos : Pos) (cv : Value), codeAmong pos ps.toList = some cv → ∃ c, cv = .ref c ∧ H c = some (LamX.CodeO c (nmT pos.line pos.col))
theorem TabM.nil {H : Hp} {P : Addr} (h : H P = some (.tbl #[])) : TabM H P := ⟨#[], h, True.intro, fun pos cv hc => by
  have z : codeAmong pos [] = some cv := hc
  simp [codeAmong] at z⟩
/-- no table of code objects -/
def NT (o : HO) : Prop := ∀ ps, o ≠ .tbl ps
/-- the tables are good, and not frozen -/
def TabI (T : List Addr) (I H : Hp) : Prop := ∀ P ∈ T, TabM H P ∧ I P = none
/-- they stay so -/
def TabsE (I H I' H' : Hp) : Prop := ∀ P, TabM H P ∧ I P = none → TabM H' P ∧ I' P = none
theorem TabsE.refl (I H : Hp) : TabsE I H I H := fun _ h => h
theorem TabsE.trans {I H I1 H1 I2 H2 : Hp} (a : TabsE I H I1 H1) (b : TabsE I1 H1 I2 H2) : TabsE I H I2 H2 := fun P h => b P (a P h)
theorem TabsE.put {I H : Hp} {a : Addr} {o : HO} (h : ∀ ps, H a ≠ some (.tbl ps)) (h2 : ∀ q, H a ≠ some (LamX.CodeO a q)) : TabsE I H I (upd H a o) := fun P ⟨⟨ps, h1, ht, hc⟩, hi⟩ => by
  have ne : ∀ c u, H c = some u → (c = a → False) → upd H a o c = some u := fun c u e n => by rw [upd_ne n]; exact e
  refine ⟨⟨ps, ne _ _ h1 (fun e => h ps (e ▸ h1)), ht, fun pos cv e => ?_⟩, hi⟩
  obtain ⟨c, e1, e2⟩ := hc pos cv e
  exact ⟨c, e1, ne _ _ e2 (fun z => h2 _ (by subst z; exact e2))⟩
theorem TabsE.new {I H : Hp} {a : Addr} {o : HO} (h : H a = Option.none) : TabsE I H I (upd H a o)   := TabsE.put (fun ps z => by rw [h] at z; cases z) (fun q z => by rw [h] at z; cases z)
/-- something else is frozen -/
theorem TabsE.frz {I H : Hp} {a : Addr} {o u : HO} (q : H a = some o) (nt : NT o) : TabsE I H (upd I a u) H := fun P ⟨h1, hi⟩ => by
  refine ⟨h1, ?_⟩
  obtain ⟨ps, h2, _⟩ := h1
  rw [upd_ne (fun z => by subst z; rw [q] at h2; exact nt ps (Option.some.inj h2))]
  exact hi
theorem nt_lst {xs : List V} : NT (.lst xs) := fun _ z => nomatch z
theorem nt_tup {xs : List V} : NT (.tup xs) := fun _ z => nomatch z
theorem nt_dK {xs : List (Key × V)} : NT (.dK xs) := fun _ z => nomatch z
theorem nt_ins {C dx : Addr} {fs : List (Str × V)} : NT (.ins C dx fs) := fun _ z => nomatch z
theorem nt_own {x : Addr} : NT (.own x) := fun _ z => nomatch z
theorem nt_frz {o : Obj} {u : HO} : NT (.frz o u) := fun _ z => nomatch z
/-- what an own object may be -/
def Pl (o : HO) : Prop := (∃ xs, o = .lst xs) ∨ (∃ xs, o = .dK xs) ∨ ∃ C dx fs, o = .ins C dx fs
theorem Pl.nt {o : HO} (h : Pl o) : NT o := by
  rcases h with ⟨_, rfl⟩ | ⟨_, rfl⟩ | ⟨_, _, _, rfl⟩
  · exact nt_lst
  · exact nt_dK
  · exact nt_ins
theorem Pl.put {I H : Hp} {a : Addr} {o u : HO} (h : Pl o) (e : H a = some o) : TabsE I H I (upd H a u) := TabsE.put
  (fun ps z => by rw [e] at z; exact h.nt ps (Option.some.inj z))
  (fun q z => by
    rw [e] at z
    have z' := Option.some.inj z
    unfold LamX.CodeO at z'
    rcases h with ⟨_, rfl⟩ | ⟨_, rfl⟩ | ⟨_, _, _, rfl⟩ <;> cases z')

mutual
inductive Rp (G : Gm) (I : Hp) : PV → V → Prop
  | non : Rp G I .non .non
  | bl (b : Bool) : Rp G I (.bl b) (.bl b)
  | int (i : Int) : Rp G I (.int i) (.int i)
  | str (x : Str) : Rp G I (.str x) (.str x)
  | ty (n : String) : Rp G I (.ty n) (.ty n)
  | cl (c : Str) : Rp G I (.cl c) (.ref (G.cls c))
  | tup {a vs xs} : Rd I a (.tup vs) → RpL G I xs vs → Rp G I (.tup xs) (.ref a)
  | lst {a vs xs} : I a = some (.lst vs) → RpL G I xs vs → Rp G I (.lst xs) (.ref a)
  | scr {a ns} : Rd I a (.lst (ns.map V.int)) → Rp G I (.scr ns) (.ref a)
  | dct {a ws kvs} : Rd I a (.dK ws) → RpK G I kvs ws → Rp G I (.dct kvs) (.ref a)
  | ins {c a dx ws fs} : I a = some (.ins (G.cls c) dx ws) → RpF G I fs ws → Rp G I (.ins c fs) (.ref a)
inductive RpL (G : Gm) (I : Hp) : List PV → List V → Prop
  | nil : RpL G I [] []
  | cons {x v xs vs} : Rp G I x v → RpL G I xs vs → RpL G I (x :: xs) (v :: vs)
inductive RpK (G : Gm) (I : Hp) : List (Key × PV) → List (Key × V) → Prop
  | nil : RpK G I [] []
  | cons {k x v xs vs} : Rp G I x v → RpK G I xs vs → RpK G I ((k, x) :: xs) ((k, v) :: vs)
inductive RpF (G : Gm) (I : Hp) : List (Str × PV) → List (Str × V) → Prop
  | nil : RpF G I [] []
  | cons {k x v xs vs} : Rp G I x v → RpF G I xs vs → RpF G I ((k, x) :: xs) ((k, v) :: vs)
end

/-- a later heap: what a description leans on is read there too -/
structure Lt (I I' : Hp) : Prop where
  rd : ∀ a o, (∀ ob u, o ≠ .frz ob u) → Rd I a o → Rd I' a o
  ins : ∀ a C dx ws, I a = some (.ins C dx ws) → I' a = some (.ins C dx ws)
  lst : ∀ a vs, I a = some (.lst vs) → I' a = some (.lst vs)
theorem rd_same {I I' : Hp} (h : Same I I') {a : Addr} {o : HO} (r : Rd I a o) : Rd I' a o := by
  rcases r with r | ⟨ob, r⟩
  · exact .inl (h _ _ r)
  · exact .inr ⟨ob, h _ _ r⟩
theorem Lt.of {I I' : Hp} (h : Same I I') : Lt I I' := ⟨fun a o _ => rd_same h, fun a C dx ws e => h _ _ e, fun a vs e => h _ _ e⟩

theorem nfz_tup {vs : List V} : ∀ ob u, HO.tup vs ≠ .frz ob u := fun _ _ z => nomatch z
theorem nfz_lst {vs : List V} : ∀ ob u, HO.lst vs ≠ .frz ob u := fun _ _ z => nomatch z
theorem nfz_dK {vs : List (Key × V)} : ∀ ob u, HO.dK vs ≠ .frz ob u := fun _ _ z => nomatch z
mutual
theorem Rp.lt {G : Gm} {I I' : Hp} (h : Lt I I') : ∀ {x : PV} {v : V}, Rp G I x v → Rp G I' x v
  | _, _, .non => .non
  | _, _, .bl b => .bl b
  | _, _, .int i => .int i
  | _, _, .str x => .str x
  | _, _, .ty n => .ty n
  | _, _, .cl c => .cl c
  | _, _, .tup r l => .tup (h.rd _ _ nfz_tup r) (RpL.lt h l)
  | _, _, .lst r l => .lst (h.lst _ _ r) (RpL.lt h l)
  | _, _, .scr r => .scr (h.rd _ _ nfz_lst r)
  | _, _, .dct r l => .dct (h.rd _ _ nfz_dK r) (RpK.lt h l)
  | _, _, .ins r l => .ins (h.ins _ _ _ _ r) (RpF.lt h l)
theorem RpL.lt {G : Gm} {I I' : Hp} (h : Lt I I') : ∀ {xs : List PV} {vs : List V}, RpL G I xs vs → RpL G I' xs vs
  | _, _, .nil => .nil
  | _, _, .cons r l => .cons (Rp.lt h r) (RpL.lt h l)
theorem RpK.lt {G : Gm} {I I' : Hp} (h : Lt I I') : ∀ {xs : List (Key × PV)} {vs : List (Key × V)}, RpK G I xs vs → RpK G I' xs vs
  | _, _, .nil => .nil
  | _, _, .cons r l => .cons (Rp.lt h r) (RpK.lt h l)
theorem RpF.lt {G : Gm} {I I' : Hp} (h : Lt I I') : ∀ {xs : List (Str × PV)} {vs : List (Str × V)}, RpF G I xs vs → RpF G I' xs vs
  | _, _, .nil => .nil
  | _, _, .cons r l => .cons (Rp.lt h r) (RpF.lt h l)
end
section
variable {G : Gm} {I I' : Hp}
theorem Rp.up (h : Same I I') {x : PV} {v : V} (r : Rp G I x v) : Rp G I' x v := r.lt (.of h)
theorem RpL.up (h : Same I I') {x : List PV} {v : List V} (r : RpL G I x v) : RpL G I' x v := r.lt (.of h)
theorem RpK.up (h : Same I I') {x : List (Key × PV)} {v : List (Key × V)} (r : RpK G I x v) : RpK G I' x v := r.lt (.of h)
theorem RpF.up (h : Same I I') {x : List (Str × PV)} {v : List (Str × V)} (r : RpF G I x v) : RpF G I' x v := r.lt (.of h)
theorem RpL.length : ∀ {xs : List PV} {vs : List V}, RpL G I xs vs → xs.length = vs.length
  | _, _, .nil => rfl
  | _, _, .cons _ l => congrArg Nat.succ (RpL.length l)
theorem RpL.append : ∀ {xs ys : List PV} {vs ws : List V}, RpL G I xs vs → RpL G I ys ws → RpL G I (xs ++ ys) (vs ++ ws)
  | _, _, _, _, .nil, s => s
  | _, _, _, _, .cons r l, s => .cons r (RpL.append l s)
theorem RpL.get : ∀ {xs : List PV} {vs : List V} {i : Nat} {x : PV}, RpL G I xs vs → xs[i]? = some x → ∃ v, vs[i]? = some v ∧ Rp G I x v
  | _, _, _, _, .nil, e => by simp at e
  | _, _, 0, _, .cons r _, e => by simp at e; subst e; exact ⟨_, rfl, r⟩
  | _, _, i + 1, x, .cons _ l, e => by
    obtain ⟨v, h1, h2⟩ := RpL.get (i := i) (x := x) l (by simpa using e)
    exact ⟨v, by simpa using h1, h2⟩
theorem RpL.getV : ∀ {xs : List PV} {vs : List V} {i : Nat} {v : V}, RpL G I xs vs → vs[i]? = some v → ∃ x, xs[i]? = some x ∧ Rp G I x v
  | _, _, _, _, .nil, e => by simp at e
  | _, _, 0, _, .cons r _, e => by simp at e; subst e; exact ⟨_, rfl, r⟩
  | _, _, i + 1, x, .cons _ l, e => by
    obtain ⟨v, h1, h2⟩ := RpL.getV (i := i) (v := x) l (by simpa using e)
    exact ⟨v, by simpa using h1, h2⟩
theorem RpL.take : ∀ {xs : List PV} {vs : List V} (n : Nat), RpL G I xs vs → RpL G I (xs.take n) (vs.take n)
  | _, _, 0, _ => by simp; exact .nil
  | _, _, _ + 1, .nil => by simp; exact .nil
  | _, _, n + 1, .cons r l => by simp; exact .cons r (RpL.take n l)
theorem RpL.drop : ∀ {xs : List PV} {vs : List V} (n : Nat), RpL G I xs vs → RpL G I (xs.drop n) (vs.drop n)
  | _, _, 0, l => by simpa using l
  | _, _, _ + 1, .nil => by simp; exact .nil
  | _, _, n + 1, .cons r l => by simp; exact RpL.drop n l
theorem RpL.set : ∀ {xs : List PV} {vs : List V} (n : Nat) {x : PV} {v : V}, RpL G I xs vs → Rp G I x v → RpL G I (xs.set n x) (vs.set n v)
  | _, _, _, _, _, .nil, _ => by simp; exact .nil
  | _, _, 0, _, _, .cons _ l, q => .cons q l
  | _, _, n + 1, _, _, .cons r l, q => .cons r (RpL.set n l q)
theorem RpL.reverse : ∀ {xs : List PV} {vs : List V}, RpL G I xs vs → RpL G I xs.reverse vs.reverse
  | _, _, .nil => .nil
  | _, _, .cons r l => by simp only [List.reverse_cons]; exact (RpL.reverse l).append (.cons r .nil)
theorem RpL.one {x : PV} {v : V} (r : Rp G I x v) : RpL G I [x] [v] := .cons r .nil
theorem RpL.two {x y : PV} {v w : V} (r : Rp G I x v) (q : Rp G I y w) : RpL G I [x, y] [v, w] := .cons r (.cons q .nil)
end

/-- an object's content -/
def OwnO (G : Gm) (I : Hp) : PV → HO → Prop
  | .lst xs, o => ∃ vs, o = .lst vs ∧ RpL G I xs vs
  | .dct kvs, o => ∃ ws, o = .dK ws ∧ RpK G I kvs ws
  | .ins c fs, o => ∃ dx ws, o = .ins (G.cls c) dx ws ∧ RpF G I fs ws
  | _, _ => False
theorem OwnO.up {G : Gm} {I I' : Hp} (h : Same I I') : ∀ {x : PV} {o : HO}, OwnO G I x o → OwnO G I' x o
  | .lst _, _, ⟨vs, e, l⟩ => ⟨vs, e, l.up h⟩
  | .dct _, _, ⟨vs, e, l⟩ => ⟨vs, e, l.up h⟩
  | .ins _ _, _, ⟨dx, vs, e, l⟩ => ⟨dx, vs, e, l.up h⟩
theorem OwnO.pl {G : Gm} {I : Hp} : ∀ {x : PV} {o : HO}, OwnO G I x o → Pl o
  | .lst _, _, ⟨vs, e, _⟩ => .inl ⟨vs, e⟩
  | .dct _, _, ⟨vs, e, _⟩ => .inr (.inl ⟨vs, e⟩)
  | .ins _ _, _, ⟨dx, vs, e, _⟩ => .inr (.inr ⟨_, dx, vs, e⟩)
theorem OwnO.nt {G : Gm} {I : Hp} {x : PV} {o : HO} (h : OwnO G I x o) : NT o := h.pl.nt
theorem OwnO.rp {G : Gm} {I : Hp} {a : Addr} : ∀ {x : PV} {o : HO}, OwnO G I x o → I a = some o → Rp G I x (.ref a)
  | .lst _, _, ⟨vs, e, l⟩, h => .lst (e ▸ h) l
  | .dct _, _, ⟨vs, e, l⟩, h => .dct (.inl (e ▸ h)) l
  | .ins _ _, _, ⟨dx, vs, e, l⟩, h => .ins (e ▸ h) l

theorem same_none {I H : Hp} (h : Same I H) {a : Addr} (e : H a = none) : I a = none := L2.Same.free h e
theorem same_upd {I : Hp} {a : Addr} {o : HO} (e : I a = Option.none) : Same I (upd I a o) := fun b u h => by
  rw [upd_ne (ne_of_none h e)]; exact h
theorem same_upd_r {I H : Hp} {a : Addr} {o : HO} (h : Same I H) (e : I a = Option.none) : Same I (upd H a o) := fun b u q => by
  rw [upd_ne (ne_of_none q e)]; exact h _ _ q
theorem same_upd2 {I H : Hp} {a : Addr} {o : HO} (h : Same I H) : Same (upd I a o) (upd H a o) := fun b u q => by
  unfold upd at q ⊢
  split at q
  · rename_i e; rw [if_pos e]; exact q
  · rename_i e; rw [if_neg e]; exact h _ _ q
theorem same_put {I H : Hp} {a : Addr} {o : HO} (h : Same I H) (e : H a = some o) : Same (upd I a o) H := fun b u q => by
  unfold upd at q
  split at q
  · rename_i z; subst z; cases q; exact e
  · exact h _ _ q

/-- two points of a run: the frozen part grows, what is tracked and not frozen stays as it is -/
structure Ext (I H I' H' : Hp) : Prop where
  le : Same I I'
  same : Same I' H'
  keep : ∀ a o, NT o → H a = some o → I a = none → H' a = some o ∧ I' a = none
  dm : ∀ a, H' a = none → H a = none
  tab : TabsE I H I' H'
theorem Ext.refl {I H : Hp} (h : Same I H) : Ext I H I H := ⟨Same.refl _, h, fun _ _ _ e n => ⟨e, n⟩, fun _ h => h, TabsE.refl _ _⟩
theorem Ext.base {I H I' H' : Hp} (e : Ext I H I' H') : Same I H' := Same.trans e.le e.same
theorem Ext.trans {I H I1 H1 I2 H2 : Hp} (a : Ext I H I1 H1) (b : Ext I1 H1 I2 H2) : Ext I H I2 H2 :=
  ⟨a.le.trans b.le, b.same, fun c o t e n => by obtain ⟨e1, n1⟩ := a.keep c o t e n; exact b.keep c o t e1 n1, fun c h => a.dm c (b.dm c h), a.tab.trans b.tab⟩
theorem Ext.dom {I H I' H' : Hp} (h0 : Same I H) (e : Ext I H I' H') {a : Addr} (q : H' a = none) : H a = none := e.dm a q
/-- a new object -/
theorem Ext.new {I H : Hp} {a : Addr} {o : HO} (h : Same I H) (e : H a = none) : Ext I H I (upd H a o) :=
  ⟨Same.refl _, same_upd_r h (same_none h e), fun b u _ q n => ⟨by rw [upd_ne (ne_of_none q e)]; exact q, n⟩, fun b q => by
    unfold upd at q
    split at q
    · cases q
    · exact q, TabsE.new e⟩
/-- what was new is frozen -/
theorem Ext.frz {I H I' H' : Hp} {a : Addr} {o : HO} (x : Ext I H I' H') (e : H a = none) (n : I' a = none) (q : H' a = some o) (nt : NT o := by first | exact nt_tup | exact nt_lst | exact nt_dK | exact nt_ins | exact nt_own | exact nt_frz | assumption) : Ext I H (upd I' a o) H' :=
  ⟨x.le.trans (same_upd n), same_put x.same q, fun b u t hb nb => ⟨(x.keep b u t hb nb).1, by rw [upd_ne (ne_of_none hb e)]; exact (x.keep b u t hb nb).2⟩, x.dm, x.tab.trans (.frz q nt)⟩
theorem Ext.newF {I H : Hp} {a : Addr} {o : HO} (h : Same I H) (e : H a = none) (nt : NT o := by first | exact nt_tup | exact nt_lst | exact nt_dK | exact nt_ins | exact nt_own | exact nt_frz | assumption) : Ext I H (upd I a o) (upd H a o) :=
  (Ext.new h e).frz e (same_none h e) upd_same nt

/-- a result: frozen data, or data of a new object -/
def RS (G : Gm) (H0 I H : Hp) : Slot → V → Prop
  | .val x, v => Rp G I x v
  | .own x, v => ∃ a o, v = .ref a ∧ H0 a = none ∧ I a = none ∧ H a = some o ∧ OwnO G I x o
  | _, _ => False
theorem RS.up {G : Gm} {H0 I H I' H' : Hp} (x : Ext I H I' H') : ∀ {s : Slot} {v : V}, RS G H0 I H s v → RS G H0 I' H' s v
  | .val _, _, r => Rp.up x.le r
  | .own _, _, ⟨a, o, e, h0, n, q, w⟩ => ⟨a, o, e, h0, (x.keep a o w.nt q n).2, (x.keep a o w.nt q n).1, w.up x.le⟩
theorem RS.from {G : Gm} {H0 H1 I H : Hp} (h : ∀ a, H1 a = none → H0 a = none) : ∀ {s : Slot} {v : V}, RS G H1 I H s v → RS G H0 I H s v
  | .val _, _, r => r
  | .own _, _, ⟨a, o, e, h0, r⟩ => ⟨a, o, e, h a h0, r⟩
/-- frozen now -/
theorem RS.frz {G : Gm} {H0 I0 I H : Hp} (x : Ext I0 H0 I H) : ∀ {s : Slot} {v : V}, RS G H0 I H s v → ∃ I', Ext I0 H0 I' H ∧ Same I I' ∧ Rp G I' s.pv v
  | .val _, _, r => ⟨I, x, Same.refl _, r⟩
  | .own _, _, ⟨a, o, e, h0, n, q, w⟩ => by
    subst e
    exact ⟨upd I a o, x.frz h0 n q w.nt, same_upd n, (w.up (same_upd n)).rp upd_same⟩

structure SR (G : Gm) (σ0 : St) (I H : Hp) (σ : St) (ρ : En) : Prop where
  same : Same I H
  len : σ.length = ρ.length
  val : ∀ (i : Nat) (x : PV), ρ[i]? = some (.val x) → ∃ v, σ[i]? = some (some v) ∧ Rp G I x v
  own : ∀ (i : Nat) (x : PV), ρ[i]? = some (.own x) ∨ ρ[i]? = some (.prm x) → ∃ a o, σ[i]? = some (some (.ref a)) ∧ I a = none ∧ H a = some o ∧ OwnO G I x o
  prm : ∀ (i : Nat) (x : PV), ρ[i]? = some (.prm x) → σ[i]? = σ0[i]?
  sep : ∀ (i j : Nat) (x y : PV) (a : Addr), (ρ[i]? = some (.own x) ∨ ρ[i]? = some (.prm x)) → (ρ[j]? = some (.own y) ∨ ρ[j]? = some (.prm y)) →
    σ[i]? = some (some (.ref a)) → σ[j]? = some (some (.ref a)) → i = j
  tab : TabI G.tabs I H
theorem TabsE.tabs {T : List Addr} {I H I' H' : Hp} (e : TabsE I H I' H') (t : TabI T I H) : TabI T I' H' := fun P hP => e P (t P hP)
theorem SR.ext {G : Gm} {σ0 : St} {I H I' H' : Hp} {σ : St} {ρ : En} (r : SR G σ0 I H σ ρ) (x : Ext I H I' H') : SR G σ0 I' H' σ ρ where
  same := x.same
  len := r.len
  val := fun i y e => by obtain ⟨v, h1, h2⟩ := r.val i y e; exact ⟨v, h1, h2.up x.le⟩
  own := fun i y e => by
    obtain ⟨a, o, h1, h2, h3, h4⟩ := r.own i y e
    exact ⟨a, o, h1, (x.keep a o h4.nt h3 h2).2, (x.keep a o h4.nt h3 h2).1, h4.up x.le⟩
  prm := r.prm
  sep := r.sep
  tab := x.tab.tabs r.tab
/-- the addresses that the state owns; those that came by reference -/
def Ow (σ : St) (ρ : En) (a : Addr) : Prop := ∃ (i : Nat) (x : PV), ρ[i]? = some (.own x) ∧ σ[i]? = some (some (.ref a))
def Pm (σ : St) (ρ : En) (a : Addr) : Prop := ∃ (i : Nat) (x : PV), ρ[i]? = some (.prm x) ∧ σ[i]? = some (some (.ref a))
/-- from one state to a later one -/
structure Stp (I H : Hp) (σ : St) (ρ : En) (I' H' : Hp) (σ' : St) (ρ' : En) : Prop where
  le : Same I I'
  dom : ∀ a, H' a = none → H a = none
  own : ∀ a, Ow σ' ρ' a → Ow σ ρ a ∨ H a = none
  prm : ∀ a, Pm σ' ρ' a → Pm σ ρ a
  keep : ∀ a o, NT o → H a = some o → I a = none → ¬ Ow σ ρ a → ¬ Pm σ ρ a → H' a = some o ∧ I' a = none
  tab : TabsE I H I' H'
theorem Stp.refl {I H : Hp} {σ : St} {ρ : En} : Stp I H σ ρ I H σ ρ := ⟨Same.refl _, fun _ h => h, fun _ h => .inl h, fun _ h => h, fun _ _ _ e n _ _ => ⟨e, n⟩, TabsE.refl _ _⟩
theorem Stp.trans {I H I1 H1 I2 H2 : Hp} {σ σ1 σ2 : St} {ρ ρ1 ρ2 : En} (a : Stp I H σ ρ I1 H1 σ1 ρ1) (b : Stp I1 H1 σ1 ρ1 I2 H2 σ2 ρ2) : Stp I H σ ρ I2 H2 σ2 ρ2 where
  le := a.le.trans b.le
  dom := fun c h => a.dom c (b.dom c h)
  own := fun c h => by
    rcases b.own c h with h | h
    · exact a.own c h
    · exact .inr (a.dom c h)
  prm := fun c h => a.prm c (b.prm c h)
  keep := fun c o t e n h1 h2 => by
    obtain ⟨e1, n1⟩ := a.keep c o t e n h1 h2
    refine b.keep c o t e1 n1 (fun h => ?_) (fun h => h2 (a.prm c h))
    rcases a.own c h with z | z
    · exact h1 z
    · rw [e] at z; cases z
  tab := a.tab.trans b.tab
theorem Stp.ext {I H I' H' : Hp} {σ : St} {ρ : En} (h0 : Same I H) (x : Ext I H I' H') : Stp I H σ ρ I' H' σ ρ :=
  ⟨x.le, fun _ h => x.dom h0 h, fun _ h => .inl h, fun _ h => h, fun a o t e n _ _ => x.keep a o t e n, x.tab⟩
/-- without owned slots: all that was tracked and not frozen stays -/
theorem Stp.toExt {I H I' H' : Hp} {σ σ' : St} {ρ ρ' : En} (x : Stp I H σ ρ I' H' σ' ρ') (s : Same I' H') (h1 : ∀ a, ¬ Ow σ ρ a) (h2 : ∀ a, ¬ Pm σ ρ a) : Ext I H I' H' :=
  ⟨x.le, s, fun a o t e n => x.keep a o t e n (h1 a) (h2 a), x.dom, x.tab⟩

section
variable {G : Gm} {σ0 : St} {I H : Hp} {σ : St} {ρ : En}
theorem get_set {α : Type} {l : List α} {i j : Nat} {x y : α} (h : (l.set i x)[j]? = some y) : (j = i ∧ y = x ∧ i < l.length) ∨ (j ≠ i ∧ l[j]? = some y) := by
  by_cases e : i = j
  · subst e
    by_cases hl : i < l.length
    · rw [List.getElem?_set_self hl] at h; cases h; exact .inl ⟨rfl, rfl, hl⟩
    · rw [List.getElem?_eq_none (by simpa using hl)] at h; cases h
  · rw [List.getElem?_set_ne e] at h; exact .inr ⟨fun z => e z.symm, h⟩
/-- a slot is forgotten -/
theorem SR.kill (r : SR G σ0 I H σ ρ) (i : Nat) : SR G σ0 I H σ (ρ.set i .dead) where
  same := r.same
  len := by simpa using r.len
  val := fun j x e => by
    rcases get_set e with ⟨_, z, _⟩ | ⟨_, e⟩
    · cases z
    · exact r.val j x e
  own := fun j x e => by
    refine r.own j x ?_
    rcases e with e | e <;> rcases get_set e with ⟨_, z, _⟩ | ⟨_, e⟩
    · cases z
    · exact .inl e
    · cases z
    · exact .inr e
  prm := fun j x e => by
    rcases get_set e with ⟨_, z, _⟩ | ⟨_, e⟩
    · cases z
    · exact r.prm j x e
  sep := fun j k x y a ej ek h1 h2 => by
    refine r.sep j k x y a ?_ ?_ h1 h2
    · rcases ej with e | e <;> rcases get_set e with ⟨_, z, _⟩ | ⟨_, e⟩
      · cases z
      · exact .inl e
      · cases z
      · exact .inr e
    · rcases ek with e | e <;> rcases get_set e with ⟨_, z, _⟩ | ⟨_, e⟩
      · cases z
      · exact .inl e
      · cases z
      · exact .inr e
  tab := r.tab
theorem ow_kill {i : Nat} {a : Addr} (h : Ow σ (ρ.set i .dead) a) : Ow σ ρ a := by
  obtain ⟨j, x, e, q⟩ := h
  rcases get_set e with ⟨_, z, _⟩ | ⟨_, e⟩
  · cases z
  · exact ⟨j, x, e, q⟩
theorem pm_kill {i : Nat} {a : Addr} (h : Pm σ (ρ.set i .dead) a) : Pm σ ρ a := by
  obtain ⟨j, x, e, q⟩ := h
  rcases get_set e with ⟨_, z, _⟩ | ⟨_, e⟩
  · cases z
  · exact ⟨j, x, e, q⟩
theorem Stp.kill (i : Nat) : Stp I H σ ρ I H σ (ρ.set i .dead) := ⟨Same.refl _, fun _ h => h, fun _ h => .inl (ow_kill h), fun _ h => pm_kill h, fun _ _ _ e n _ _ => ⟨e, n⟩, TabsE.refl _ _⟩
/-- frozen data is put into a slot -/
theorem SR.setV (r : SR G σ0 I H σ ρ) (i : Nat) {x : PV} {v : V} (hx : Rp G I x v) : SR G σ0 I H (σ.set i (some v)) (ρ.set i (.val x)) where
  same := r.same
  len := by simpa using r.len
  val := fun j y e => by
    rcases get_set e with ⟨rfl, z, hl⟩ | ⟨n, e⟩
    · cases z; exact ⟨v, List.getElem?_set_self (by rw [r.len]; exact hl), hx⟩
    · obtain ⟨w, h1, h2⟩ := r.val j y e
      exact ⟨w, by rw [List.getElem?_set_ne (Ne.symm n)]; exact h1, h2⟩
  own := fun j y e => by
    have e' : j ≠ i ∧ (ρ[j]? = some (.own y) ∨ ρ[j]? = some (.prm y)) := by
      rcases e with e | e <;> rcases get_set e with ⟨_, z, _⟩ | ⟨n, e⟩
      · cases z
      · exact ⟨n, .inl e⟩
      · cases z
      · exact ⟨n, .inr e⟩
    obtain ⟨a, o, h1, h2⟩ := r.own j y e'.2
    exact ⟨a, o, by rw [List.getElem?_set_ne (Ne.symm e'.1)]; exact h1, h2⟩
  prm := fun j y e => by
    rcases get_set e with ⟨_, z, _⟩ | ⟨n, e⟩
    · cases z
    · rw [List.getElem?_set_ne (Ne.symm n)]; exact r.prm j y e
  sep := fun j k x y a ej ek h1 h2 => by
    have e1 : j ≠ i ∧ (ρ[j]? = some (.own x) ∨ ρ[j]? = some (.prm x)) := by
      rcases ej with e | e <;> rcases get_set e with ⟨_, z, _⟩ | ⟨n, e⟩
      · cases z
      · exact ⟨n, .inl e⟩
      · cases z
      · exact ⟨n, .inr e⟩
    have e2 : k ≠ i ∧ (ρ[k]? = some (.own y) ∨ ρ[k]? = some (.prm y)) := by
      rcases ek with e | e <;> rcases get_set e with ⟨_, z, _⟩ | ⟨n, e⟩
      · cases z
      · exact ⟨n, .inl e⟩
      · cases z
      · exact ⟨n, .inr e⟩
    rw [List.getElem?_set_ne (Ne.symm e1.1)] at h1
    rw [List.getElem?_set_ne (Ne.symm e2.1)] at h2
    exact r.sep j k x y a e1.2 e2.2 h1 h2
  tab := r.tab
theorem Stp.setV (i : Nat) (x : PV) (v : V) : Stp I H σ ρ I H (σ.set i (some v)) (ρ.set i (.val x)) where
  le := Same.refl _
  dom := fun _ h => h
  own := fun a ⟨j, y, e, q⟩ => by
    rcases get_set e with ⟨_, z, _⟩ | ⟨n, e⟩
    · cases z
    · rw [List.getElem?_set_ne (Ne.symm n)] at q; exact .inl ⟨j, y, e, q⟩
  prm := fun a ⟨j, y, e, q⟩ => by
    rcases get_set e with ⟨_, z, _⟩ | ⟨n, e⟩
    · cases z
    · rw [List.getElem?_set_ne (Ne.symm n)] at q; exact ⟨j, y, e, q⟩
  keep := fun _ _ _ e n _ _ => ⟨e, n⟩
  tab := TabsE.refl _ _
/-- a new object is put into a slot: its own from now on -/
theorem SR.setO {H0 : Hp} (r : SR G σ0 I H σ ρ) (r0 : ∀ (j : Nat) (y : PV), ρ[j]? = some (.own y) ∨ ρ[j]? = some (.prm y) → ∃ a, σ[j]? = some (some (V.ref a)) ∧ H0 a ≠ none) (i : Nat) {x : PV} {a : Addr} {o : HO} (h0 : H0 a = none) (n : I a = none) (q : H a = some o) (w : OwnO G I x o) :
    SR G σ0 I H (σ.set i (some (.ref a))) (ρ.set i (.own x)) where
  same := r.same
  len := by simpa using r.len
  val := fun j y e => by
    rcases get_set e with ⟨_, z, _⟩ | ⟨n, e⟩
    · cases z
    · obtain ⟨v, h1, h2⟩ := r.val j y e
      exact ⟨v, by rw [List.getElem?_set_ne (Ne.symm n)]; exact h1, h2⟩
  own := fun j y e => by
    have e' : (j = i ∧ y = x ∧ i < ρ.length) ∨ (j ≠ i ∧ (ρ[j]? = some (.own y) ∨ ρ[j]? = some (.prm y))) := by
      rcases e with e | e <;> rcases get_set e with ⟨z1, z, z2⟩ | ⟨n, e⟩
      · cases z; exact .inl ⟨z1, rfl, z2⟩
      · exact .inr ⟨n, .inl e⟩
      · cases z
      · exact .inr ⟨n, .inr e⟩
    rcases e' with ⟨rfl, rfl, hl⟩ | ⟨n, e'⟩
    · exact ⟨a, o, List.getElem?_set_self (by rw [r.len]; exact hl), ‹_›, q, w⟩
    · obtain ⟨b, u, h1, h2⟩ := r.own j y e'
      exact ⟨b, u, by rw [List.getElem?_set_ne (Ne.symm n)]; exact h1, h2⟩
  prm := fun j y e => by
    rcases get_set e with ⟨_, z, _⟩ | ⟨n, e⟩
    · cases z
    · rw [List.getElem?_set_ne (Ne.symm n)]; exact r.prm j y e
  sep := fun j k y z b ej ek h1 h2 => by
    have old : ∀ (j : Nat) (y : PV), (ρ[j]? = some (.own y) ∨ ρ[j]? = some (.prm y)) → σ[j]? = some (some (V.ref a)) → False := fun j y e q' => by
      obtain ⟨c, h1, h2⟩ := r0 j y e
      rw [q'] at h1; cases h1
      exact h2 h0
    have cs : ∀ {j : Nat} {y : PV}, ((ρ.set i (.own x))[j]? = some (.own y) ∨ (ρ.set i (.own x))[j]? = some (.prm y)) → j = i ∨ (j ≠ i ∧ (ρ[j]? = some (.own y) ∨ ρ[j]? = some (.prm y))) := by
      intro j y e
      rcases e with e | e <;> rcases get_set e with ⟨z1, z, z2⟩ | ⟨n, e⟩
      · exact .inl z1
      · exact .inr ⟨n, .inl e⟩
      · cases z
      · exact .inr ⟨n, .inr e⟩
    have atI : ∀ {j : Nat} {y : PV}, ((ρ.set i (.own x))[j]? = some (.own y) ∨ (ρ.set i (.own x))[j]? = some (.prm y)) → j = i → (σ.set i (some (V.ref a)))[j]? = some (some (.ref a)) := by
      intro j y e hj
      subst hj
      have hl : j < ρ.length := by
        rcases e with e | e
        · have := (List.getElem?_eq_some_iff.mp e).1; simpa using this
        · have := (List.getElem?_eq_some_iff.mp e).1; simpa using this
      exact List.getElem?_set_self (by rw [r.len]; exact hl)
    rcases cs ej with e1 | ⟨n1, e1⟩ <;> rcases cs ek with e2 | ⟨n2, e2⟩
    · rw [e1, e2]
    · have q1 := atI ej e1
      rw [q1] at h1; cases h1
      rw [List.getElem?_set_ne (Ne.symm n2)] at h2
      exact (old k z e2 h2).elim
    · have q1 := atI ek e2
      rw [q1] at h2; cases h2
      rw [List.getElem?_set_ne (Ne.symm n1)] at h1
      exact (old j y e1 h1).elim
    · rw [List.getElem?_set_ne (Ne.symm n1)] at h1
      rw [List.getElem?_set_ne (Ne.symm n2)] at h2
      exact r.sep j k y z b e1 e2 h1 h2
  tab := r.tab
theorem Stp.setO (i : Nat) (x : PV) (a : Addr) (h : H a = none) {I' H' : Hp} (st : Ext I H I' H') (h0 : Same I H) : Stp I H σ ρ I' H' (σ.set i (some (.ref a))) (ρ.set i (.own x)) where
  le := st.le
  dom := fun _ q => st.dom h0 q
  own := fun b ⟨j, y, e, q⟩ => by
    rcases get_set e with ⟨z1, z, hl⟩ | ⟨n, e⟩
    · subst z1
      have hl' : j < σ.length ∨ ¬ j < σ.length := Classical.em _
      rcases hl' with hl' | hl'
      · rw [List.getElem?_set_self hl'] at q; cases q; exact .inr h
      · rw [List.getElem?_eq_none (by simpa using hl')] at q; cases q
    · rw [List.getElem?_set_ne (Ne.symm n)] at q; exact .inl ⟨j, y, e, q⟩
  prm := fun b ⟨j, y, e, q⟩ => by
    rcases get_set e with ⟨_, z, _⟩ | ⟨n, e⟩
    · cases z
    · rw [List.getElem?_set_ne (Ne.symm n)] at q; exact ⟨j, y, e, q⟩
  keep := fun b u t e n _ _ => st.keep b u t e n
  tab := st.tab
/-- the slots' objects were tracked -/
theorem SR.tracked (r : SR G σ0 I H σ ρ) : ∀ (j : Nat) (y : PV), ρ[j]? = some (.own y) ∨ ρ[j]? = some (.prm y) → ∃ a, σ[j]? = some (some (V.ref a)) ∧ H a ≠ none := fun j y e => by
  obtain ⟨a, o, h1, _, h3, _⟩ := r.own j y e
  exact ⟨a, h1, by rw [h3]; exact fun z => nomatch z⟩
end
end BF

set_option maxRecDepth 100000
set_option maxHeartbeats 4000000
namespace BF
open PySem PySem.Spec L2
open PyProof.Rows hiding St
set_option autoImplicit false

/-- a is no object of an owned slot among T -/
def Apart (T : List Nat) (σ : St) (ρ : En) (a : Addr) : Prop := ∀ i ∈ T, ∀ y : PV, (ρ[i]? = some (.own y) ∨ ρ[i]? = some (.prm y)) → σ[i]? ≠ some (some (.ref a))
/-- from a point of an expression's run to a later one: of the owned slots only those of T are touched -/
structure XE (G : Gm) (σ0 : St) (T : List Nat) (σ : St) (I H : Hp) (ρ : En) (I' H' : Hp) (ρ' : En) : Prop where
  le : Same I I'
  sr : SR G σ0 I' H' σ ρ'
  dom : ∀ a, H' a = none → H a = none
  keep : ∀ a o, NT o → H a = some o → I a = none → Apart T σ ρ a → H' a = some o ∧ I' a = none
  tab : TabsE I H I' H'
  eq : ∀ i, i ∉ T → ρ'[i]? = ρ[i]?
  own : ∀ (i : Nat) (x : PV), ρ'[i]? = some (.own x) → ∃ y, ρ[i]? = some (.own y)
  prm : ∀ (i : Nat) (x : PV), ρ'[i]? = some (.prm x) → ∃ y, ρ[i]? = some (.prm y)
/-- .. where an exception came out -/
structure XX (T : List Nat) (σ : St) (ρ : En) (I H I' H' : Hp) : Prop where
  le : Same I I'
  same : Same I' H'
  dom : ∀ a, H' a = none → H a = none
  keep : ∀ a o, NT o → H a = some o → I a = none → Apart T σ ρ a → H' a = some o ∧ I' a = none
  tab : TabsE I H I' H'
section
variable {G : Gm} {σ0 : St} {T : List Nat} {σ : St} {I H I1 H1 I2 H2 : Hp} {ρ ρ1 ρ2 : En}
theorem XE.refl (r : SR G σ0 I H σ ρ) : XE G σ0 T σ I H ρ I H ρ := ⟨Same.refl _, r, fun _ h => h, fun _ _ _ e n _ => ⟨e, n⟩, TabsE.refl _ _, fun _ _ => rfl, fun _ x e => ⟨x, e⟩, fun _ x e => ⟨x, e⟩⟩
theorem XE.apart (a : XE G σ0 T σ I H ρ I1 H1 ρ1) {c : Addr} (h : Apart T σ ρ c) : Apart T σ ρ1 c := fun i hi y e => by
  rcases e with e | e
  · obtain ⟨z, e1⟩ := a.own i y e; exact h i hi z (.inl e1)
  · obtain ⟨z, e1⟩ := a.prm i y e; exact h i hi z (.inr e1)
theorem XE.trans (a : XE G σ0 T σ I H ρ I1 H1 ρ1) (b : XE G σ0 T σ I1 H1 ρ1 I2 H2 ρ2) : XE G σ0 T σ I H ρ I2 H2 ρ2 where
  le := a.le.trans b.le
  sr := b.sr
  dom := fun c h => a.dom c (b.dom c h)
  keep := fun c o t e n h => by obtain ⟨e1, n1⟩ := a.keep c o t e n h; exact b.keep c o t e1 n1 (a.apart h)
  tab := a.tab.trans b.tab
  eq := fun i h => (b.eq i h).trans (a.eq i h)
  own := fun i x e => by obtain ⟨y, e1⟩ := b.own i x e; exact a.own i y e1
  prm := fun i x e => by obtain ⟨y, e1⟩ := b.prm i x e; exact a.prm i y e1
theorem XE.ext (a : XE G σ0 T σ I H ρ I1 H1 ρ1) (x : Ext I1 H1 I2 H2) : XE G σ0 T σ I H ρ I2 H2 ρ1 where
  le := a.le.trans x.le
  sr := a.sr.ext x
  dom := fun c h => a.dom c (x.dom a.sr.same h)
  keep := fun c o t e n h => by obtain ⟨e1, n1⟩ := a.keep c o t e n h; exact x.keep c o t e1 n1
  tab := a.tab.trans x.tab
  eq := a.eq
  own := a.own
  prm := a.prm
theorem XE.ofExt (r : SR G σ0 I H σ ρ) (x : Ext I H I1 H1) : XE G σ0 T σ I H ρ I1 H1 ρ := (XE.refl r).ext x
theorem XE.xx (a : XE G σ0 T σ I H ρ I1 H1 ρ1) (b : XX T σ ρ1 I1 H1 I2 H2) : XX T σ ρ I H I2 H2 :=
  ⟨a.le.trans b.le, b.same, fun c h => a.dom c (b.dom c h), fun c o t e n h => by obtain ⟨e1, n1⟩ := a.keep c o t e n h; exact b.keep c o t e1 n1 (a.apart h), a.tab.trans b.tab⟩
theorem XX.refl (h : Same I H) : XX T σ ρ I H I H := ⟨Same.refl _, h, fun _ h => h, fun _ _ _ e n _ => ⟨e, n⟩, TabsE.refl _ _⟩
theorem XE.same (a : XE G σ0 T σ I H ρ I1 H1 ρ1) : Same I1 H1 := a.sr.same
/-- nothing touched: the environment is the same, what was tracked stays -/
theorem XE.pure_env (r : SR G σ0 I H σ ρ) (a : XE G σ0 [] σ I H ρ I1 H1 ρ1) : ρ1 = ρ := List.ext_getElem? fun i => a.eq i (by simp)
theorem XE.pure_ext (a : XE G σ0 [] σ I H ρ I1 H1 ρ1) : Ext I H I1 H1 := ⟨a.le, a.same, fun c o t e n => a.keep c o t e n (fun i hi => by cases hi), a.dom, a.tab⟩
theorem XX.pure_ext (a : XX [] σ ρ I H I1 H1) : Ext I H I1 H1 := ⟨a.le, a.same, fun c o t e n => a.keep c o t e n (fun i hi => by cases hi), a.dom, a.tab⟩
theorem XX.ofExt (h : Same I H) (a : Ext I H I1 H1) : XX T σ ρ I H I1 H1 := ⟨a.le, a.same, fun _ h' => a.dom h h', fun c o t e n _ => a.keep c o t e n, a.tab⟩
theorem SR.frz {c : Addr} {o : HO} (r : SR G σ0 I H σ ρ) (n : I c = none) (q : H c = some o) (hc : ∀ (j : Nat) (y : PV), ρ[j]? = some (.own y) ∨ ρ[j]? = some (.prm y) → σ[j]? ≠ some (some (.ref c))) (nt : NT o) : SR G σ0 (upd I c o) H σ ρ where
  same := same_put r.same q
  len := r.len
  val := fun j x e => by obtain ⟨v, h1, h2⟩ := r.val j x e; exact ⟨v, h1, h2.up (same_upd n)⟩
  own := fun j x e => by
    obtain ⟨a, u, h1, h2, h3, h4⟩ := r.own j x e
    refine ⟨a, u, h1, ?_, h3, h4.up (same_upd n)⟩
    rw [upd_ne fun z => hc j x e (by rw [h1, z])]; exact h2
  prm := r.prm
  sep := r.sep
  tab := (TabsE.frz q nt).tabs r.tab
/-- the slots' objects are those of the start -/
theorem XE.slots (r : SR G σ0 I H σ ρ) (a : XE G σ0 T σ I H ρ I1 H1 ρ1) {c : Addr} (h0 : H c = none) : ∀ (j : Nat) (y : PV), ρ1[j]? = some (.own y) ∨ ρ1[j]? = some (.prm y) → σ[j]? ≠ some (some (.ref c)) := fun j y e z => by
  have e' : ∃ y, ρ[j]? = some (.own y) ∨ ρ[j]? = some (.prm y) := by
    rcases e with e | e
    · obtain ⟨y, h⟩ := a.own j y e; exact ⟨y, .inl h⟩
    · obtain ⟨y, h⟩ := a.prm j y e; exact ⟨y, .inr h⟩
  obtain ⟨y, e'⟩ := e'
  obtain ⟨b, h1, h2⟩ := r.tracked j y e'
  rw [z] at h1; cases h1
  exact h2 h0
/-- a result is frozen -/
theorem XE.frz {s : Slot} {v : V} (r : SR G σ0 I H σ ρ) (a : XE G σ0 T σ I H ρ I1 H1 ρ1) (h : RS G H I1 H1 s v) : ∃ I', XE G σ0 T σ I H ρ I' H1 ρ1 ∧ Same I1 I' ∧ Rp G I' s.pv v := by
  cases s with
  | val x => exact ⟨I1, a, Same.refl _, h⟩
  | dead => exact h.elim
  | prm x => exact h.elim
  | own x =>
    obtain ⟨c, o, e, h0, n, q, w⟩ := h
    subst e
    refine ⟨upd I1 c o, ⟨a.le.trans (same_upd n), a.sr.frz n q (a.slots r h0) w.nt, a.dom, fun b u t e m h => ?_, a.tab.trans (.frz q w.nt), a.eq, a.own, a.prm⟩, same_upd n, (w.up (same_upd n)).rp upd_same⟩
    obtain ⟨e1, n1⟩ := a.keep b u t e m h
    refine ⟨e1, ?_⟩
    rw [upd_ne (fun z => by rw [z, h0] at e; cases e)]
    exact n1
/-- .. of a later start -/
theorem RS.of1 {s : Slot} {v : V} (a : XE G σ0 T σ I H ρ I1 H1 ρ1) {I' H' : Hp} (h : RS G H1 I' H' s v) : RS G H I' H' s v := h.from a.dom

abbrev PX := En → Res (Slot × En)
abbrev BX := En → Res (Bool × En)
abbrev AX := En → Res (List PV × En)
def tK (G : Gm) (σ0 : St) (W : WX) (T : List Nat) (σ : St) (I H : Hp) (ρ : En) (Q : VK) : Res (Slot × En) → Prop
  | .ok (s, ρ') => ∀ I' H' v, XE G σ0 T σ I H ρ I' H' ρ' → RS G H I' H' s v → Q v H'
  | .exc c => ∀ I' H', XX T σ ρ I H I' H' → W (.ref (G.cls c)) none σ H'
  | .stuck => False
def tB' (G : Gm) (σ0 : St) (W : WX) (T : List Nat) (σ : St) (I H : Hp) (ρ : En) (Q : Bool → Hp → Prop) : Res (Bool × En) → Prop
  | .ok (b, ρ') => ∀ I' H', XE G σ0 T σ I H ρ I' H' ρ' → Q b H'
  | .exc c => ∀ I' H', XX T σ ρ I H I' H' → W (.ref (G.cls c)) none σ H'
  | .stuck => False
def tA' (G : Gm) (σ0 : St) (W : WX) (T : List Nat) (σ : St) (I H : Hp) (ρ : En) (Q : List V → Hp → Prop) : Res (List PV × En) → Prop
  | .ok (xs, ρ') => ∀ I' H' vs, XE G σ0 T σ I H ρ I' H' ρ' → RpL G I' xs vs → Q vs H'
  | .exc c => ∀ I' H', XX T σ ρ I H I' H' → W (.ref (G.cls c)) none σ H'
  | .stuck => False
/-- an expression, a test, a list of expressions (frozen) -/
def tX (G : Gm) (σ0 : St) (W : WX) (T : List Nat) (E : PX) : TE := fun σ H Q => ∃ I ρ, SR G σ0 I H σ ρ ∧ tK G σ0 W T σ I H ρ Q (E ρ)
def tT (G : Gm) (σ0 : St) (W : WX) (T : List Nat) (E : BX) : TT := fun σ H Q => ∃ I ρ, SR G σ0 I H σ ρ ∧ tB' G σ0 W T σ I H ρ Q (E ρ)
def tAs (G : Gm) (σ0 : St) (W : WX) (T : List Nat) (E : AX) : TA := fun σ H Q => ∃ I ρ, SR G σ0 I H σ ρ ∧ tA' G σ0 W T σ I H ρ Q (E ρ)
end

/-- the data's context: fixed through a def -/
structure Dc where
  G : Gm
  σ0 : St
  W : WX
abbrev DE (X : Cx) (C : Dc) (T : List Nat) (e : Expr) (E : PX) : Prop := PE X e (tX C.G C.σ0 C.W T E)
abbrev DT (X : Cx) (C : Dc) (T : List Nat) (e : Expr) (E : BX) : Prop := PT X e (tT C.G C.σ0 C.W T E)
abbrev DA (X : Cx) (C : Dc) (T : List Nat) (es : List Expr) (E : AX) : Prop := PA X es (tAs C.G C.σ0 C.W T E)
theorem PE.imp {X : Cx} {e : Expr} {t t' : TE} (h : PE X e t) (k : ∀ σ H Q, t' σ H Q → t σ H Q) : PE X e t' := ⟨fun pins s σ H Q I q => h.run pins s σ H Q I (k σ H Q q)⟩
theorem PT.imp {X : Cx} {e : Expr} {t t' : TT} (h : PT X e t) (k : ∀ σ H Q, t' σ H Q → t σ H Q) : PT X e t' := ⟨fun pins s σ H Q I q => h.run pins s σ H Q I (k σ H Q q)⟩
theorem PA.imp {X : Cx} {e : List Expr} {t t' : TA} (h : PA X e t) (k : ∀ σ H Q, t' σ H Q → t σ H Q) : PA X e t' := ⟨fun pos pins s σ H Q I q => h.run pos pins s σ H Q I (k σ H Q q)⟩

section
variable {G : Gm} {σ0 : St} {W : WX} {T : List Nat} {σ : St} {I H I1 H1 : Hp} {ρ ρ1 : En} {Q : VK}
/-- the next expression of a rest -/
theorem tK.next {E1 : PX} {K : Slot × En → Res (Slot × En)} (r : SR G σ0 I H σ ρ) (a : XE G σ0 T σ I H ρ I1 H1 ρ1) (h : tK G σ0 W T σ I H ρ Q (E1 ρ1 >>= K)) {R : VK}
    (hR : ∀ (s : Slot) (ρ2 : En) (I2 H2 : Hp) (v : V), XE G σ0 T σ I H ρ I2 H2 ρ2 → Same I1 I2 → RS G H I2 H2 s v → Rp G I2 s.pv v → tK G σ0 W T σ I H ρ Q (K (.val s.pv, ρ2)) → R v H2)
    (hK : ∀ (s : Slot) (ρ2 : En), K (s, ρ2) = K (.val s.pv, ρ2)) : tX G σ0 W T E1 σ H1 R := by
  refine ⟨I1, ρ1, a.sr, ?_⟩
  cases e : E1 ρ1 with
  | ok q =>
    obtain ⟨s, ρ2⟩ := q
    rw [e] at h
    intro I2 H2 v x w
    obtain ⟨I3, x3, le, p⟩ := (a.trans x).frz r (w.of1 a)
    have h' : tK G σ0 W T σ I H ρ Q (K (s, ρ2)) := h
    rw [hK] at h'
    have w' : RS G H I3 H2 (.val s.pv) v := p
    exact hR (.val s.pv) ρ2 I3 H2 v x3 (x.le.trans le) w' p h'
  | exc c =>
    rw [e] at h
    intro I2 H2 x
    exact h I2 H2 (a.xx x)
  | stuck => rw [e] at h; exact h
theorem tK.nextT {E1 : BX} {K : Bool × En → Res (Slot × En)} (a : XE G σ0 T σ I H ρ I1 H1 ρ1) (h : tK G σ0 W T σ I H ρ Q (E1 ρ1 >>= K)) {R : Bool → Hp → Prop}
    (hR : ∀ b ρ2 I2 H2, XE G σ0 T σ I H ρ I2 H2 ρ2 → Same I1 I2 → tK G σ0 W T σ I H ρ Q (K (b, ρ2)) → R b H2) : tT G σ0 W T E1 σ H1 R := by
  refine ⟨I1, ρ1, a.sr, ?_⟩
  cases e : E1 ρ1 with
  | ok q =>
    obtain ⟨s, ρ2⟩ := q
    rw [e] at h
    intro I2 H2 x
    exact hR s ρ2 I2 H2 (a.trans x) x.le h
  | exc c =>
    rw [e] at h
    intro I2 H2 x
    exact h I2 H2 (a.xx x)
  | stuck => rw [e] at h; exact h
theorem tK.nextA {E1 : AX} {K : List PV × En → Res (Slot × En)} (a : XE G σ0 T σ I H ρ I1 H1 ρ1) (h : tK G σ0 W T σ I H ρ Q (E1 ρ1 >>= K)) {R : List V → Hp → Prop}
    (hR : ∀ xs ρ2 I2 H2 vs, XE G σ0 T σ I H ρ I2 H2 ρ2 → Same I1 I2 → RpL G I2 xs vs → tK G σ0 W T σ I H ρ Q (K (xs, ρ2)) → R vs H2) : tAs G σ0 W T E1 σ H1 R := by
  refine ⟨I1, ρ1, a.sr, ?_⟩
  cases e : E1 ρ1 with
  | ok q =>
    obtain ⟨s, ρ2⟩ := q
    rw [e] at h
    intro I2 H2 vs x l
    exact hR s ρ2 I2 H2 vs (a.trans x) x.le l h
  | exc c =>
    rw [e] at h
    intro I2 H2 x
    exact h I2 H2 (a.xx x)
  | stuck => rw [e] at h; exact h
theorem tB.next {E1 : PX} {K : Slot × En → Res (Bool × En)} {Q : Bool → Hp → Prop} (r : SR G σ0 I H σ ρ) (a : XE G σ0 T σ I H ρ I1 H1 ρ1) (h : tB' G σ0 W T σ I H ρ Q (E1 ρ1 >>= K)) {R : VK}
    (hR : ∀ (s : Slot) (ρ2 : En) (I2 H2 : Hp) (v : V), XE G σ0 T σ I H ρ I2 H2 ρ2 → Same I1 I2 → Rp G I2 s.pv v → tB' G σ0 W T σ I H ρ Q (K (.val s.pv, ρ2)) → R v H2)
    (hK : ∀ (s : Slot) (ρ2 : En), K (s, ρ2) = K (.val s.pv, ρ2)) : tX G σ0 W T E1 σ H1 R := by
  refine ⟨I1, ρ1, a.sr, ?_⟩
  cases e : E1 ρ1 with
  | ok q =>
    obtain ⟨s, ρ2⟩ := q
    rw [e] at h
    intro I2 H2 v x w
    obtain ⟨I3, x3, le, p⟩ := (a.trans x).frz r (w.of1 a)
    have h' : tB' G σ0 W T σ I H ρ Q (K (s, ρ2)) := h
    rw [hK] at h'
    exact hR (.val s.pv) ρ2 I3 H2 v x3 (x.le.trans le) p h'
  | exc c =>
    rw [e] at h
    intro I2 H2 x
    exact h I2 H2 (a.xx x)
  | stuck => rw [e] at h; exact h
theorem tB.nextT {E1 : BX} {K : Bool × En → Res (Bool × En)} {Q : Bool → Hp → Prop} (a : XE G σ0 T σ I H ρ I1 H1 ρ1) (h : tB' G σ0 W T σ I H ρ Q (E1 ρ1 >>= K)) {R : Bool → Hp → Prop}
    (hR : ∀ b ρ2 I2 H2, XE G σ0 T σ I H ρ I2 H2 ρ2 → Same I1 I2 → tB' G σ0 W T σ I H ρ Q (K (b, ρ2)) → R b H2) : tT G σ0 W T E1 σ H1 R := by
  refine ⟨I1, ρ1, a.sr, ?_⟩
  cases e : E1 ρ1 with
  | ok q =>
    obtain ⟨s, ρ2⟩ := q
    rw [e] at h
    intro I2 H2 x
    exact hR s ρ2 I2 H2 (a.trans x) x.le h
  | exc c =>
    rw [e] at h
    intro I2 H2 x
    exact h I2 H2 (a.xx x)
  | stuck => rw [e] at h; exact h
theorem tA.next {E1 : PX} {K : Slot × En → Res (List PV × En)} {Q : List V → Hp → Prop} (r : SR G σ0 I H σ ρ) (a : XE G σ0 T σ I H ρ I1 H1 ρ1) (h : tA' G σ0 W T σ I H ρ Q (E1 ρ1 >>= K)) {R : VK}
    (hR : ∀ (s : Slot) (ρ2 : En) (I2 H2 : Hp) (v : V), XE G σ0 T σ I H ρ I2 H2 ρ2 → Same I1 I2 → Rp G I2 s.pv v → tA' G σ0 W T σ I H ρ Q (K (.val s.pv, ρ2)) → R v H2)
    (hK : ∀ (s : Slot) (ρ2 : En), K (s, ρ2) = K (.val s.pv, ρ2)) : tX G σ0 W T E1 σ H1 R := by
  refine ⟨I1, ρ1, a.sr, ?_⟩
  cases e : E1 ρ1 with
  | ok q =>
    obtain ⟨s, ρ2⟩ := q
    rw [e] at h
    intro I2 H2 v x w
    obtain ⟨I3, x3, le, p⟩ := (a.trans x).frz r (w.of1 a)
    have h' : tA' G σ0 W T σ I H ρ Q (K (s, ρ2)) := h
    rw [hK] at h'
    exact hR (.val s.pv) ρ2 I3 H2 v x3 (x.le.trans le) p h'
  | exc c =>
    rw [e] at h
    intro I2 H2 x
    exact h I2 H2 (a.xx x)
  | stuck => rw [e] at h; exact h
theorem tA.nextA {E1 : AX} {K : List PV × En → Res (List PV × En)} {Q : List V → Hp → Prop} (a : XE G σ0 T σ I H ρ I1 H1 ρ1) (h : tA' G σ0 W T σ I H ρ Q (E1 ρ1 >>= K)) {R : List V → Hp → Prop}
    (hR : ∀ xs ρ2 I2 H2 vs, XE G σ0 T σ I H ρ I2 H2 ρ2 → Same I1 I2 → RpL G I2 xs vs → tA' G σ0 W T σ I H ρ Q (K (xs, ρ2)) → R vs H2) : tAs G σ0 W T E1 σ H1 R := by
  refine ⟨I1, ρ1, a.sr, ?_⟩
  cases e : E1 ρ1 with
  | ok q =>
    obtain ⟨s, ρ2⟩ := q
    rw [e] at h
    intro I2 H2 vs x l
    exact hR s ρ2 I2 H2 vs (a.trans x) x.le l h
  | exc c =>
    rw [e] at h
    intro I2 H2 x
    exact h I2 H2 (a.xx x)
  | stuck => rw [e] at h; exact h
end

/-- what a mirror's operation gives, if it gives anything; it raises nothing -/
def Sat {α : Type} (m : Res α) (P : α → Prop) : Prop := match m with
  | .ok a => P a
  | .exc _ => False
  | .stuck => True
/-- an operation r on values serves the operation f on data -/
def Op2 (G : Gm) (r : R2) (f : PV → PV → Res Slot) : Prop := ∀ (I H : Hp) (a b : PV) (v w : V), Same I H → Rp G I a v → Rp G I b w →
  Sat (f a b) fun s => ∀ Q : VK, (∀ I' H' u, Ext I H I' H' → RS G H I' H' s u → Q u H') → r v w H Q
def Op1 (G : Gm) (r : V → Hp → VK → Prop) (f : PV → Res Slot) : Prop := ∀ (I H : Hp) (a : PV) (v : V), Same I H → Rp G I a v →
  Sat (f a) fun s => ∀ Q : VK, (∀ I' H' u, Ext I H I' H' → RS G H I' H' s u → Q u H') → r v H Q
def OpN (G : Gm) (r : List V → Hp → VK → Prop) (f : List PV → Res Slot) : Prop := ∀ (I H : Hp) (a : List PV) (v : List V), Same I H → RpL G I a v →
  Sat (f a) fun s => ∀ Q : VK, (∀ I' H' u, Ext I H I' H' → RS G H I' H' s u → Q u H') → r v H Q
/-- the end: an operation's result -/
theorem tK.fin {G : Gm} {σ0 : St} {W : WX} {T : List Nat} {σ : St} {I H I1 H1 : Hp} {ρ ρ1 : En} {Q : VK} {m : Res Slot} {P : VK → Prop} (a : XE G σ0 T σ I H ρ I1 H1 ρ1)
    (s : Sat m fun s => ∀ R : VK, (∀ I' H' u, Ext I1 H1 I' H' → RS G H1 I' H' s u → R u H') → P R) (h : tK G σ0 W T σ I H ρ Q (m >>= fun s => Res.ok (s, ρ1))) : P Q := by
  cases e : m with
  | ok q =>
    rw [e] at h s
    refine s Q fun I' H' u x w => ?_
    exact h I' H' u (a.ext x) (w.of1 a)
  | exc c => rw [e] at s; exact s.elim
  | stuck => rw [e] at h; exact h.elim

section
variable {X : Cx} {C : Dc} {T : List Nat} {pos : Pos}
def eC (x : PV) : PX := fun ρ => .ok (.val x, ρ)
theorem de_c {e : Expr} {v : V} {x : PV} (h : PE X e (tC v)) (hr : ∀ I, Rp C.G I x v) : DE X C T e (eC x) := PE.imp h fun σ H Q ⟨I, ρ, r, k⟩ => k I H v (.refl r) (hr I)
theorem de_int {i : Int} {j : Nat} : DE X C T (.Constant (.int i) j pos) (eC (.int i)) := de_c pe_int fun _ => .int i
theorem de_bl {b : Bool} {j : Nat} : DE X C T (.Constant (.bool b) j pos) (eC (.bl b)) := de_c pe_bl fun _ => .bl b
theorem de_non {j : Nat} : DE X C T (.Constant .none j pos) (eC .non) := de_c pe_non fun _ => .non
theorem de_str {x : Str} {j : Nat} : DE X C T (.Constant (.str x) j pos) (eC (.str x)) := de_c pe_str fun _ => .str x
/-- a name of the def whose data is frozen -/
def eV (i : Nat) : PX := fun ρ => match ρ[i]? with
  | some (.val x) => .ok (.val x, ρ)
  | _ => .stuck
theorem de_v {i : Nat} {e : Expr} (h : PE X e (tVar i)) : DE X C T e (eV i) := PE.imp h fun σ H Q ⟨I, ρ, r, k⟩ => by
  unfold eV at k
  split at k
  · rename_i x e
    obtain ⟨v, h1, h2⟩ := r.val i x e
    exact ⟨v, h1, k I H v (.refl r) h2⟩
  · exact k.elim
/-- an operator -/
def eBin (f : PV → PV → Res Slot) (E1 E2 : PX) : PX := fun ρ => E1 ρ >>= fun p => E2 p.2 >>= fun q => f p.1.pv q.1.pv >>= fun s => .ok (s, q.2)
theorem tOp_of {r : R2} {f : PV → PV → Res Slot} {E1 E2 : PX} (o : Op2 C.G r f) (σ : St) (H : Hp) (Q : VK) (h : tX C.G C.σ0 C.W T (eBin f E1 E2) σ H Q) : tOp r (tX C.G C.σ0 C.W T E1) (tX C.G C.σ0 C.W T E2) σ H Q := by
  obtain ⟨I, ρ, sr, k⟩ := h
  refine tK.next sr (.refl sr) k (fun s ρ1 I1 H1 v x1 _ _ p1 k1 => ?_) fun _ _ => rfl
  refine tK.next sr x1 k1 (fun s2 ρ2 I2 H2 w x2 le _ p2 k2 => ?_) fun _ _ => rfl
  exact tK.fin (P := fun R => r v w H2 R) x2 (o I2 H2 s.pv s2.pv v w x2.same (p1.up le) p2) k2
theorem de_bin {a b : Expr} {op : Operator} {r : R2} {f : PV → PV → Res Slot} {E1 E2 : PX} (hr : OpR X (binaryOp op) r) (o : Op2 C.G r f) (ha : DE X C T a E1) (hb : DE X C T b E2) : DE X C T (.BinOp a op b pos) (eBin f E1 E2) :=
  PE.imp (pe_op hr ha hb) (tOp_of o)
theorem de_cmp {a b : Expr} {op : CmpOp} {r : R2} {f : PV → PV → Res Slot} {E1 E2 : PX} (hr : OpR X (compareOp op) r) (o : Op2 C.G r f) (ha : DE X C T a E1) (hb : DE X C T b E2) (hm : behindInMarks op b = false) : DE X C T (.Compare a [op] [b] pos) (eBin f E1 E2) :=
  PE.imp (pe_cmpR hr ha hb hm) (tOp_of o)
theorem de_ix {a b : Expr} {r : R2} {f : PV → PV → Res Slot} {E1 E2 : PX} (hr : IxR X r) (o : Op2 C.G r f) (ha : DE X C T a E1) (hb : DE X C T b E2) (hs : PlainIx b := by exact fun _ _ => rfl) : DE X C T (.Subscript a b pos) (eBin f E1 E2) :=
  PE.imp (pe_ix hr ha hb hs) (tOp_of o)
def eUn (f : PV → Res Slot) (E1 : PX) : PX := fun ρ => E1 ρ >>= fun p => f p.1.pv >>= fun s => .ok (s, p.2)
theorem tUn_of {r : V → Hp → VK → Prop} {f : PV → Res Slot} {E1 : PX} (o : Op1 C.G r f) (σ : St) (H : Hp) (Q : VK) (h : tX C.G C.σ0 C.W T (eUn f E1) σ H Q) : tX C.G C.σ0 C.W T E1 σ H (fun v H1 => r v H1 Q) := by
  obtain ⟨I, ρ, sr, k⟩ := h
  refine tK.next sr (.refl sr) k (fun s ρ1 I1 H1 v x1 _ _ p1 k1 => ?_) fun _ _ => rfl
  exact tK.fin (P := fun R => r v H1 R) x1 (o I1 H1 s.pv v x1.same p1) k1
theorem de_un {a : Expr} {op : UnaryOp} {r : V → Hp → VK → Prop} {f : PV → Res Slot} {E1 : PX} (hr : UnR X (unaryOp op) r) (o : Op1 C.G r f) (ha : DE X C T a E1) : DE X C T (.UnaryOp op a pos) (eUn f E1) :=
  PE.imp (pe_un hr ha) (tUn_of o)
def aNil : AX := fun ρ => .ok ([], ρ)
def aCons (E : PX) (A : AX) : AX := fun ρ => E ρ >>= fun p => A p.2 >>= fun q => .ok (p.1.pv :: q.1, q.2)
theorem da_nil : DA X C T [] aNil := PA.imp pa_nil fun σ H Q ⟨I, ρ, r, k⟩ => k I H [] (.refl r) .nil
theorem da_cons {e : Expr} {es : List Expr} {E : PX} {A : AX} (ha : DE X C T e E) (hr : DA X C T es A) (hs : starEach (e :: es) X.env = (false, eval e X.env) :: starEach es X.env := by rfl) : DA X C T (e :: es) (aCons E A) := by
  refine PA.imp (pa_cons ha hr hs) fun σ H Q ⟨I, ρ, sr, k⟩ => ?_
  refine tA.next sr (.refl sr) k (fun s ρ1 I1 H1 v x1 _ p1 k1 => ?_) fun _ _ => rfl
  refine tA.nextA x1 k1 fun xs ρ2 I2 H2 vs x2 le l k2 => ?_
  exact k2 I2 H2 (v :: vs) x2 (.cons (p1.up le) l)
/-- a tuple, a list of written items -/
def eTup (A : AX) : PX := fun ρ => A ρ >>= fun p => if p.1.length ≤ sizeLine then .ok (.val (.tup p.1), p.2) else .stuck
def eLst (A : AX) : PX := fun ρ => A ρ >>= fun p => if p.1.length ≤ sizeLine then .ok (.own (.lst p.1), p.2) else .stuck
theorem de_tup {es : List Expr} {A : AX} {x1 : Nat} (h : DA X C T es A) : DE X C T (.Tuple es x1 pos) (eTup A) := by
  refine PE.imp (pe_tup h) fun σ H Q ⟨I, ρ, sr, k⟩ => ?_
  refine tK.nextA (.refl sr) k fun xs ρ1 I1 H1 vs x1 _ l k1 => ?_
  have el := l.length
  dsimp only at k1
  split at k1
  · rename_i hl
    refine ⟨by omega, fun p hp => ?_⟩
    have x := Ext.newF (o := .tup vs) x1.same hp
    exact k1 _ _ _ (x1.ext x) (.tup (.inl upd_same) (l.up x.le))
  · exact k1.elim
theorem de_lst {es : List Expr} {A : AX} (h : DA X C T es A) : DE X C T (.List es pos) (eLst A) := by
  refine PE.imp (pe_lst h) fun σ H Q ⟨I, ρ, sr, k⟩ => ?_
  refine tK.nextA (.refl sr) k fun xs ρ1 I1 H1 vs x1 _ l k1 => ?_
  have el := l.length
  dsimp only at k1
  split at k1
  · rename_i hl
    refine ⟨by omega, fun p hp => ?_⟩
    have x := Ext.new (o := .lst vs) x1.same hp
    exact k1 _ _ _ (x1.ext x) ⟨p, _, rfl, x1.dom p hp, same_none x1.same hp, upd_same, vs, rfl, l⟩
  · exact k1.elim
/-- a built-in, a built-in class called -/
def eN (f : List PV → Res Slot) (A : AX) : PX := fun ρ => A ρ >>= fun p => f p.1 >>= fun s => .ok (s, p.2)
theorem tCB_of {r : List V → Hp → VK → Prop} {f : List PV → Res Slot} {A : AX} (o : OpN C.G r f) (σ : St) (H : Hp) (Q : VK) (h : tX C.G C.σ0 C.W T (eN f A) σ H Q) : tCB r (tAs C.G C.σ0 C.W T A) σ H Q := by
  obtain ⟨I, ρ, sr, k⟩ := h
  refine tK.nextA (.refl sr) k fun xs ρ1 I1 H1 vs x1 _ l k1 => ?_
  exact tK.fin (P := fun R => r vs H1 R) x1 (o I1 H1 xs vs x1.same l) k1
def bT (E : PX) (f : PV → Res Bool) : BX := fun ρ => E ρ >>= fun p => f p.1.pv >>= fun b => .ok (b, p.2)
def pB : PV → Res Bool
  | .bl b => .ok b
  | _ => .stuck
theorem dt_val {e : Expr} {E : PX} (h : DE X C T e E) (he : ∀ whole, isTrue e X.env whole = (do let v ← whole; standAt e.pos; holding [v] (truthy v)) := by intro _; rfl) : DT X C T e (bT E pB) := by
  refine PT.imp (pt_val h he) fun σ H Q ⟨I, ρ, sr, k⟩ => ?_
  refine tB.next sr (.refl sr) k (fun s ρ1 I1 H1 v x1 _ p1 k1 => ?_) fun _ _ => rfl
  revert k1 p1
  cases s.pv <;> intro p1 k1 <;> first | exact k1.elim | skip
  rename_i b
  cases p1
  exact ⟨b, rfl, k1 I1 H1 x1⟩
theorem tB_bin {r : R2} {f : PV → PV → Res Slot} {E1 E2 : PX} (o : Op2 C.G r f) (σ : St) (H : Hp) (Q : Bool → Hp → Prop) (h : tT C.G C.σ0 C.W T (bT (eBin f E1 E2) pB) σ H Q) : tTest (tOp r (tX C.G C.σ0 C.W T E1) (tX C.G C.σ0 C.W T E2)) σ H Q := by
  refine tOp_of o σ H _ ?_
  obtain ⟨I, ρ, sr, k⟩ := h
  refine tB.next sr (.refl sr) k (fun s ρ1 I1 H1 v x1 _ p1 k1 => ?_) fun _ _ => rfl
  revert k1 p1
  cases s.pv <;> intro p1 k1 <;> first | exact k1.elim | skip
  rename_i b
  cases p1
  exact ⟨b, rfl, k1 I1 H1 x1⟩
theorem dt_cmp {a b : Expr} {op : CmpOp} {r : R2} {f : PV → PV → Res Slot} {E1 E2 : PX} (hr : OpR X (compareOp op) r) (o : Op2 C.G r f) (ha : DE X C T a E1) (hb : DE X C T b E2) (hm : behindInMarks op b = false) : DT X C T (.Compare a [op] [b] pos) (bT (eBin f E1 E2) pB) :=
  PT.imp (pt_cmpR hr ha hb hm) (tB_bin o)
def bNot (E : BX) : BX := fun ρ => E ρ >>= fun p => .ok (!p.1, p.2)
theorem dt_not {a : Expr} {E : BX} (h : DT X C T a E) : DT X C T (.UnaryOp .Not a pos) (bNot E) := by
  refine PT.imp (pt_not h) fun σ H Q ⟨I, ρ, sr, k⟩ => ?_
  exact tB.nextT (.refl sr) k fun b ρ1 I1 H1 x1 _ k1 => k1 I1 H1 x1
/-- and, or: tests whatever their whole is -/
abbrev DW (X : Cx) (C : Dc) (T : List Nat) (e : Expr) (E : BX) : Prop := PW X e (tT C.G C.σ0 C.W T E)
theorem PW.imp {X : Cx} {e : Expr} {t t' : TT} (h : PW X e t) (k : ∀ σ H Q, t' σ H Q → t σ H Q) : PW X e t' := ⟨fun wh pins s σ H Q I q => h.run wh pins s σ H Q I (k σ H Q q)⟩
def bAnd (E F : BX) : BX := fun ρ => E ρ >>= fun p => if p.1 = true then F p.2 else .ok (false, p.2)
def bOr (E F : BX) : BX := fun ρ => E ρ >>= fun p => if p.1 = true then .ok (true, p.2) else F p.2
theorem tB.go {G : Gm} {σ0 : St} {W : WX} {T : List Nat} {σ : St} {I H I1 H1 : Hp} {ρ ρ1 : En} {E : BX} {Q : Bool → Hp → Prop} (a : XE G σ0 T σ I H ρ I1 H1 ρ1) (h : tB' G σ0 W T σ I H ρ Q (E ρ1)) : tT G σ0 W T E σ H1 Q := by
  refine tB.nextT (K := fun p => .ok p) a ?_ fun b ρ2 I2 H2 x2 _ k => k I2 H2 x2
  cases e : E ρ1 <;> rw [e] at h <;> exact h
theorem dw_and1 {a : Expr} {E : BX} (h : DT X C T a E) : DW X C T (.BoolOp .And [a] pos) E := pw_and1 h
theorem dw_or1 {a : Expr} {E : BX} (h : DT X C T a E) : DW X C T (.BoolOp .Or [a] pos) E := pw_or1 h
theorem dw_and {a b : Expr} {rest : List Expr} {E F : BX} (h : DT X C T a E) (h2 : DW X C T (.BoolOp .And (b :: rest) pos) F) : DW X C T (.BoolOp .And (a :: b :: rest) pos) (bAnd E F) := by
  refine PW.imp (pw_and h h2) fun σ H Q ⟨I, ρ, sr, k⟩ => ?_
  refine tB.nextT (.refl sr) k fun b ρ1 I1 H1 x1 _ k1 => ?_
  cases b with
  | true => rw [if_pos rfl] at k1 ⊢; exact tB.go x1 k1
  | false => rw [if_neg Bool.false_ne_true] at k1 ⊢; exact k1 I1 H1 x1
theorem dw_or {a b : Expr} {rest : List Expr} {E F : BX} (h : DT X C T a E) (h2 : DW X C T (.BoolOp .Or (b :: rest) pos) F) : DW X C T (.BoolOp .Or (a :: b :: rest) pos) (bOr E F) := by
  refine PW.imp (pw_or h h2) fun σ H Q ⟨I, ρ, sr, k⟩ => ?_
  refine tB.nextT (.refl sr) k fun b ρ1 I1 H1 x1 _ k1 => ?_
  cases b with
  | true => rw [if_pos rfl] at k1 ⊢; exact k1 I1 H1 x1
  | false => rw [if_neg Bool.false_ne_true] at k1 ⊢; exact tB.go x1 k1
/-- a if t else b -/
def eIf (B : BX) (E F : PX) : PX := fun ρ => B ρ >>= fun p => if p.1 = true then E p.2 else F p.2
theorem tK.go {G : Gm} {σ0 : St} {W : WX} {T : List Nat} {σ : St} {I H I1 H1 : Hp} {ρ ρ1 : En} {E : PX} {Q : VK} (a : XE G σ0 T σ I H ρ I1 H1 ρ1) (h : tK G σ0 W T σ I H ρ Q (E ρ1)) : tX G σ0 W T E σ H1 Q := by
  refine ⟨I1, ρ1, a.sr, ?_⟩
  cases e : E ρ1 with
  | ok q => obtain ⟨s, ρ2⟩ := q; rw [e] at h; exact fun I2 H2 v x w => h I2 H2 v (a.trans x) (w.of1 a)
  | exc c => rw [e] at h; exact fun I2 H2 x => h I2 H2 (a.xx x)
  | stuck => rw [e] at h; exact h
theorem de_if {c a b : Expr} {B : BX} {E F : PX} (hc : DT X C T c B) (ha : DE X C T a E) (hb : DE X C T b F) : DE X C T (.IfExp c a b pos) (eIf B E F) := by
  refine PE.imp (pe_ifExp hc ha hb) fun σ H Q ⟨I, ρ, sr, k⟩ => ?_
  refine tK.nextT (.refl sr) k fun b ρ1 I1 H1 x1 _ k1 => ?_
  cases b with
  | true => rw [if_pos rfl] at k1 ⊢; exact tK.go x1 k1
  | false => rw [if_neg Bool.false_ne_true] at k1 ⊢; exact tK.go x1 k1
end
end BF

set_option maxRecDepth 100000
set_option maxHeartbeats 4000000
namespace BF
open PySem PySem.Spec L2
open PyProof.Rows hiding St
set_option autoImplicit false

inductive Out where
  | nx (ρ : En) | rt (s : Slot) (ρ : En) | bk (ρ : En) | ct (ρ : En)
abbrev SX := En → Res Out
/-- a def's result: data, or a new object that no slot holds any longer -/
def RO (G : Gm) (H : Hp) (σ : St) (ρ : En) (I' H' : Hp) (σ' : St) (ρ' : En) : Slot → V → Prop
  | .val x, v => Rp G I' x v
  | .own x, v => ∃ a o, v = .ref a ∧ (H a = none ∨ Ow σ ρ a) ∧ I' a = none ∧ H' a = some o ∧ OwnO G I' x o ∧ ¬ Ow σ' ρ' a ∧ ¬ Pm σ' ρ' a
  | _, _ => False
/-- an exception came out -/
structure Xs (σ : St) (ρ : En) (I H I' H' : Hp) : Prop where
  le : Same I I'
  same : Same I' H'
  dom : ∀ a, H' a = none → H a = none
  keep : ∀ a o, NT o → H a = some o → I a = none → ¬ Ow σ ρ a → ¬ Pm σ ρ a → H' a = some o ∧ I' a = none
  tab : TabsE I H I' H'
/-- what is wanted behind a mirror's rest, begun at (I, H, σ, ρ) -/
def tO (G : Gm) (σ0 : St) (W : WX) (I H : Hp) (σ : St) (ρ : En) (D : Ends) : Res Out → Prop
  | .ok (.nx ρ') => ∀ I' H' σ', SR G σ0 I' H' σ' ρ' → Stp I H σ ρ I' H' σ' ρ' → D.nx σ' H'
  | .ok (.bk ρ') => ∀ I' H' σ', SR G σ0 I' H' σ' ρ' → Stp I H σ ρ I' H' σ' ρ' → D.bk σ' H'
  | .ok (.ct ρ') => ∀ I' H' σ', SR G σ0 I' H' σ' ρ' → Stp I H σ ρ I' H' σ' ρ' → D.ct σ' H'
  | .ok (.rt s ρ') => ∀ I' H' σ' v, SR G σ0 I' H' σ' ρ' → Stp I H σ ρ I' H' σ' ρ' → RO G H σ ρ I' H' σ' ρ' s v → D.rt v H'
  | .exc c => ∀ I' H' σ', Xs σ ρ I H I' H' → W (.ref (G.cls c)) none σ' H'
  | .stuck => False
def tSt (G : Gm) (σ0 : St) (W : WX) (S : SX) : TS := fun D σ H => ∃ I ρ, SR G σ0 I H σ ρ ∧ tO G σ0 W I H σ ρ D (S ρ)
/-- a wish about exceptions that doesn't ask the slots -/
def Flat (W : WX) : Prop := ∀ c d σ σ' H, W c d σ H → W c d σ' H
abbrev DS (X : Cx) (C : Dc) (st : Stmt) (S : SX) : Prop := PS X st (tSt C.G C.σ0 C.W S)
abbrev DSs (X : Cx) (C : Dc) (sts : List Stmt) (S : SX) : Prop := PSs X sts (tSt C.G C.σ0 C.W S)
theorem PS.imp {X : Cx} {e : Stmt} {t t' : TS} (h : PS X e t) (k : ∀ D σ H, t' D σ H → t D σ H) : PS X e t' := ⟨fun pins s σ H D I q => h.run pins s σ H D I (k D σ H q)⟩
theorem PSs.imp {X : Cx} {e : List Stmt} {t t' : TS} (h : PSs X e t) (k : ∀ D σ H, t' D σ H → t D σ H) : PSs X e t' := ⟨fun pins s σ H D I q => h.run pins s σ H D I (k D σ H q)⟩

section
variable {G : Gm} {σ0 : St} {W : WX} {T : List Nat} {σ σ1 : St} {I H I1 H1 I2 H2 : Hp} {ρ ρ1 : En} {D : Ends}
theorem XE.stp (a : XE G σ0 T σ I H ρ I1 H1 ρ1) : Stp I H σ ρ I1 H1 σ ρ1 where
  le := a.le
  dom := a.dom
  own := fun c ⟨i, x, e, q⟩ => by obtain ⟨y, e1⟩ := a.own i x e; exact .inl ⟨i, y, e1, q⟩
  prm := fun c ⟨i, x, e, q⟩ => by obtain ⟨y, e1⟩ := a.prm i x e; exact ⟨i, y, e1, q⟩
  keep := fun c o t e n h1 h2 => a.keep c o t e n fun i _ y z q => by
    rcases z with z | z
    · exact h1 ⟨i, y, z, q⟩
    · exact h2 ⟨i, y, z, q⟩
  tab := a.tab
theorem XX.xs (a : XX T σ ρ I H I1 H1) : Xs σ ρ I H I1 H1 := ⟨a.le, a.same, a.dom, fun c o t e n h1 h2 => a.keep c o t e n fun i _ y z q => by
    rcases z with z | z
    · exact h1 ⟨i, y, z, q⟩
    · exact h2 ⟨i, y, z, q⟩, a.tab⟩
theorem Stp.xs (a : Stp I H σ ρ I1 H1 σ1 ρ1) (b : Xs σ1 ρ1 I1 H1 I2 H2) : Xs σ ρ I H I2 H2 where
  le := a.le.trans b.le
  same := b.same
  dom := fun c h => a.dom c (b.dom c h)
  tab := a.tab.trans b.tab
  keep := fun c o t e n h1 h2 => by
    obtain ⟨e1, n1⟩ := a.keep c o t e n h1 h2
    refine b.keep c o t e1 n1 (fun h => ?_) (fun h => h2 (a.prm c h))
    rcases a.own c h with z | z
    · exact h1 z
    · rw [e] at z; cases z
theorem RO.of {σ' : St} {ρ' : En} {I' H' : Hp} (a : Stp I H σ ρ I1 H1 σ1 ρ1) : ∀ {s : Slot} {v : V}, RO G H1 σ1 ρ1 I' H' σ' ρ' s v → RO G H σ ρ I' H' σ' ρ' s v
  | .val _, _, h => h
  | .own _, _, ⟨c, o, e, h, r⟩ => ⟨c, o, e, by
    rcases h with h | h
    · exact .inl (a.dom c h)
    · rcases a.own c h with h | h
      · exact .inr h
      · exact .inl h, r⟩
/-- from a later point -/
theorem tO.from {m : Res Out} (a : Stp I H σ ρ I1 H1 σ1 ρ1) (h : tO G σ0 W I H σ ρ D m) : tO G σ0 W I1 H1 σ1 ρ1 D m := by
  cases m with
  | ok o =>
    cases o with
    | nx ρ' => exact fun I' H' σ' r s => h I' H' σ' r (a.trans s)
    | bk ρ' => exact fun I' H' σ' r s => h I' H' σ' r (a.trans s)
    | ct ρ' => exact fun I' H' σ' r s => h I' H' σ' r (a.trans s)
    | rt s ρ' => exact fun I' H' σ' v r s q => h I' H' σ' v r (a.trans s) (q.of a)
  | exc c => exact fun I' H' σ' x => h I' H' σ' (a.xs x)
  | stuck => exact h
/-- an expression of a statement -/
theorem tO.expr {E : PX} {K : Slot × En → Res Out} {R : VK} (r : SR G σ0 I H σ ρ) (h : tO G σ0 W I H σ ρ D (E ρ >>= K))
    (hR : ∀ (s : Slot) (ρ1 : En) (I1 H1 : Hp) (v : V), XE G σ0 T σ I H ρ I1 H1 ρ1 → RS G H I1 H1 s v → tO G σ0 W I H σ ρ D (K (s, ρ1)) → R v H1) : tX G σ0 W T E σ H R := by
  refine ⟨I, ρ, r, ?_⟩
  cases e : E ρ with
  | ok q => obtain ⟨s, ρ1⟩ := q; rw [e] at h; exact fun I1 H1 v x w => hR s ρ1 I1 H1 v x w h
  | exc c => rw [e] at h; exact fun I1 H1 x => h I1 H1 σ x.xs
  | stuck => rw [e] at h; exact h
theorem tO.test {E : BX} {K : Bool × En → Res Out} {R : Bool → Hp → Prop} (r : SR G σ0 I H σ ρ) (h : tO G σ0 W I H σ ρ D (E ρ >>= K))
    (hR : ∀ (b : Bool) (ρ1 : En) (I1 H1 : Hp), XE G σ0 T σ I H ρ I1 H1 ρ1 → tO G σ0 W I H σ ρ D (K (b, ρ1)) → R b H1) : tT G σ0 W T E σ H R := by
  refine ⟨I, ρ, r, ?_⟩
  cases e : E ρ with
  | ok q => obtain ⟨s, ρ1⟩ := q; rw [e] at h; exact fun I1 H1 x => hR s ρ1 I1 H1 x h
  | exc c => rw [e] at h; exact fun I1 H1 x => h I1 H1 σ x.xs
  | stuck => rw [e] at h; exact h
theorem tO.testAt {E : BX} {K : Bool × En → Res Out} {R : Bool → Hp → Prop} (s1 : Stp I H σ ρ I1 H1 σ1 ρ1) (r : SR G σ0 I1 H1 σ1 ρ1) (h : tO G σ0 W I H σ ρ D (E ρ1 >>= K))
    (hR : ∀ (b : Bool) (ρ2 : En) (I2 H2 : Hp), XE G σ0 T σ1 I1 H1 ρ1 I2 H2 ρ2 → tO G σ0 W I H σ ρ D (K (b, ρ2)) → R b H2) : tT G σ0 W T E σ1 H1 R := by
  refine ⟨I1, ρ1, r, ?_⟩
  cases e : E ρ1 with
  | ok q => obtain ⟨s, ρ2⟩ := q; rw [e] at h; exact fun I2 H2 x => hR s ρ2 I2 H2 x h
  | exc c => rw [e] at h; exact fun I2 H2 x => h I2 H2 σ1 (s1.xs x.xs)
  | stuck => rw [e] at h; exact h
end

section
variable {X : Cx} {C : Dc} {T : List Nat} {pos : Pos}
def sSkip : SX := fun ρ => .ok (.nx ρ)
def sSeq (S U : SX) : SX := fun ρ => S ρ >>= fun o => match o with
  | .nx ρ' => U ρ'
  | o => .ok o
theorem dss_nil : DSs X C [] sSkip := PSs.imp pss_nil fun D σ H ⟨I, ρ, r, k⟩ => k I H σ r .refl
theorem dss_cons {st : Stmt} {rest : List Stmt} {S U : SX} (h : DS X C st S) (h2 : DSs X C rest U) : DSs X C (st :: rest) (sSeq S U) := by
  refine PSs.imp (pss_cons h h2) fun D σ H ⟨I, ρ, r, k⟩ => ⟨I, ρ, r, ?_⟩
  unfold sSeq at k
  cases e : S ρ with
  | ok o =>
    rw [e] at k
    cases o with
    | nx ρ' => exact fun I' H' σ' r' s => ⟨I', ρ', r', tO.from s k⟩
    | bk ρ' => exact k
    | ct ρ' => exact k
    | rt s ρ' => exact k
  | exc c => rw [e] at k; exact k
  | stuck => rw [e] at k; exact k
theorem dss_one {st : Stmt} {S : SX} (h : DS X C st S) : DSs X C [st] S := pss_one h
theorem ds_pass : DS X C (.Pass pos) sSkip := PS.imp ps_pass fun D σ H ⟨I, ρ, r, k⟩ => k I H σ r .refl
def sBrk : SX := fun ρ => .ok (.bk ρ)
def sCnt : SX := fun ρ => .ok (.ct ρ)
theorem ds_break : DS X C (.Break pos) sBrk := PS.imp ps_break fun D σ H ⟨I, ρ, r, k⟩ => k I H σ r .refl
theorem ds_cont : DS X C (.Continue pos) sCnt := PS.imp ps_continue fun D σ H ⟨I, ρ, r, k⟩ => k I H σ r .refl
/-- an expression alone -/
def sEx (E : PX) : SX := fun ρ => E ρ >>= fun p => .ok (.nx p.2)
theorem ds_ex {e : Expr} {E : PX} (h : DE X C T e E) (hs : swapsWith e none pos.line X.env = pure false := by rfl) : DS X C (.Expr e pos) (sEx E) := by
  refine PS.imp (ps_expr h hs) fun D σ H ⟨I, ρ, r, k⟩ => ?_
  exact tO.expr r k fun s ρ1 I1 H1 v x w k1 => k1 I1 H1 σ x.sr x.stp
/-- return -/
def sRet (E : PX) : SX := fun ρ => E ρ >>= fun p => .ok (.rt p.1 p.2)
theorem RS.ro {G : Gm} {σ0 : St} {σ : St} {I H I1 H1 : Hp} {ρ ρ1 : En} (r : SR G σ0 I H σ ρ) (x : XE G σ0 T σ I H ρ I1 H1 ρ1) : ∀ {s : Slot} {v : V}, RS G H I1 H1 s v → RO G H σ ρ I1 H1 σ ρ1 s v
  | .val _, _, h => h
  | .own _, _, ⟨a, o, e, h0, n, q, w⟩ => ⟨a, o, e, .inl h0, n, q, w, fun ⟨i, y, z, u⟩ => x.slots r h0 i y (.inl z) u, fun ⟨i, y, z, u⟩ => x.slots r h0 i y (.inr z) u⟩
theorem ds_ret {e : Expr} {E : PX} (h : DE X C T e E) : DS X C (.Return (some e) pos) (sRet E) := by
  refine PS.imp (ps_ret h) fun D σ H ⟨I, ρ, r, k⟩ => ?_
  exact tO.expr r k fun s ρ1 I1 H1 v x w k1 => k1 I1 H1 σ v x.sr x.stp (w.ro r x)
/-- return of an own name -/
def sRetO (i : Nat) : SX := fun ρ => match ρ[i]? with
  | some (.own x) => .ok (.rt (.own x) (ρ.set i .dead))
  | _ => .stuck
theorem ds_retO {i : Nat} {e : Expr} (h : PE X e (tVar i)) : DS X C (.Return (some e) pos) (sRetO i) := by
  refine PS.imp (ps_ret h) fun D σ H ⟨I, ρ, r, k⟩ => ?_
  unfold sRetO at k
  split at k
  · rename_i x e
    obtain ⟨a, o, h1, h2, h3, h4⟩ := r.own i x (.inl e)
    have hn : ∀ (j : Nat) (y : PV), (ρ.set i .dead)[j]? = some (.own y) ∨ (ρ.set i .dead)[j]? = some (.prm y) → σ[j]? ≠ some (some (.ref a)) := fun j y z q => by
      have z' : j ≠ i ∧ (ρ[j]? = some (.own y) ∨ ρ[j]? = some (.prm y)) := by
        rcases z with z | z <;> rcases get_set z with ⟨_, w, _⟩ | ⟨n, z⟩
        · cases w
        · exact ⟨n, .inl z⟩
        · cases w
        · exact ⟨n, .inr z⟩
      exact z'.1 (r.sep j i y x a z'.2 (.inl e) q h1)
    exact ⟨.ref a, h1, k I H σ (.ref a) (r.kill i) (Stp.kill i) ⟨a, o, rfl, .inr ⟨i, x, e, h1⟩, h2, h3, h4, fun ⟨j, y, z, q⟩ => hn j y (.inl z) q, fun ⟨j, y, z, q⟩ => hn j y (.inr z) q⟩⟩
  · exact k.elim
def sRetN : SX := fun ρ => .ok (.rt (.val .non) ρ)
theorem ds_retN : DS X C (.Return none pos) sRetN := PS.imp ps_retN fun D σ H ⟨I, ρ, r, k⟩ => k I H σ .non r .refl .non
/-- if -/
def sIf (B : BX) (S U : SX) : SX := fun ρ => B ρ >>= fun p => if p.1 = true then S p.2 else U p.2
theorem ds_if {c : Expr} {a b : List Stmt} {B : BX} {S U : SX} (hc : DT X C T c B) (ha : DSs X C a S) (hb : DSs X C b U) : DS X C (.If c a b pos) (sIf B S U) := by
  refine PS.imp (ps_if hc ha hb) fun D σ H ⟨I, ρ, r, k⟩ => ?_
  refine tO.test r k fun b ρ1 I1 H1 x k1 => ?_
  cases b with
  | true => rw [if_pos rfl] at k1 ⊢; exact ⟨I1, ρ1, x.sr, tO.from x.stp k1⟩
  | false => rw [if_neg Bool.false_ne_true] at k1 ⊢; exact ⟨I1, ρ1, x.sr, tO.from x.stp k1⟩
/-- name = e: frozen data -/
def sSet (i : Nat) (E : PX) : SX := fun ρ => E ρ >>= fun p => .ok (.nx (p.2.set i (.val p.1.pv)))
theorem tAsg_set {i : Nat} {E : PX} {te : TE} (hte : ∀ σ H Q, tX C.G C.σ0 C.W T E σ H Q → te σ H Q) (D : Ends) (σ : St) (H : Hp) (h : tSt C.G C.σ0 C.W (sSet i E) D σ H) : tAsg te (gName i) D σ H := by
  obtain ⟨I, ρ, r, k⟩ := h
  refine hte σ H _ (tO.expr (T := T) r k fun s ρ1 I1 H1 v x w k1 => ?_)
  obtain ⟨I2, x2, _, p⟩ := x.frz r w
  exact k1 I2 H1 _ (x2.sr.setV i p) (x2.stp.trans (Stp.setV i _ v))
/-- name = e: a new object, the name's own -/
def sSetO (i : Nat) (E : PX) : SX := fun ρ => E ρ >>= fun p => match p.1 with
  | .own x => .ok (.nx (p.2.set i (.own x)))
  | _ => .stuck
theorem tAsg_setO {i : Nat} {E : PX} {te : TE} (hte : ∀ σ H Q, tX C.G C.σ0 C.W T E σ H Q → te σ H Q) (D : Ends) (σ : St) (H : Hp) (h : tSt C.G C.σ0 C.W (sSetO i E) D σ H) : tAsg te (gName i) D σ H := by
  obtain ⟨I, ρ, r, k⟩ := h
  refine hte σ H _ (tO.expr (T := T) r k fun s ρ1 I1 H1 v x w k1 => ?_)
  cases s with
  | own y =>
    obtain ⟨a, o, rfl, h0, n, q, ow⟩ := w
    have r0 : ∀ (j : Nat) (y : PV), ρ1[j]? = some (.own y) ∨ ρ1[j]? = some (.prm y) → ∃ a, σ[j]? = some (some (V.ref a)) ∧ H a ≠ none := fun j y e => by
      have e' : ∃ y, ρ[j]? = some (.own y) ∨ ρ[j]? = some (.prm y) := by
        rcases e with e | e
        · obtain ⟨y, h⟩ := x.own j y e; exact ⟨y, .inl h⟩
        · obtain ⟨y, h⟩ := x.prm j y e; exact ⟨y, .inr h⟩
      obtain ⟨y, e'⟩ := e'
      exact r.tracked j y e'
    refine k1 I1 H1 _ (x.sr.setO (H0 := H) r0 i h0 n q ow) ?_
    have st := x.stp
    refine ⟨st.le, st.dom, fun b ⟨j, z, e, u⟩ => ?_, fun b ⟨j, z, e, u⟩ => ?_, st.keep, st.tab⟩
    · rcases get_set e with ⟨rfl, _, hl⟩ | ⟨m, e⟩
      · rw [List.getElem?_set_self (by have h1 := x.sr.len; dsimp only at hl; omega)] at u
        cases u; exact .inr h0
      · rw [List.getElem?_set_ne (Ne.symm m)] at u
        exact st.own b ⟨j, z, e, u⟩
    · rcases get_set e with ⟨_, z, _⟩ | ⟨m, e⟩
      · cases z
      · rw [List.getElem?_set_ne (Ne.symm m)] at u
        exact st.prm b ⟨j, z, e, u⟩
  | val _ => exact k1.elim
  | prm _ => exact k1.elim
  | dead => exact k1.elim
theorem ds_set {i : Nat} {x : Str} {e : Expr} {E : PX} {pos' : Pos} (hN : X.N.Nodup) (he : DE X C T e E) (hi : X.N[i]? = some x := by rfl) (hx : Loc X.env.scope x := by first | exact .inl rfl | exact .inr rfl)
    (hs : swapsWith e (some (.Name x pos')) pos.line X.env = pure false := by rfl) (hf : X.fn x = true ∨ X.env.scope.names.lookup x = some .local := by first | exact .inl rfl | exact .inr rfl) : DS X C (.Assign [.Name x pos'] e pos) (sSet i E) :=
  PS.imp (ps_set hN hi hx he hs hf) (tAsg_set (T := T) fun _ _ _ h => h)
theorem ds_setO {i : Nat} {x : Str} {e : Expr} {E : PX} {pos' : Pos} (hN : X.N.Nodup) (he : DE X C T e E) (hi : X.N[i]? = some x := by rfl) (hx : Loc X.env.scope x := by first | exact .inl rfl | exact .inr rfl)
    (hs : swapsWith e (some (.Name x pos')) pos.line X.env = pure false := by rfl) (hf : X.fn x = true ∨ X.env.scope.names.lookup x = some .local := by first | exact .inl rfl | exact .inr rfl) : DS X C (.Assign [.Name x pos'] e pos) (sSetO i E) :=
  PS.imp (ps_set hN hi hx he hs hf) (tAsg_setO (T := T) fun _ _ _ h => h)
/-- an own name frozen; slots forgotten: no statement of the text -/
def frzE (i : Nat) (ρ : En) : En := match ρ[i]? with
  | some (.own x) => ρ.set i (.val x)
  | _ => ρ
def sFrz (i : Nat) (S : SX) : SX := fun ρ => S (frzE i ρ)
theorem tSt_frz {G : Gm} {σ0 : St} {W : WX} {i : Nat} {S : SX} (D : Ends) (σ : St) (H : Hp) (h : tSt G σ0 W (sFrz i S) D σ H) : tSt G σ0 W S D σ H := by
  obtain ⟨I, ρ, r, k⟩ := h
  unfold sFrz frzE at k
  split at k
  · rename_i x e
    obtain ⟨a, o, h1, h2, h3, h4⟩ := r.own i x (.inl e)
    have hn : ∀ (j : Nat) (y : PV), (ρ.set i .dead)[j]? = some (.own y) ∨ (ρ.set i .dead)[j]? = some (.prm y) → σ[j]? ≠ some (some (.ref a)) := fun j y z q => by
      have z' : j ≠ i ∧ (ρ[j]? = some (.own y) ∨ ρ[j]? = some (.prm y)) := by
        rcases z with z | z <;> rcases get_set z with ⟨_, w, _⟩ | ⟨n, z⟩
        · cases w
        · exact ⟨n, .inl z⟩
        · cases w
        · exact ⟨n, .inr z⟩
      exact z'.1 (r.sep j i y x a z'.2 (.inl e) q h1)
    have r1 := ((r.kill i).frz h2 h3 hn h4.nt).setV i ((h4.up (same_upd h2)).rp upd_same)
    have hl : i < σ.length := (List.getElem?_eq_some_iff.mp h1).1
    have es : σ.set i (some (.ref a)) = σ := List.ext_getElem? fun j => by
      by_cases ej : i = j
      · subst ej; rw [List.getElem?_set_self hl, h1]
      · rw [List.getElem?_set_ne ej]
    rw [es, List.set_set] at r1
    refine ⟨upd I a o, ρ.set i (.val x), r1, ?_⟩
    refine tO.from (I := I) (H := H) (σ := σ) (ρ := ρ) ⟨same_upd h2, fun _ h => h, fun b ⟨j, y, z, q⟩ => ?_, fun b ⟨j, y, z, q⟩ => ?_, fun b u _ e2 n2 n3 _ => ⟨e2, ?_⟩, .frz h3 h4.nt⟩ k
    · rcases get_set z with ⟨_, w, _⟩ | ⟨_, z⟩
      · cases w
      · exact .inl ⟨j, y, z, q⟩
    · rcases get_set z with ⟨_, w, _⟩ | ⟨_, z⟩
      · cases w
      · exact ⟨j, y, z, q⟩
    · rw [upd_ne fun w => n3 ⟨i, x, e, by rw [w]; exact h1⟩]; exact n2
  · exact ⟨I, ρ, r, k⟩
theorem dss_frz {i : Nat} {sts : List Stmt} {S : SX} (h : DSs X C sts S) : DSs X C sts (sFrz i S) := PSs.imp h fun D σ H k => tSt_frz D σ H k
theorem ds_frz {i : Nat} {st : Stmt} {S : SX} (h : DS X C st S) : DS X C st (sFrz i S) := PS.imp h fun D σ H k => tSt_frz D σ H k
def killE : List Nat → En → En
  | [], ρ => ρ
  | i :: is, ρ => killE is (ρ.set i .dead)
def sKill (is : List Nat) (S : SX) : SX := fun ρ => S (killE is ρ)
theorem tSt_kill {G : Gm} {σ0 : St} {W : WX} {S : SX} : ∀ {is : List Nat} (D : Ends) (σ : St) (H : Hp) (h : tSt G σ0 W (sKill is S) D σ H), tSt G σ0 W S D σ H
  | [], _, _, _, h => h
  | i :: is, D, σ, H, ⟨I, ρ, r, k⟩ => tSt_kill (is := is) D σ H ⟨I, ρ.set i .dead, r.kill i, tO.from (Stp.kill i) k⟩
theorem dss_kill {is : List Nat} {sts : List Stmt} {S : SX} (h : DSs X C sts S) : DSs X C sts (sKill is S) := PSs.imp h fun D σ H k => tSt_kill D σ H k

def loopS (body : PV → SX) : List PV → SX
  | [], ρ => .ok (.nx ρ)
  | x :: xs, ρ => body x ρ >>= fun o => match o with
    | .nx ρ' => loopS body xs ρ'
    | .ct ρ' => loopS body xs ρ'
    | .bk ρ' => .ok (.nx ρ')
    | .rt s ρ' => .ok (.rt s ρ')
/-- the iterator J yields just these, at any later point -/
structure ItD (G : Gm) (I0 : Hp) (J : It) (xs : List PV) : Prop where
  go : ∀ i I H, i < xs.length → Same I0 I → Same I H → J.go i H
  yld : ∀ i I H v H', i < xs.length → Same I0 I → Same I H → J.yld i H v H' → ∃ I' x, Ext I H I' H' ∧ xs[i]? = some x ∧ Rp G I' x v
  stop : ∀ i I H, xs.length ≤ i → Same I0 I → Same I H → J.stop i H
def tIt (G : Gm) (σ0 : St) (W : WX) (T : List Nat) (σ : St) (I H : Hp) (ρ : En) (R : It → Hp → Prop) : Res (List PV × En) → Prop
  | .ok (xs, ρ') => ∀ I' H' J, XE G σ0 T σ I H ρ I' H' ρ' → ItD G I' J xs → R J H'
  | .exc c => ∀ I' H', XX T σ ρ I H I' H' → W (.ref (G.cls c)) none σ H'
  | .stuck => False
def tI (G : Gm) (σ0 : St) (W : WX) (T : List Nat) (F : AX) : TI := fun σ H R => ∃ I ρ, SR G σ0 I H σ ρ ∧ tIt G σ0 W T σ I H ρ R (F ρ)
abbrev DI (X : Cx) (C : Dc) (T : List Nat) (tg e : Expr) (F : AX) : Prop := PI X tg e (tI C.G C.σ0 C.W T F)
theorem PI.imp {X : Cx} {tg e : Expr} {t t' : TI} (h : PI X tg e t) (k : ∀ σ H R, t' σ H R → t σ H R) : PI X tg e t' := ⟨fun pins s σ H R I q => h.run pins s σ H R I (k σ H R q)⟩
/-- a target -/
abbrev GX := PV → En → Res En
/-- only the slots js differ -/
def Off (js : List Nat) (σ σ' : St) : Prop := σ'.length = σ.length ∧ ∀ i, i ∉ js → σ'[i]? = σ[i]?
theorem Off.refl {js : List Nat} {σ : St} : Off js σ σ := ⟨rfl, fun _ _ => rfl⟩
theorem Off.trans {js : List Nat} {σ σ1 σ2 : St} (a : Off js σ σ1) (b : Off js σ1 σ2) : Off js σ σ2 := ⟨b.1.trans a.1, fun i h => (b.2 i h).trans (a.2 i h)⟩
theorem Off.mono {js ks : List Nat} {σ σ' : St} (a : Off js σ σ') (h : ∀ i ∈ js, i ∈ ks) : Off ks σ σ' := ⟨a.1, fun i hi => a.2 i fun z => hi (h i z)⟩
theorem Off.set {i : Nat} {v : Option V} {σ : St} : Off [i] σ (σ.set i v) := ⟨by simp, fun j hj => by rw [List.getElem?_set_ne]; intro z; exact hj (by simp [z])⟩
def gD (G : Gm) (σ0 : St) (js : List Nat) (t : GX) : TG := fun v σ H Q => ∃ I ρ x, SR G σ0 I H σ ρ ∧ Rp G I x v ∧ match t x ρ with
  | .ok ρ' => ∀ σ', SR G σ0 I H σ' ρ' → Stp I H σ ρ I H σ' ρ' → Off js σ σ' → Q σ' H
  | _ => False
abbrev DG (X : Cx) (C : Dc) (js : List Nat) (tg : Expr) (t : GX) : Prop := PG X tg (gD C.G C.σ0 js t)
theorem PG.imp {X : Cx} {tg : Expr} {t t' : TG} (h : PG X tg t) (k : ∀ v σ H Q, t' v σ H Q → t v σ H Q) : PG X tg t' := ⟨fun pins s σ H v u Q I r q => h.run pins s σ H v u Q I r (k v σ H Q q)⟩
def gN (i : Nat) : GX := fun x ρ => .ok (ρ.set i (.val x))
theorem dg_n {i : Nat} {x : Str} (hN : X.N.Nodup) (hi : X.N[i]? = some x := by rfl) (hx : Loc X.env.scope x := by first | exact .inl rfl | exact .inr rfl) (hf : X.fn x = true ∨ X.env.scope.names.lookup x = some .local := by first | exact .inl rfl | exact .inr rfl) : DG X C [i] (.Name x pos) (gN i) :=
  PG.imp (pg_name hN hi hx hf) fun v σ H Q ⟨I, ρ, x, r, p, k⟩ => k _ (r.setV i p) (Stp.setV i x v) .set
/-- several names: a tuple -/
abbrev GXs := List PV → En → Res En
def gsD (G : Gm) (σ0 : St) (js : List Nat) (t : GXs) : TGs := fun vs σ H Q => ∃ I ρ xs, SR G σ0 I H σ ρ ∧ RpL G I xs vs ∧ match t xs ρ with
  | .ok ρ' => ∀ σ', SR G σ0 I H σ' ρ' → Stp I H σ ρ I H σ' ρ' → Off js σ σ' → Q σ' H
  | _ => False
abbrev DGs (X : Cx) (C : Dc) (js : List Nat) (tg : List Expr) (t : GXs) : Prop := PGs X tg (gsD C.G C.σ0 js t)
theorem PGs.imp {X : Cx} {tg : List Expr} {t t' : TGs} (h : PGs X tg t) (k : ∀ v σ H Q, t' v σ H Q → t v σ H Q) : PGs X tg t' := ⟨fun pins s σ H v u Q I r q => h.run pins s σ H v u Q I r (k v σ H Q q)⟩
def gsNil : GXs := fun xs ρ => match xs with
  | [] => .ok ρ
  | _ => .stuck
def gsCons (t : GX) (u : GXs) : GXs := fun xs ρ => match xs with
  | x :: r => t x ρ >>= fun ρ' => u r ρ'
  | [] => .stuck
theorem dgs_nil : DGs X C [] [] gsNil := PGs.imp pgs_nil fun vs σ H Q ⟨I, ρ, xs, r, l, k⟩ => by
  unfold gsNil at k
  cases l with
  | nil => exact ⟨rfl, k σ r .refl .refl⟩
  | cons _ _ => exact k.elim
theorem dgs_cons {e : Expr} {es : List Expr} {t : GX} {u : GXs} {js ks : List Nat} (h1 : DG X C js e t) (h2 : DGs X C ks es u) (hs : (assignEach (e :: es) X.env).map (·.2) = assign e X.env :: (assignEach es X.env).map (·.2) := by rfl) : DGs X C (js ++ ks) (e :: es) (gsCons t u) := by
  refine PGs.imp (pgs_cons h1 h2 hs) fun vs σ H Q ⟨I, ρ, xs, r, l, k⟩ => ?_
  unfold gsCons at k
  cases l with
  | nil => exact k.elim
  | @cons x v xs vs p l =>
    refine ⟨v, vs, rfl, I, ρ, x, r, p, ?_⟩
    dsimp only at k
    cases e : t x ρ with
    | ok ρ' =>
      rw [e] at k
      refine fun σ' r' s of => ⟨I, ρ', xs, r', l, ?_⟩
      have k' : (match u xs ρ' with
        | .ok ρ' => ∀ σ', SR C.G C.σ0 I H σ' ρ' → Stp I H σ ρ I H σ' ρ' → Off (js ++ ks) σ σ' → Q σ' H
        | _ => False) := k
      cases e2 : u xs ρ' with
      | ok ρ2 => rw [e2] at k'; exact fun σ2 r2 s2 of2 => k' σ2 r2 (s.trans s2) ((of.mono fun i h => List.mem_append_left _ h).trans (of2.mono fun i h => List.mem_append_right _ h))
      | exc c => rw [e2] at k'; exact k'
      | stuck => rw [e2] at k'; exact k'
    | exc c => rw [e] at k; exact k
    | stuck => rw [e] at k; exact k
def gT (n : Nat) (u : GXs) : GX := fun x ρ => match x with
  | .tup xs => if xs.length = n then u xs ρ else .stuck
  | _ => .stuck
theorem dg_t {es : List Expr} {k : Nat} {u : GXs} {n : Nat} {js : List Nat} (hc : X.calm = true) (h : DGs X C js es u) (hn : (assignEach es X.env).length = n := by rfl) (hst : (assignEach es X.env).findIdx? (·.1) = none := by rfl) : DG X C js (.Tuple es k pos) (gT n u) := by
  refine PG.imp (pg_tup hc h hn hst) fun v σ H Q ⟨I, ρ, x, r, p, kk⟩ => ?_
  unfold gT at kk
  cases p with
  | @tup a vs xs rd l =>
    dsimp only at kk
    by_cases hl : xs.length = n
    · rw [if_pos hl] at kk
      exact ⟨a, vs, rfl, .inl (rd_same r.same rd), by rw [← l.length]; exact hl, I, ρ, xs, r, l, kk⟩
    · rw [if_neg hl] at kk; exact kk.elim
  | _ => exact kk.elim
def tgt (t : GX) (S : SX) (x : PV) : SX := fun ρ => match t x ρ with
  | .ok ρ' => S ρ'
  | _ => .stuck
def sFor (F : AX) (t : GX) (S : SX) : SX := fun ρ => F ρ >>= fun p => loopS (tgt t S) p.1 p.2
theorem tFor_at {F : AX} {t : GX} {S : SX} {js : List Nat} {wi : TI} {I H : Hp} {σ : St} {ρ : En} {D : Ends} (r : SR C.G C.σ0 I H σ ρ) (k : tO C.G C.σ0 C.W I H σ ρ D (sFor F t S ρ)) (hwi : ∀ R, tIt C.G C.σ0 C.W T σ I H ρ R (F ρ) → wi σ H R) : tFor wi (gD C.G C.σ0 js t) (tSt C.G C.σ0 C.W S) D σ H := by
  refine hwi _ ?_
  unfold sFor at k
  cases e : F ρ with
  | exc c => rw [e] at k; exact fun I' H' x => k I' H' σ x.xs
  | stuck => rw [e] at k; exact k
  | ok q =>
    obtain ⟨xs, ρ1⟩ := q
    rw [e] at k
    intro I1 H1 J x1 its
    let B := tgt t S
    let Nw : Nat → St → Hp → Prop := fun i σ' H' => ∃ I' ρ', SR C.G C.σ0 I' H' σ' ρ' ∧ Stp I H σ ρ I' H' σ' ρ' ∧ Same I1 I' ∧ tO C.G C.σ0 C.W I H σ ρ D (loopS B (xs.drop i) ρ')
    refine ⟨fun i m σ' H' => m = xs.length - i ∧ i ≤ xs.length ∧ Nw i σ' H', ⟨xs.length, by simp, Nat.zero_le _, I1, ρ1, x1.sr, x1.stp, Same.refl _, k⟩, ?_⟩
    rintro i m σ2 H2 ⟨rfl, hi, I2, ρ2, r2, s2, le2, k2⟩
    by_cases hl : i < xs.length
    · refine .inr ⟨its.go i I2 H2 hl le2 r2.same, Nw (i + 1), fun σ' H' n => ⟨xs.length - (i + 1), by omega, rfl, hl, n⟩, fun v H3 y => ?_⟩
      obtain ⟨I3, x, x3, ex, p⟩ := its.yld i I2 H2 v H3 hl le2 r2.same y
      have ed : xs.drop i = x :: xs.drop (i + 1) := by
        rw [List.drop_eq_getElem_cons hl]
        rw [List.getElem?_eq_getElem hl] at ex
        cases ex; rfl
      rw [ed] at k2
      have st3 : Stp I H σ ρ I3 H3 σ2 ρ2 := s2.trans (Stp.ext r2.same x3)
      refine ⟨I3, ρ2, x, r2.ext x3, p, ?_⟩
      have k3 : tO C.G C.σ0 C.W I H σ ρ D (tgt t S x ρ2 >>= fun o => match o with
        | .nx ρ' => loopS B (xs.drop (i + 1)) ρ'
        | .ct ρ' => loopS B (xs.drop (i + 1)) ρ'
        | .bk ρ' => .ok (.nx ρ')
        | .rt s ρ' => .ok (.rt s ρ')) := k2
      unfold tgt at k3
      cases et : t x ρ2 with
      | exc c => rw [et] at k3; exact k3
      | stuck => rw [et] at k3; exact k3
      | ok ρ4 =>
        rw [et] at k3
        refine fun σ4 r4 s4 _ => ⟨I3, ρ4, r4, ?_⟩
        have st4 := st3.trans s4
        have k4 : tO C.G C.σ0 C.W I H σ ρ D (S ρ4 >>= fun o => match o with
          | .nx ρ' => loopS B (xs.drop (i + 1)) ρ'
          | .ct ρ' => loopS B (xs.drop (i + 1)) ρ'
          | .bk ρ' => .ok (.nx ρ')
          | .rt s ρ' => .ok (.rt s ρ')) := k3
        cases es : S ρ4 with
        | exc c => rw [es] at k4; exact fun I' H' σ' x => k4 I' H' σ' (st4.xs x)
        | stuck => rw [es] at k4; exact k4
        | ok o =>
          rw [es] at k4
          cases o with
          | nx ρ5 => exact fun I5 H5 σ5 r5 s5 => ⟨I5, ρ5, r5, st4.trans s5, le2.trans (x3.le.trans s5.le), k4⟩
          | ct ρ5 => exact fun I5 H5 σ5 r5 s5 => ⟨I5, ρ5, r5, st4.trans s5, le2.trans (x3.le.trans s5.le), k4⟩
          | bk ρ5 => exact fun I5 H5 σ5 r5 s5 => k4 I5 H5 σ5 r5 (st4.trans s5)
          | rt s ρ5 => exact fun I5 H5 σ5 v r5 s5 q => k4 I5 H5 σ5 v r5 (st4.trans s5) (q.of st4)
    · refine .inl ⟨its.stop i I2 H2 (by omega) le2 r2.same, ?_⟩
      rw [List.drop_eq_nil_of_le (by omega)] at k2
      exact k2 I2 H2 σ2 r2 s2
theorem tFor_of {F : AX} {t : GX} {S : SX} {js : List Nat} (D : Ends) (σ : St) (H : Hp) (h : tSt C.G C.σ0 C.W (sFor F t S) D σ H) : tFor (tI C.G C.σ0 C.W T F) (gD C.G C.σ0 js t) (tSt C.G C.σ0 C.W S) D σ H := by
  obtain ⟨I, ρ, r, k⟩ := h
  exact tFor_at r k fun R h => ⟨I, ρ, r, h⟩
theorem ds_for {tg iter : Expr} {body : List Stmt} {F : AX} {t : GX} {S : SX} {js : List Nat} (hp : PassesOwn (model X.prog X.w) X.A X.env X.xe) (hc : X.calm = true) (hi : DI X C T tg iter F) (hg : DG X C js tg t) (hb : DSs X C body S)
    (hs : ∀ x, foldedSetIterable iter X.env x = pure x := by intro _; rfl) : DS X C (.For tg iter body [] pos) (sFor F t S) :=
  PS.imp (ps_for hp hc hi hg hb hs) tFor_of
/-- while -/
def loopW (B : BX) (S : SX) : Nat → SX
  | 0, _ => .stuck
  | n + 1, ρ => B ρ >>= fun p => if p.1 = true then (S p.2 >>= fun o => match o with
      | .nx ρ' => loopW B S n ρ'
      | .ct ρ' => loopW B S n ρ'
      | .bk ρ' => .ok (.nx ρ')
      | .rt s ρ' => .ok (.rt s ρ')) else .ok (.nx p.2)
theorem ds_while {c : Expr} {body : List Stmt} {B : BX} {S : SX} (n : Nat) (hp : PassesOwn (model X.prog X.w) X.A X.env X.xe) (hc : DT X C T c B) (hb : DSs X C body S) : DS X C (.While c body [] pos) (loopW B S n) := by
  refine PS.imp (ps_while hp hc hb) fun D σ H ⟨I, ρ, r, k⟩ => ?_
  refine ⟨fun m σ' H' => ∃ I' ρ', SR C.G C.σ0 I' H' σ' ρ' ∧ Stp I H σ ρ I' H' σ' ρ' ∧ tO C.G C.σ0 C.W I H σ ρ D (loopW B S m ρ'), ⟨n, I, ρ, r, .refl, k⟩, ?_⟩
  rintro m σ1 H1 ⟨I1, ρ1, r1, s1, k1⟩
  cases m with
  | zero => exact k1.elim
  | succ m =>
    refine tO.testAt (D := D) s1 r1 k1 fun b ρ2 I2 H2 x k2 => ?_
    have st := s1.trans x.stp
    cases b with
    | false => rw [if_neg Bool.false_ne_true] at k2 ⊢; exact k2 I2 H2 σ1 x.sr st
    | true =>
      rw [if_pos rfl] at k2 ⊢
      refine ⟨fun σ' H' => ∃ I' ρ', SR C.G C.σ0 I' H' σ' ρ' ∧ Stp I H σ ρ I' H' σ' ρ' ∧ tO C.G C.σ0 C.W I H σ ρ D (loopW B S m ρ'), fun σ' H' h => ⟨m, Nat.lt_succ_self _, h⟩, I2, ρ2, x.sr, ?_⟩
      have k2' : tO C.G C.σ0 C.W I H σ ρ D (S ρ2 >>= fun o => match o with
        | .nx ρ' => loopW B S m ρ'
        | .ct ρ' => loopW B S m ρ'
        | .bk ρ' => .ok (.nx ρ')
        | .rt s ρ' => .ok (.rt s ρ')) := k2
      cases es : S ρ2 with
      | exc c => rw [es] at k2'; exact fun I' H' σ' x => k2' I' H' σ' (st.xs x)
      | stuck => rw [es] at k2'; exact k2'
      | ok o =>
        rw [es] at k2'
        cases o with
        | nx ρ5 => exact fun I5 H5 σ5 r5 s5 => ⟨I5, ρ5, r5, st.trans s5, k2'⟩
        | ct ρ5 => exact fun I5 H5 σ5 r5 s5 => ⟨I5, ρ5, r5, st.trans s5, k2'⟩
        | bk ρ5 => exact fun I5 H5 σ5 r5 s5 => k2' I5 H5 σ5 r5 (st.trans s5)
        | rt s ρ5 => exact fun I5 H5 σ5 v r5 s5 q => k2' I5 H5 σ5 v r5 (st.trans s5) (q.of st)
end
end BF

set_option maxRecDepth 100000
set_option maxHeartbeats 4000000
namespace BF
open PySem PySem.Spec L2
open PyProof.Rows hiding St
set_option autoImplicit false

def toP : Slot → Slot
  | .own x => .prm x
  | .val x => .val x
  | _ => .dead
def back1 : Slot → Slot → Slot
  | .val x, _ => .val x
  | .own _, .prm y => .own y
  | _, _ => .dead
def back : List Slot → En → List Slot
  | [], _ => []
  | s :: ss, ρ => back1 s (ρ.headD .dead) :: back ss ρ.tail
theorem back_length : ∀ (ss : List Slot) (ρ : En), (back ss ρ).length = ss.length
  | [], _ => rfl
  | _ :: ss, ρ => congrArg Nat.succ (back_length ss ρ.tail)
theorem back_get : ∀ (ss : List Slot) (ρ : En) (i : Nat), (back ss ρ)[i]? = ss[i]?.map fun s => back1 s (ρ[i]?.getD .dead)
  | [], _, _ => by simp [back]
  | s :: ss, ρ, 0 => by cases ρ <;> simp [back]
  | s :: ss, ρ, i + 1 => by
    have := back_get ss ρ.tail i
    cases ρ <;> simpa [back] using this
/-- a def's mirror: N names, S its body; the arguments' slots, the result and what became of the arguments handed in by reference -/
abbrev FM := List Slot → Res (Slot × List Slot)
def fnM (k : Nat) (S : SX) : FM := fun ss => S (ss.map toP ++ List.replicate k .dead) >>= fun o => match o with
  | .rt s ρ' => .ok (s, back ss ρ')
  | .nx ρ' => .ok (.val .non, back ss ρ')
  | _ => .stuck
/-- the promise of a def with such a mirror -/
def spF (G : Gm) (n : Nat) (m : FM) : Sp := fun vs H Q E => vs.length = n ∧ ∃ I ss, SR G [] I H (vs.map some) ss ∧ match m ss with
  | .ok (s, ss') => ∀ I' H' v, SR G [] I' H' (vs.map some) ss' → Stp I H (vs.map some) ss I' H' (vs.map some) ss' → RS G H I' H' s v → Q v H'
  | .exc c => ∀ I' H', Xs (vs.map some) ss I H I' H' → E (.ref (G.cls c)) none H'
  | .stuck => False

section
variable {G : Gm} {I H : Hp} {ss : List Slot} {vs : List V} {N : List Str}
theorem p0_get (k : Nat) (i : Nat) (s : Slot) (h : (ss.map toP ++ List.replicate k .dead)[i]? = some s) : (∃ t, ss[i]? = some t ∧ s = toP t) ∨ s = .dead := by
  rcases Nat.lt_or_ge i (ss.map toP).length with hi | hi
  · rw [List.getElem?_append_left hi, List.getElem?_map] at h
    cases e : ss[i]? with
    | none => rw [e] at h; cases h
    | some t => rw [e] at h; cases h; exact .inl ⟨t, rfl, rfl⟩
  · rw [List.getElem?_append_right hi] at h
    exact .inr (by have := List.mem_of_getElem? h; simpa using (List.mem_replicate.mp this).2)
theorem toP_val {t : Slot} {x : PV} (h : toP t = .val x) : t = .val x := by cases t <;> simp [toP] at h <;> simp [h]
theorem toP_prm {t : Slot} {x : PV} (h : toP t = .prm x) : t = .own x := by cases t <;> simp [toP] at h <;> simp [h]
theorem toP_own {t : Slot} {x : PV} (h : toP t = .own x) : False := by cases t <;> simp [toP] at h
theorem start_get {i : Nat} {x : Option V} (h : (vs.map some)[i]? = some x) : (L2.start N vs)[i]? = some x := by
  unfold L2.start
  rw [List.getElem?_append_left (List.getElem?_eq_some_iff.mp h).1]; exact h
theorem start_of {i : Nat} {y : Slot} (r : SR G [] I H (vs.map some) ss) (h : ss[i]? = some y) : (L2.start N vs)[i]? = (vs.map some)[i]? := by
  have hl : i < (vs.map some).length := by rw [r.len]; exact (List.getElem?_eq_some_iff.mp h).1
  rw [List.getElem?_eq_getElem hl]
  exact start_get (List.getElem?_eq_getElem hl)
theorem start_sr (r : SR G [] I H (vs.map some) ss) : SR G (L2.start N vs) I H (L2.start N vs) (ss.map toP ++ List.replicate (N.length - vs.length) .dead) where
  same := r.same
  len := by
    have := r.len
    simp only [L2.start, List.length_append, List.length_map, List.length_replicate] at *
    omega
  val := fun i x e => by
    rcases p0_get _ _ _ e with ⟨t, h1, h2⟩ | h
    · have := toP_val h2.symm; subst this
      obtain ⟨v, h3, h4⟩ := r.val i x h1
      exact ⟨v, start_get h3, h4⟩
    · cases h
  own := fun i x e => by
    have h1 : ss[i]? = some (.own x) := by
      rcases e with e | e <;> rcases p0_get _ _ _ e with ⟨t, h1, h2⟩ | h
      · exact (toP_own h2.symm).elim
      · cases h
      · have := toP_prm h2.symm; subst this; exact h1
      · cases h
    obtain ⟨a, o, h3, h4⟩ := r.own i x (.inl h1)
    exact ⟨a, o, start_get h3, h4⟩
  prm := fun _ _ _ => rfl
  sep := fun i j x y a ei ej h1 h2 => by
    have key : ∀ {i : Nat} {x : PV}, ((ss.map toP ++ List.replicate (N.length - vs.length) Slot.dead)[i]? = some (.own x) ∨ (ss.map toP ++ List.replicate (N.length - vs.length) Slot.dead)[i]? = some (.prm x)) → ss[i]? = some (.own x) := by
      intro i x e
      rcases e with e | e <;> rcases p0_get _ _ _ e with ⟨t, h1, h2⟩ | h
      · exact (toP_own h2.symm).elim
      · cases h
      · have := toP_prm h2.symm; subst this; exact h1
      · cases h
    have k1 := key ei
    have k2 := key ej
    rw [start_of r k1] at h1
    rw [start_of r k2] at h2
    exact r.sep i j x y a (.inl k1) (.inl k2) h1 h2
  tab := r.tab
theorem no_own {k : Nat} {σ : St} {a : Addr} : ¬ Ow σ (ss.map toP ++ List.replicate k .dead) a := fun ⟨i, x, e, _⟩ => by
  rcases p0_get _ _ _ e with ⟨t, _, h2⟩ | h
  · exact toP_own h2.symm
  · cases h
theorem pm_ow (r : SR G [] I H (vs.map some) ss) {k : Nat} {a : Addr} (h : Pm (L2.start N vs) (ss.map toP ++ List.replicate k .dead) a) : Ow (vs.map some) ss a := by
  obtain ⟨i, x, e, q⟩ := h
  rcases p0_get _ _ _ e with ⟨t, h1, h2⟩ | h
  · have := toP_prm h2.symm; subst this
    rw [start_of r h1] at q
    exact ⟨i, x, h1, q⟩
  · cases h
theorem ow_pm (r : SR G [] I H (vs.map some) ss) {k : Nat} {a : Addr} (h : Ow (vs.map some) ss a) : Pm (L2.start N vs) (ss.map toP ++ List.replicate k .dead) a := by
  obtain ⟨i, x, e, q⟩ := h
  refine ⟨i, x, ?_, start_get q⟩
  have hl : i < (ss.map toP).length := by rw [List.length_map]; exact (List.getElem?_eq_some_iff.mp e).1
  rw [List.getElem?_append_left hl, List.getElem?_map, e]; rfl
theorem back_own {ρ : En} {i : Nat} {y : PV} (h : (back ss ρ)[i]? = some (.own y)) : ∃ x, ss[i]? = some (.own x) ∧ ρ[i]? = some (.prm y) := by
  rw [back_get] at h
  cases e : ss[i]? with
  | none => rw [e] at h; cases h
  | some t =>
    rw [e] at h
    have h : back1 t (ρ[i]?.getD .dead) = .own y := by simpa using h
    cases e2 : ρ[i]? with
    | none => rw [e2] at h; cases t <;> simp [back1] at h
    | some s =>
      rw [e2] at h
      cases t <;> cases s <;> simp [back1] at h
      subst h
      exact ⟨_, rfl, rfl⟩
theorem back_val {ρ : En} {i : Nat} {y : PV} (h : (back ss ρ)[i]? = some (.val y)) : ss[i]? = some (.val y) := by
  rw [back_get] at h
  cases e : ss[i]? with
  | none => rw [e] at h; cases h
  | some t =>
    rw [e] at h
    have h : back1 t (ρ[i]?.getD .dead) = .val y := by simpa using h
    cases e2 : ρ[i]? with
    | none => rw [e2] at h; cases t <;> simp [back1] at h <;> simp [h]
    | some s => rw [e2] at h; cases t <;> cases s <;> simp [back1] at h <;> simp [h]
theorem back_prm {ρ : En} {i : Nat} {y : PV} (h : (back ss ρ)[i]? = some (.prm y)) : False := by
  rw [back_get] at h
  cases e : ss[i]? with
  | none => rw [e] at h; cases h
  | some t =>
    rw [e] at h
    have h : back1 t (ρ[i]?.getD .dead) = .prm y := by simpa using h
    cases e2 : ρ[i]? with
    | none => rw [e2] at h; cases t <;> simp [back1] at h
    | some s => rw [e2] at h; cases t <;> cases s <;> simp [back1] at h
theorem back_sr {I' H' : Hp} {σ' : St} {ρ' : En} {k : Nat} (r : SR G [] I H (vs.map some) ss) (r' : SR G (L2.start N vs) I' H' σ' ρ') (st : Stp I H (L2.start N vs) (ss.map toP ++ List.replicate k .dead) I' H' σ' ρ') :
    SR G [] I' H' (vs.map some) (back ss ρ') ∧ Stp I H (vs.map some) ss I' H' (vs.map some) (back ss ρ') := by
  have at_ : ∀ {i : Nat} {y : PV}, (back ss ρ')[i]? = some (.own y) → ρ'[i]? = some (.prm y) ∧ σ'[i]? = (vs.map some)[i]? := fun {i y} h => by
    obtain ⟨x, h1, h2⟩ := back_own h
    exact ⟨h2, (r'.prm i y h2).trans (start_of r h1)⟩
  refine ⟨⟨r'.same, by rw [back_length]; exact r.len, fun i x e => ?_, fun i x e => ?_, fun i x e => (back_prm e).elim, fun i j x y a ei ej h1 h2 => ?_, r'.tab⟩, st.le, st.dom, fun a h => ?_, fun a ⟨i, x, e, _⟩ => (back_prm e).elim, fun a o t e n h1 _ => st.keep a o t e n no_own fun z => h1 (pm_ow r z), st.tab⟩
  · obtain ⟨v, h1, h2⟩ := r.val i x (back_val e)
    exact ⟨v, h1, h2.up st.le⟩
  · rcases e with e | e
    · obtain ⟨h1, h2⟩ := at_ e
      obtain ⟨a, o, h3, h4⟩ := r'.own i x (.inr h1)
      exact ⟨a, o, by rw [← h2]; exact h3, h4⟩
    · exact (back_prm e).elim
  · rcases ei with ei | ei
    · rcases ej with ej | ej
      · obtain ⟨p1, q1⟩ := at_ ei
        obtain ⟨p2, q2⟩ := at_ ej
        exact r'.sep i j x y a (.inr p1) (.inr p2) (by rw [q1]; exact h1) (by rw [q2]; exact h2)
      · exact (back_prm ej).elim
    · exact (back_prm ei).elim
  · obtain ⟨i, x, e, q⟩ := h
    obtain ⟨h1, h2⟩ := at_ e
    exact .inl (pm_ow r (st.prm a ⟨i, x, h1, by rw [h2]; exact q⟩))
end
/-- what a def's promise asks of its body -/
theorem spF_st {G : Gm} {N ps : List Str} {n : Nat} {S : SX} {vs : List V} {H : Hp} {Q : VK} {E : XK} (hn : N.length - ps.length = n) (h : spF G ps.length (fnM n S) vs H Q E) :
    tSt G (L2.start N vs) (fun c d _ H => E c d H) S { nx := fun _ H' => Q .non H', rt := Q } (L2.start N vs) H := by
  obtain ⟨hl, I, ss, r, k⟩ := h
  have r0 := start_sr (N := N) r
  refine ⟨I, _, r0, ?_⟩
  unfold fnM at k
  have en : N.length - vs.length = n := by rw [hl]; exact hn
  rw [en]
  rw [en] at r0
  cases e : S (ss.map toP ++ List.replicate n .dead) with
  | stuck => rw [e] at k; exact k
  | exc c => rw [e] at k; exact fun I' H' σ' x => k I' H' ⟨x.le, x.same, x.dom, fun a o t e n h1 _ => x.keep a o t e n no_own fun z => h1 (pm_ow r z), x.tab⟩
  | ok o =>
    rw [e] at k
    cases o with
    | nx ρ' =>
      intro I' H' σ' r' st
      obtain ⟨b1, b2⟩ := back_sr r r' st
      exact k I' H' .non b1 b2 .non
    | rt s' ρ' =>
      intro I' H' σ' v r' st q
      obtain ⟨b1, b2⟩ := back_sr r r' st
      refine k I' H' v b1 b2 ?_
      cases s' with
      | val _ => exact q
      | dead => exact q
      | prm _ => exact q
      | own y =>
        obtain ⟨a, o, e1, h0, n1, q1, w1, _⟩ := q
        rcases h0 with h0 | h0
        · exact ⟨a, o, e1, h0, n1, q1, w1⟩
        · exact (no_own h0).elim
    | bk ρ' => exact k.elim
    | ct ρ' => exact k.elim

/-- THE RULE for a def -/
theorem dfn {P : Program} {w : World} {K : PySem.W.Frag} {mg : Str → Option Value} {base : Heap} {x qual : Str} {params : Arguments} {body : List Stmt} {scope : Scope} {dvs : List V} {kws : List (Str × V)} {f : Addr} {fd : FuncData}
    {N ps : List Str} {k n : Nat} {G : Gm} {S : SX} (F : FunD K x qual params body scope dvs kws f fd) (Sc : FnScope N ps scope) (hn : N.length - ps.length = n)
    (hb : ∀ (cdv : Value) (A : Around) (outer : List Env) (s : Shared) (H : Hp) (vs : List V) (E : XK), Room k (A.deeper (envOfC qual scope s.heap.objs.size f cdv)) →
      DSs (cxOf (L2.CX P w) P w K mg base N qual scope f cdv A outer s H E) ⟨G, start N vs, fun c d _ H => E c d H⟩ body S) : FnOk P w K mg base (L2.CX P w) (k + 1) f fd ps (spF G ps.length (fnM n S)) := by
  exact F.ok Sc (fun vs H Q E h => h.1) fun cdv A outer s H vs Q E hr h => ⟨_, hb cdv A outer s H vs E hr, spF_st hn h⟩
section
variable {X : Cx} {C : Dc} {T : List Nat} {pos : Pos}
/-- all arguments frozen -/
def eCall (n : Nat) (m : FM) (A : AX) : PX := fun ρ => A ρ >>= fun p => if p.1.length = n then m (p.1.map .val) >>= fun q => .ok (q.1, p.2) else .stuck
theorem vals_sr {G : Gm} {I H : Hp} {xs : List PV} {vs : List V} (h : Same I H) (l : RpL G I xs vs) (tb : TabI G.tabs I H) : SR G [] I H (vs.map some) (xs.map .val) where
  same := h
  tab := tb
  len := by simp [l.length]
  val := fun i x e => by
    rw [List.getElem?_map] at e
    cases q : xs[i]? with
    | none => rw [q] at e; cases e
    | some y =>
      rw [q] at e; cases e
      obtain ⟨v, h1, h2⟩ := l.get q
      exact ⟨v, by rw [List.getElem?_map, h1]; rfl, h2⟩
  own := fun i x e => by
    rcases e with e | e <;> rw [List.getElem?_map] at e <;> cases q : xs[i]? <;> rw [q] at e <;> cases e
  prm := fun i x e => by
    rw [List.getElem?_map] at e; cases q : xs[i]? <;> rw [q] at e <;> cases e
  sep := fun i j x y a e => by
    rcases e with e | e <;> rw [List.getElem?_map] at e <;> cases q : xs[i]? <;> rw [q] at e <;> cases e
theorem vals_no {xs : List PV} {vs : List V} {a : Addr} : ¬ Ow (vs.map some) (xs.map .val) a ∧ ¬ Pm (vs.map some) (xs.map .val) a := by
  refine ⟨fun ⟨i, x, e, _⟩ => ?_, fun ⟨i, x, e, _⟩ => ?_⟩ <;> rw [List.getElem?_map] at e <;> cases q : xs[i]? <;> rw [q] at e <;> cases e
/-- the promise met at a call whose arguments are frozen -/
theorem sp_of {G : Gm} {σ0 : St} {W : WX} {σ : St} {I H I1 H1 : Hp} {ρ ρ1 : En} {Q : VK} {m : FM} {n : Nat} {xs : List PV} {vs : List V} (r : SR G σ0 I H σ ρ) (x1 : XE G σ0 T σ I H ρ I1 H1 ρ1) (l : RpL G I1 xs vs) (hl : vs.length = n)
    (k : tK G σ0 W T σ I H ρ Q (m (xs.map .val) >>= fun q => .ok (q.1, ρ1))) : spF G n m vs H1 Q (fun c d H' => W c d σ H') := by
  refine ⟨hl, I1, xs.map .val, vals_sr x1.same l x1.sr.tab, ?_⟩
  cases e : m (xs.map .val) with
  | stuck => rw [e] at k; exact k
  | exc c =>
    rw [e] at k
    intro I' H' x
    exact k I' H' (x1.xx (XX.ofExt x1.same ⟨x.le, x.same, fun a o t e n => x.keep a o t e n vals_no.1 vals_no.2, x.dom, x.tab⟩))
  | ok q =>
    obtain ⟨s, ss'⟩ := q
    rw [e] at k
    intro I' H' v r' st w
    exact k I' H' v (x1.ext (st.toExt r'.same (fun _ => vals_no.1) fun _ => vals_no.2)) (w.of1 x1)
/-- f as it stands: its promise, its name, how arguments bind (dvs: the defaults that fill up) -/
structure DFn (X : Cx) (C : Dc) (k n : Nat) (x : Str) (dvs : List V) (m : FM) : Prop where
  ex : ∃ (f : Addr) (fd : FuncData) (ps : List Str) (ds : List Value), FnOk X.prog X.w X.K X.mg X.base (L2.CX X.prog X.w) k f fd ps (spF C.G n m) ∧ X.mg x = some (.ref f) ∧ PySem.W.keepIn X.K (.ref f) = true ∧ Binds X.K fd ps ds ∧ Vals dvs ds
theorem de_call {x : Str} {p : Pos} {e : Expr} {es : List Expr} {k n n0 : Nat} {m : FM} {A : AX} {dvs : List V} {dxs : List PV}
    (F : DFn X C k n x dvs m) (hr : Room k X.A) (tk : Takes X C.W) (hdx : ∀ I, RpL C.G I dxs dvs) (hlen : n0 + dxs.length = n) (ha : DA X C T (e :: es) A) (hg : Gl X x := by rfl)
    (hdb : (x == ("__debug__" : Str)) = false := by decide) (he : starEach (e :: es) X.env = (false, eval e X.env) :: starEach es X.env := by rfl) (hpl : (backTo pos (starEach es X.env)).any (·.1) = false := by rfl) :
    DE X C T (.Call (.Name x p) (e :: es) [] pos) (eCall n0 (fun ss => m (ss ++ dxs.map .val)) A) := by
  obtain ⟨f, fd, ps, ds, F, hm, hk, hb, hd⟩ := F.ex
  refine PE.imp (pe_callSD (E := fun σ c d H => C.W c d σ H) F hr hg hm hk hb hd (fun σ => passAt tk σ) ha hdb he hpl) fun σ H Q ⟨I, ρ, sr, k⟩ => ?_
  refine tK.nextA (.refl sr) k fun xs ρ1 I1 H1 vs x1 _ l k1 => ?_
  dsimp only at k1
  split at k1
  · rename_i hl
    rw [← List.map_append] at k1
    refine sp_of sr x1 (l.append (hdx I1)) ?_ k1
    have h1 := l.length
    have h2 := (hdx I1).length
    rw [List.length_append]; omega
  · exact k1.elim
theorem pa_len {t : TA} {es : List Expr} : True := trivial
theorem pe_call0W {Q : WX} {f : Addr} {fd : FuncData} {ps : List Str} {sp : Sp} {k : Nat} {dvs : List V} {ds : List Value} {x : Str} {p : Pos} (F : FnOk X.prog X.w X.K X.mg X.base (L2.CX X.prog X.w) k f fd ps sp) (hr : Room k X.A) (hg : Gl X x)
    (hm : X.mg x = some (.ref f)) (hk : PySem.W.keepIn X.K (.ref f) = true) (hb : Binds X.K fd ps ds) (hd : Vals dvs ds) (tk : Takes X Q) (hdb : (x == ("__debug__" : Str)) = false) : PE X (.Call (.Name x p) [] [] pos) (tCallSD sp dvs (WE Q) tNil) :=
  ⟨fun pins s σ H R I h => wpAny_Call_Name_kw (ld_glob I hg hm (PySem.W.callWith_K0 I.kIn hk (run_fnSD (us := []) F hr hb hd (passAt tk σ) I .nil h)) hdb)⟩
theorem de_call0 {x : Str} {p : Pos} {k : Nat} {m : FM} (F : DFn X C k 0 x [] m) (hr : Room k X.A) (tk : Takes X C.W) (hg : Gl X x := by rfl) (hdb : (x == ("__debug__" : Str)) = false := by decide) :
    DE X C T (.Call (.Name x p) [] [] pos) (eCall 0 m aNil) := by
  obtain ⟨f, fd, ps, ds, F, hm, hk, hb, hd⟩ := F.ex
  refine PE.imp (pe_call0W F hr hg hm hk hb hd tk hdb) fun σ H Q ⟨I, ρ, sr, k⟩ => ?_
  exact sp_of sr (.refl sr) .nil rfl k
/-- o.m(..), o an instance of the class named c; the method's first argument is o -/
structure DMt (X : Cx) (C : Dc) (k n : Nat) (c x : Str) (dvs : List V) (m : FM) : Prop where
  ex : ∃ (f : Addr) (fd : FuncData) (ps : List Str) (ds : List Value), FnOk X.prog X.w X.K X.mg X.base (L2.CX X.prog X.w) k f fd ps (spF C.G n m) ∧ Cls X.K (C.G.cls c) ∧ Meth X.K (C.G.cls c) x f ∧ Binds X.K fd ps ds ∧ Vals dvs ds
def eMeth (c x : Str) (n : Nat) (m : FM) (E : PX) (A : AX) : PX := fun ρ => E ρ >>= fun o => match o.1.pv with
  | .ins c' fs => if c' = c ∧ fs.lookup x = none then A o.2 >>= fun p => (if p.1.length = n then m ((.ins c' fs :: p.1).map .val) >>= fun q => .ok (q.1, p.2) else .stuck) else .stuck
  | _ => .stuck
theorem rpF_none {G : Gm} {I : Hp} {x : Str} : ∀ {fs : List (Str × PV)} {ws : List (Str × V)}, RpF G I fs ws → fs.lookup x = none → ws.lookup x = none
  | _, _, .nil, _ => rfl
  | _, _, @RpF.cons _ _ k a v xs vs _ l, h => by
    rw [List.lookup_cons] at h ⊢
    cases e : x == k with
    | true => rw [e] at h; cases h
    | false => rw [e] at h; exact rpF_none l h
theorem rpF_some {G : Gm} {I : Hp} {x : Str} {y : PV} : ∀ {fs : List (Str × PV)} {ws : List (Str × V)}, RpF G I fs ws → fs.lookup x = some y → ∃ v, ws.lookup x = some v ∧ Rp G I y v
  | _, _, .nil, h => by cases h
  | _, _, @RpF.cons _ _ k a v xs vs r l, h => by
    rw [List.lookup_cons] at h ⊢
    cases e : x == k with
    | true => rw [e] at h; cases h; exact ⟨v, rfl, r⟩
    | false => rw [e] at h; exact rpF_some l h
theorem PE_mono_tX {G : Gm} {σ0 : St} {W : WX} {E : PX} {σ : St} {H : Hp} {Q Q' : VK} (h : tX G σ0 W T E σ H Q) (k : ∀ v H1, Q v H1 → Q' v H1) : tX G σ0 W T E σ H Q' := by
  obtain ⟨I, ρ, r, q⟩ := h
  refine ⟨I, ρ, r, ?_⟩
  cases e : E ρ with
  | ok p => obtain ⟨s, ρ'⟩ := p; rw [e] at q; exact fun I' H' v x w => k v H' (q I' H' v x w)
  | exc c => rw [e] at q; exact q
  | stuck => rw [e] at q; exact q
/-- a method's call by what it asks of the receiver and of the arguments -/
def tMethW (Cl : Addr) (x : Str) (sp : Sp) (E : St → XK) (to : TE) (t : TA) : TE := fun σ H Q => to σ H fun v H1 => ∃ a dx ws, v = .ref a ∧ H1 a = some (.ins Cl dx ws) ∧ ws.lookup x = none ∧ t σ H1 fun vs H2 => sp (v :: vs) H2 Q (E σ)
theorem pe_methW {Q : WX} {f Cl : Addr} {fd : FuncData} {ps : List Str} {sp : Sp} {k : Nat} {x : Str} {apos : Pos} {o e : Expr} {es : List Expr} {to : TE} {t : TA} {pl : Sem Bool}
    (F : FnOk X.prog X.w X.K X.mg X.base (L2.CX X.prog X.w) k f fd ps sp) (hr : Room k X.A) (cl : Cls X.K Cl) (mt : Meth X.K Cl x f) (hb : Binds X.K fd ps []) (tk : Takes X Q) (ho : PE X o to) (ha : PA X (e :: es) t)
    (h1 : starEach (e :: es) X.env = (false, eval e X.env) :: starEach es X.env) (h2 : (backTo pos (starEach es X.env)).any (·.1) = false)
    (h3 : eval (.Call (.Attribute o x apos) (e :: es) [] pos) X.env = (do
      let u ← eval o X.env
      standAt apos.atName
      let (g, first) ← holding [u] (getMethod u x pl)
      callWith pos g first (backTo pos (starEach (e :: es) X.env)) (backToKw pos (keywordEach [] X.env)))) :
    PE X (.Call (.Attribute o x apos) (e :: es) [] pos) (tMethW Cl x sp (WE Q) to t) := by
  refine ⟨fun pins s σ H R I h => PySem.W.methodCall_KW (pl := pl) (thn (ho.run pins s σ H _ I h) fun u s1 ⟨v, H1, I1, rv, a, dx, ws, ev, ea, l, q⟩ => ?_) h3⟩
  subst ev
  cases (show u = Value.ref a from rv)
  refine getmeth_ok I1 ea cl mt l (PySem.W.callWith_K (first := [.ref a]) (h₀ := X.base) I.ok.mod.kin mt.kp (thn (ha.run pos pins s1 σ H1 _ I1 q) fun us s2 ⟨vs, H2, I2, r, q2⟩ => ⟨I2.kIn, ?_⟩) h1 h2)
  exact run_fnSD (us := .ref a :: us) (vs := .ref a :: vs) (dvs := []) F hr hb .nil (passAt tk σ) I2 (.cons rfl r) (by rw [List.append_nil]; exact q2)
theorem pe_methW0 {Q : WX} {f Cl : Addr} {fd : FuncData} {ps : List Str} {sp : Sp} {k : Nat} {x : Str} {apos : Pos} {o : Expr} {to : TE} {pl : Sem Bool}
    (F : FnOk X.prog X.w X.K X.mg X.base (L2.CX X.prog X.w) k f fd ps sp) (hr : Room k X.A) (cl : Cls X.K Cl) (mt : Meth X.K Cl x f) (hb : Binds X.K fd ps []) (tk : Takes X Q) (ho : PE X o to)
    (h3 : eval (.Call (.Attribute o x apos) [] [] pos) X.env = (do
      let u ← eval o X.env
      standAt apos.atName
      let (g, first) ← holding [u] (getMethod u x pl)
      callWith pos g first (backTo pos (starEach [] X.env)) (backToKw pos (keywordEach [] X.env)))) :
    PE X (.Call (.Attribute o x apos) [] [] pos) (tMethW Cl x sp (WE Q) to tNil) := by
  refine ⟨fun pins s σ H R I h => PySem.W.methodCall_KW (pl := pl) (thn (ho.run pins s σ H _ I h) fun u s1 ⟨v, H1, I1, rv, a, dx, ws, ev, ea, l, q⟩ => ?_) h3⟩
  subst ev
  cases (show u = Value.ref a from rv)
  refine getmeth_ok I1 ea cl mt l (PySem.W.callWith_K0 (first := [.ref a]) I1.kIn mt.kp ?_)
  exact run_fnSD (us := [.ref a]) (vs := [.ref a]) (dvs := []) F hr hb .nil (passAt tk σ) I1 (.cons rfl .nil) q
theorem tMeth_of {c x : Str} {n n0 : Nat} {m : FM} {E : PX} {A : AX} (hlen : n0 + 1 = n) (σ : St) (H : Hp) (Q : VK) (h : tX C.G C.σ0 C.W T (eMeth c x n0 m E A) σ H Q) :
    tMethW (C.G.cls c) x (spF C.G n m) (WE C.W) (tX C.G C.σ0 C.W T E) (tAs C.G C.σ0 C.W T A) σ H Q := by
  obtain ⟨I, ρ, sr, k⟩ := h
  refine tK.next sr (.refl sr) k (fun s ρ1 I1 H1 v x1 _ _ p1 k1 => ?_) fun _ _ => rfl
  simp only [pv_val] at k1
  cases e : s.pv with
  | ins c' fs =>
    rw [e] at k1 p1
    dsimp only at k1
    split at k1
    · rename_i hc
      obtain ⟨rfl, hf⟩ := hc
      cases p1 with
      | @ins _ a dx ws _ ea lf =>
        refine ⟨a, dx, ws, rfl, x1.same _ _ ea, rpF_none lf hf, ?_⟩
        refine tK.nextA x1 k1 fun xs ρ2 I2 H2 vs x2 le l k2 => ?_
        dsimp only at k2
        split at k2
        · rename_i hl
          refine sp_of sr x2 (.cons (.ins (le _ _ ea) (lf.up le)) l) ?_ k2
          have h1 := l.length
          simp only [List.length_cons]; omega
        · exact k2.elim
    · exact k1.elim
  | _ => rw [e] at k1; exact k1.elim
theorem de_meth {c x : Str} {apos : Pos} {o e : Expr} {es : List Expr} {k n n0 : Nat} {m : FM} {E : PX} {A : AX} {pl : Sem Bool}
    (F : DMt X C k n c x [] m) (hr : Room k X.A) (tk : Takes X C.W) (hlen : n0 + 1 = n) (ho : DE X C T o E) (ha : DA X C T (e :: es) A)
    (h1 : starEach (e :: es) X.env = (false, eval e X.env) :: starEach es X.env := by rfl) (h2 : (backTo pos (starEach es X.env)).any (·.1) = false := by rfl)
    (h3 : eval (.Call (.Attribute o x apos) (e :: es) [] pos) X.env = (do
      let u ← eval o X.env
      standAt apos.atName
      let (g, first) ← holding [u] (getMethod u x pl)
      callWith pos g first (backTo pos (starEach (e :: es) X.env)) (backToKw pos (keywordEach [] X.env))) := by rfl) :
    DE X C T (.Call (.Attribute o x apos) (e :: es) [] pos) (eMeth c x n0 m E A) := by
  obtain ⟨f, fd, ps, ds, F, cl, mt, hb, hd⟩ := F.ex
  cases hd
  exact PE.imp (pe_methW F hr cl mt hb tk ho ha h1 h2 h3) (tMeth_of hlen)
theorem de_meth0 {c x : Str} {apos : Pos} {o : Expr} {k : Nat} {m : FM} {E : PX} {pl : Sem Bool} (F : DMt X C k 1 c x [] m) (hr : Room k X.A) (tk : Takes X C.W) (ho : DE X C T o E)
    (h3 : eval (.Call (.Attribute o x apos) [] [] pos) X.env = (do
      let u ← eval o X.env
      standAt apos.atName
      let (g, first) ← holding [u] (getMethod u x pl)
      callWith pos g first (backTo pos (starEach [] X.env)) (backToKw pos (keywordEach [] X.env))) := by rfl) :
    DE X C T (.Call (.Attribute o x apos) [] [] pos) (eMeth c x 0 m E aNil) := by
  obtain ⟨f, fd, ps, ds, F, cl, mt, hb, hd⟩ := F.ex
  cases hd
  refine PE.imp (pe_methW0 F hr cl mt hb tk ho h3) fun σ H Q h => ?_
  have h' := tMeth_of (T := T) (n := 1) rfl σ H Q h
  obtain ⟨I, ρ, sr, k⟩ := h
  refine PE_mono_tX h' fun v H1 ⟨a, dx, ws, e1, e2, e3, I1, ρ1, r1, q⟩ => ⟨a, dx, ws, e1, e2, e3, q I1 H1 [] (.refl r1) .nil⟩
end
end BF

set_option maxRecDepth 100000
set_option maxHeartbeats 4000000
namespace BF
open PySem PySem.Spec L2
open PyProof.Rows hiding St
set_option autoImplicit false

def reOwn : Slot → PV → Slot
  | .own _, y => .own y
  | .prm _, y => .prm y
  | s, _ => s
def putS (i : Nat) (y : PV) (ρ : En) : En := match ρ[i]? with
  | some s => ρ.set i (reOwn s y)
  | none => ρ
def ownAt (i : Nat) (ρ : En) : Res PV := match ρ[i]? with
  | some (.own x) => .ok x
  | some (.prm x) => .ok x
  | _ => .stuck
theorem ownAt_ok {i : Nat} {ρ : En} {x : PV} (h : ownAt i ρ = .ok x) : ρ[i]? = some (.own x) ∨ ρ[i]? = some (.prm x) := by
  unfold ownAt at h
  split at h <;> first | (cases h; first | exact .inl (by assumption) | exact .inr (by assumption)) | cases h
section
variable {G : Gm} {σ0 : St} {T : List Nat} {σ : St} {I H I1 H1 : Hp} {ρ : En}
theorem putS_get {i j : Nat} {x y : PV} {s : Slot} (hi : ρ[i]? = some (.own x) ∨ ρ[i]? = some (.prm x)) (h : (putS i y ρ)[j]? = some s) : (j = i ∧ ((ρ[i]? = some (.own x) ∧ s = .own y) ∨ (ρ[i]? = some (.prm x) ∧ s = .prm y))) ∨ (j ≠ i ∧ ρ[j]? = some s) := by
  unfold putS at h
  rcases hi with hi | hi <;> rw [hi] at h <;> dsimp only [reOwn] at h <;> rcases get_set h with ⟨e, z, _⟩ | ⟨n, e⟩
  · exact .inl ⟨e, .inl ⟨hi, z⟩⟩
  · exact .inr ⟨n, e⟩
  · exact .inl ⟨e, .inr ⟨hi, z⟩⟩
  · exact .inr ⟨n, e⟩
theorem putS_len {i : Nat} {y : PV} : (putS i y ρ).length = ρ.length := by
  unfold putS; split <;> simp
/-- the tables stay good where a slot's object is changed -/
theorem SR.put_tab {i : Nat} {x : PV} {a : Addr} {o' : HO} (r : SR G σ0 I H σ ρ) (hi : ρ[i]? = some (.own x) ∨ ρ[i]? = some (.prm x)) (ha : σ[i]? = some (some (.ref a))) : TabsE I H I (upd H a o') := by
  obtain ⟨a', o, h1, h2, h3, h4⟩ := r.own i x hi
  have e : a' = a := by rw [ha] at h1; cases h1; rfl
  subst e
  exact h4.pl.put h3
/-- the object of slot i is changed: what it holds now is y -/
theorem SR.put {i : Nat} {x y : PV} {a : Addr} {o' : HO} (r : SR G σ0 I H σ ρ) (hi : ρ[i]? = some (.own x) ∨ ρ[i]? = some (.prm x)) (ha : σ[i]? = some (some (.ref a))) (w : OwnO G I y o') : SR G σ0 I (upd H a o') σ (putS i y ρ) := by
  obtain ⟨a', o, h1, h2, h3, h4⟩ := r.own i x hi
  have e : a' = a := by rw [ha] at h1; cases h1; rfl
  subst e
  have key : ∀ {j : Nat} {z : PV}, ((putS i y ρ)[j]? = some (.own z) ∨ (putS i y ρ)[j]? = some (.prm z)) → (j = i ∧ z = y) ∨ (j ≠ i ∧ (ρ[j]? = some (.own z) ∨ ρ[j]? = some (.prm z))) := by
    intro j z e
    rcases e with e | e <;> rcases putS_get hi e with ⟨q, z⟩ | ⟨q, z⟩
    · rcases z with ⟨_, z⟩ | ⟨_, z⟩ <;> cases z; exact .inl ⟨q, rfl⟩
    · exact .inr ⟨q, .inl z⟩
    · rcases z with ⟨_, z⟩ | ⟨_, z⟩ <;> cases z; exact .inl ⟨q, rfl⟩
    · exact .inr ⟨q, .inr z⟩
  refine ⟨same_upd_r r.same h2, by rw [putS_len]; exact r.len, fun j z e => ?_, fun j z e => ?_, fun j z e => ?_, fun j k z z' b ej ek q1 q2 => ?_, (r.put_tab hi ha).tabs r.tab⟩
  · rcases putS_get hi e with ⟨q, w⟩ | ⟨q, w⟩
    · rcases w with ⟨_, w⟩ | ⟨_, w⟩ <;> cases w
    · exact r.val j z w
  · rcases key e with ⟨rfl, rfl⟩ | ⟨n, e⟩
    · exact ⟨a', o', ha, h2, upd_same, w⟩
    · obtain ⟨b, u, q1, q2, q3, q4⟩ := r.own j z e
      refine ⟨b, u, q1, q2, ?_, q4⟩
      rw [upd_ne fun z' => n (r.sep j i z x a' e hi (by rw [q1, z']) ha)]; exact q3
  · rcases putS_get hi e with ⟨q, w⟩ | ⟨q, w⟩
    · rcases w with ⟨_, w⟩ | ⟨w, _⟩
      · cases w
      · rw [q]; exact r.prm i x w
    · exact r.prm j z w
  · have hj : ∃ z, ρ[j]? = some (.own z) ∨ ρ[j]? = some (.prm z) := by
      rcases key ej with ⟨rfl, _⟩ | ⟨_, e⟩
      · exact ⟨x, hi⟩
      · exact ⟨z, e⟩
    have hk : ∃ z, ρ[k]? = some (.own z) ∨ ρ[k]? = some (.prm z) := by
      rcases key ek with ⟨rfl, _⟩ | ⟨_, e⟩
      · exact ⟨x, hi⟩
      · exact ⟨z', e⟩
    obtain ⟨z1, e1⟩ := hj
    obtain ⟨z2, e2⟩ := hk
    exact r.sep j k z1 z2 b e1 e2 q1 q2
theorem XE.put {i : Nat} {x y : PV} {a : Addr} {o' : HO} (r : SR G σ0 I H σ ρ) (hT : i ∈ T) (hi : ρ[i]? = some (.own x) ∨ ρ[i]? = some (.prm x)) (ha : σ[i]? = some (some (.ref a))) (w : OwnO G I y o') : XE G σ0 T σ I H ρ I (upd H a o') (putS i y ρ) where
  le := Same.refl _
  sr := r.put hi ha w
  dom := fun b h => by
    unfold upd at h
    split at h
    · cases h
    · exact h
  keep := fun b u _ e n h => ⟨by rw [upd_ne fun z => h i hT x hi (by rw [ha, z])]; exact e, n⟩
  tab := r.put_tab hi ha
  eq := fun j hj => by
    have n : j ≠ i := fun z => hj (z ▸ hT)
    unfold putS
    split
    · rw [List.getElem?_set_ne (Ne.symm n)]
    · rfl
  own := fun j z e => by
    rcases putS_get hi e with ⟨q, w⟩ | ⟨q, w⟩
    · rcases w with ⟨w, _⟩ | ⟨_, w⟩
      · rw [q]; exact ⟨x, w⟩
      · cases w
    · exact ⟨z, w⟩
  prm := fun j z e => by
    rcases putS_get hi e with ⟨q, w⟩ | ⟨q, w⟩
    · rcases w with ⟨_, w⟩ | ⟨w, _⟩
      · cases w
      · rw [q]; exact ⟨x, w⟩
    · exact ⟨z, w⟩
/-- .. as a step of a statement -/
theorem Stp.put {i : Nat} {x y : PV} {a : Addr} {o' : HO} (r : SR G σ0 I H σ ρ) (hi : ρ[i]? = some (.own x) ∨ ρ[i]? = some (.prm x)) (ha : σ[i]? = some (some (.ref a))) (w : OwnO G I y o') : Stp I H σ ρ I (upd H a o') σ (putS i y ρ) :=
  (XE.put (T := [i]) r (by simp) hi ha w).stp
end

mutual
def noL : PV → Bool
  | .non | .bl _ | .int _ | .str _ | .ty _ | .cl _ => true
  | .tup xs => noLs xs
  | .lst _ | .dct _ | .ins _ _ | .scr _ => false
def noLs : List PV → Bool
  | [] => true
  | x :: xs => noL x && noLs xs
end
def flatR : Slot → Bool
  | .val x => noL x
  | .own (.lst xs) => noLs xs
  | _ => false
section
variable {G : Gm} {I I' : Hp}
mutual
theorem Rp.noL (h : ∀ b vs, Rd I b (.tup vs) → Rd I' b (.tup vs)) : ∀ {x : PV} {v : V}, Rp G I x v → noL x = true → Rp G I' x v
  | _, _, .non, _ => .non
  | _, _, .bl b, _ => .bl b
  | _, _, .int i, _ => .int i
  | _, _, .str x, _ => .str x
  | _, _, .ty n, _ => .ty n
  | _, _, .cl n, _ => .cl n
  | _, _, .tup r l, e => .tup (h _ _ r) (RpL.noL h l (by simpa [BF.noL] using e))
  | _, _, .lst r l, e => by simp [BF.noL] at e
  | _, _, .dct r l, e => by simp [BF.noL] at e
  | _, _, .ins r l, e => by simp [BF.noL] at e
  | _, _, .scr r, e => by simp [BF.noL] at e
theorem RpL.noL (h : ∀ b vs, Rd I b (.tup vs) → Rd I' b (.tup vs)) : ∀ {xs : List PV} {vs : List V}, RpL G I xs vs → noLs xs = true → RpL G I' xs vs
  | _, _, .nil, _ => .nil
  | _, _, .cons r l, e => by
    simp only [BF.noLs, Bool.and_eq_true] at e
    exact .cons (Rp.noL h r e.1) (RpL.noL h l e.2)
end
end
def eBor (i : Nat) (E : PX) : PX := fun ρ => ownAt i ρ >>= fun x => E (ρ.set i (.val x)) >>= fun p => if flatR p.1 = true then .ok (p.1, ρ) else .stuck
theorem ownO_notTup {G : Gm} {I : Hp} {x : PV} {o : HO} (h : OwnO G I x o) : (∀ vs, o ≠ .tup vs) ∧ ∀ ob u, o ≠ .frz ob u := by
  cases x with
  | lst xs => obtain ⟨vs, e, _⟩ := h; subst e; exact ⟨fun _ z => (by cases z), fun _ _ z => (by cases z)⟩
  | dct xs => obtain ⟨vs, e, _⟩ := h; subst e; exact ⟨fun _ z => (by cases z), fun _ _ z => (by cases z)⟩
  | ins c fs => obtain ⟨dx, vs, e, _⟩ := h; subst e; exact ⟨fun _ z => (by cases z), fun _ _ z => (by cases z)⟩
  | _ => exact h.elim
section
variable {X : Cx} {C : Dc} {T : List Nat} {pos : Pos}
theorem SR.lend {G : Gm} {σ0 : St} {σ : St} {I H : Hp} {ρ : En} {i : Nat} {x : PV} (r : SR G σ0 I H σ ρ) (hi : ρ[i]? = some (.own x) ∨ ρ[i]? = some (.prm x)) :
    ∃ a o, σ[i]? = some (some (.ref a)) ∧ I a = none ∧ H a = some o ∧ OwnO G I x o ∧ SR G σ0 (upd I a o) H σ (ρ.set i (.val x)) := by
  obtain ⟨a, o, h1, h2, h3, h4⟩ := r.own i x hi
  have hn : ∀ (j : Nat) (y : PV), (ρ.set i .dead)[j]? = some (.own y) ∨ (ρ.set i .dead)[j]? = some (.prm y) → σ[j]? ≠ some (some (.ref a)) := fun j y z q => by
    have z' : j ≠ i ∧ (ρ[j]? = some (.own y) ∨ ρ[j]? = some (.prm y)) := by
      rcases z with z | z <;> rcases get_set z with ⟨_, w, _⟩ | ⟨n, z⟩
      · cases w
      · exact ⟨n, .inl z⟩
      · cases w
      · exact ⟨n, .inr z⟩
    exact z'.1 (r.sep j i y x a z'.2 hi q h1)
  have r1 := ((r.kill i).frz h2 h3 hn h4.nt).setV i ((h4.up (same_upd h2)).rp upd_same)
  have hl : i < σ.length := (List.getElem?_eq_some_iff.mp h1).1
  have es : σ.set i (some (.ref a)) = σ := List.ext_getElem? fun j => by
    by_cases ej : i = j
    · subst ej; rw [List.getElem?_set_self hl, h1]
    · rw [List.getElem?_set_ne ej]
  rw [es, List.set_set] at r1
  exact ⟨a, o, h1, h2, h3, h4, r1⟩
def cutH (I : Hp) (a : Addr) : Hp := fun b => if b = a then none else I b
theorem TabsE.cut {I H : Hp} {a : Addr} : TabsE I H (cutH I a) H := fun P ⟨h1, h2⟩ => ⟨h1, by unfold cutH; split; rfl; exact h2⟩
theorem ext_cut {I H I2 H2 : Hp} {a : Addr} {o : HO} (hs : Same I H) (n : I a = none) (q : H a = some o) (nt : NT o) (x : Ext (upd I a o) H I2 H2) : Ext I H (cutH I2 a) H2 where
  le := fun b u e => by
    have hb : b ≠ a := fun z => by rw [z, n] at e; cases e
    unfold cutH; rw [if_neg hb]; exact x.le b u (by rw [upd_ne hb]; exact e)
  same := fun b u e => by
    unfold cutH at e
    split at e
    · cases e
    · exact x.same b u e
  dm := x.dm
  tab := (TabsE.frz q nt).trans (x.tab.trans .cut)
  keep := fun b u t e m => by
    by_cases hb : b = a
    · subst hb
      rw [q] at e; cases e
      exact ⟨x.base _ _ upd_same, by unfold cutH; rw [if_pos rfl]⟩
    · obtain ⟨h1, h2⟩ := x.keep b u t e (by rw [upd_ne hb]; exact m)
      exact ⟨h1, by unfold cutH; rw [if_neg hb]; exact h2⟩
theorem de_bor {i : Nat} {e : Expr} {E : PX} (h : DE X C [] e E) : DE X C T e (eBor i E) := by
  refine PE.imp h fun σ H Q ⟨I, ρ, r, k⟩ => ?_
  unfold eBor at k
  cases eo : ownAt i ρ with
  | stuck => rw [eo] at k; exact k.elim
  | exc c => exfalso; unfold ownAt at eo; split at eo <;> cases eo
  | ok x =>
    rw [eo] at k
    obtain ⟨a, o, h1, h2, h3, h4, r1⟩ := r.lend (ownAt_ok eo)
    have nt := ownO_notTup h4
    refine ⟨upd I a o, ρ.set i (.val x), r1, ?_⟩
    have k : tK C.G C.σ0 C.W T σ I H ρ Q (E (ρ.set i (.val x)) >>= fun p => if flatR p.1 = true then .ok (p.1, ρ) else .stuck) := k
    cases ee : E (ρ.set i (.val x)) with
    | stuck => rw [ee] at k; exact k
    | exc c =>
      rw [ee] at k
      intro I2 H2 xx
      exact k _ _ (XX.ofExt r.same (ext_cut r.same h2 h3 h4.nt xx.pure_ext))
    | ok p =>
      obtain ⟨s, ρ'⟩ := p
      rw [ee] at k
      have k : tK C.G C.σ0 C.W T σ I H ρ Q (if flatR s = true then .ok (s, ρ) else .stuck) := k
      intro I2 H2 v xx w
      cases fl : flatR s with
      | false => rw [fl, if_neg Bool.false_ne_true] at k; exact k.elim
      | true =>
        rw [fl, if_pos rfl] at k
        have xc := ext_cut r.same h2 h3 h4.nt xx.pure_ext
        have rd : ∀ b vs, Rd I2 b (.tup vs) → Rd (cutH I2 a) b (.tup vs) := fun b vs q => by
          have hb : b ≠ a := fun z => by
            subst z
            have e2 : I2 b = some o := xx.le b o upd_same
            rcases q with q | ⟨ob, q⟩
            · rw [e2] at q; cases q; exact nt.1 _ rfl
            · rw [e2] at q; cases q; exact nt.2 _ _ rfl
          rcases q with q | ⟨ob, q⟩
          · exact .inl (by unfold cutH; rw [if_neg hb]; exact q)
          · exact .inr ⟨ob, by unfold cutH; rw [if_neg hb]; exact q⟩
        refine k _ H2 v (XE.ofExt r xc) ?_
        cases s with
        | val y => exact Rp.noL rd w (by simpa [flatR] using fl)
        | own y =>
          cases y with
          | lst ys =>
            obtain ⟨b, u, e1, e2, e3, e4, vs, e5, e6⟩ := w
            exact ⟨b, u, e1, e2, by unfold cutH; split <;> first | rfl | exact e3, e4, vs, e5, RpL.noL rd e6 (by simpa [flatR] using fl)⟩
          | _ => simp [flatR] at fl
        | _ => simp [flatR] at fl

/-- what a changing method does with the object's data and the arguments -/
abbrev MF := PV → List PV → Res (PV × PV)
def MtD (G : Gm) (r : V → List V → Hp → VK → Prop) (f : MF) : Prop := ∀ (I H : Hp) (a : Addr) (o : HO) (x : PV) (xs : List PV) (vs : List V), Same I H → I a = none → H a = some o → OwnO G I x o → RpL G I xs vs →
  Sat (f x xs) fun p => ∀ Q : VK, (∀ o' v, OwnO G I p.1 o' → Rp G I p.2 v → Q v (upd H a o')) → r (.ref a) vs H Q
def isLst : PV → Bool
  | .lst _ => true
  | _ => false
def isDct : PV → Bool
  | .dct _ => true
  | _ => false
def eMut (i : Nat) (kd : PV → Bool) (f : MF) (A : AX) : PX := fun ρ => ownAt i ρ >>= fun x0 => if kd x0 = true then (A ρ >>= fun p => ownAt i p.2 >>= fun x => f x p.1 >>= fun q => .ok (.val q.2, putS i q.1 p.2)) else .stuck
theorem ownAt_exc {i : Nat} {ρ : En} {c : Str} (h : ownAt i ρ = .exc c) : False := by unfold ownAt at h; split at h <;> cases h
theorem tMut_of {i : Nat} {kd : PV → Bool} {f : MF} {A : AX} {r : V → List V → Hp → VK → Prop} {K : PySem.W.Frag} {Ty : String} (hT : i ∈ T) (o : MtD C.G r f)
    (hty : ∀ (I H : Hp) (a : Addr) (ob : HO) (x : PV), Same I H → H a = some ob → OwnO C.G I x ob → kd x = true → tyV K Ty (.ref a) H)
    (σ : St) (H : Hp) (Q : VK) (h : tX C.G C.σ0 C.W T (eMut i kd f A) σ H Q) : tBM K Ty r (tVar i) (tAs C.G C.σ0 C.W T A) σ H Q := by
  obtain ⟨I, ρ, sr, k⟩ := h
  unfold eMut at k
  cases eo : ownAt i ρ with
  | stuck => rw [eo] at k; exact k.elim
  | exc c => exact (ownAt_exc eo).elim
  | ok x0 =>
    rw [eo] at k
    obtain ⟨a, ob, h1, h2, h3, h4⟩ := sr.own i x0 (ownAt_ok eo)
    simp only [ok_bind] at k
    by_cases hk : kd x0 = true
    · rw [if_pos hk] at k
      refine ⟨.ref a, h1, hty I H a ob x0 sr.same h3 h4 hk, ?_⟩
      refine tK.nextA (.refl sr) k fun xs ρ1 I1 H1 vs x1 _ l k1 => ?_
      dsimp only at k1
      cases e1 : ownAt i ρ1 with
      | stuck => rw [e1] at k1; exact k1.elim
      | exc c => exact (ownAt_exc e1).elim
      | ok x =>
        rw [e1] at k1
        simp only [ok_bind] at k1
        have hi := ownAt_ok e1
        obtain ⟨a', o1, g1, g2, g3, g4⟩ := x1.sr.own i x hi
        have e : a' = a := by rw [h1] at g1; cases g1; rfl
        subst e
        have s := o I1 H1 a' o1 x xs vs x1.same g2 g3 g4 l
        cases e2 : f x xs with
        | stuck => rw [e2] at k1; exact k1.elim
        | exc c => rw [e2] at s; exact s.elim
        | ok q =>
          rw [e2] at k1 s
          exact s Q fun o' v w p => k1 I1 _ v (x1.trans (XE.put x1.sr hT hi g1 w)) p
    · rw [if_neg hk] at k; exact k.elim
theorem ty_lst {G : Gm} {K : PySem.W.Frag} : ∀ (I H : Hp) (a : Addr) (ob : HO) (x : PV), Same I H → H a = some ob → OwnO G I x ob → isLst x = true → tyV K "list" (.ref a) H := fun I H a ob x _ h w k => by
  cases x with
  | lst xs => obtain ⟨vs, e, _⟩ := w; subst e; exact .inl ⟨rfl, vs, SqL.of h⟩
  | _ => cases k
def mAppend : MF := fun x ys => match x, ys with
  | .lst xs, [y] => if xs.length < sizeLine then .ok (.lst (xs ++ [y]), .non) else .stuck
  | _, _ => .stuck
theorem md_append {G : Gm} : MtD G rAppend mAppend := fun I H a o x ys vs h n q w l => by
  cases x with
  | lst xs =>
    obtain ⟨us, e, lu⟩ := w
    subst e
    cases l with
    | nil => trivial
    | cons p l =>
      cases l with
      | cons _ _ => trivial
      | nil =>
        show Sat (if _ then _ else _) _
        split
        · rename_i hl
          exact fun Q k => ⟨a, us, _, rfl, rfl, q, by rw [← lu.length]; exact hl, k _ _ ⟨_, rfl, lu.append (.one p)⟩ .non⟩
        · trivial
  | _ => trivial
def mExtend : MF := fun x ys => match x, ys with
  | .lst xs, [.lst zs] => if xs.length + zs.length ≤ sizeLine then .ok (.lst (xs ++ zs), .non) else .stuck
  | _, _ => .stuck
theorem md_extend {G : Gm} : MtD G rExtend mExtend := fun I H a o x ys vs h n q w l => by
  cases x with
  | lst xs =>
    obtain ⟨us, e, lu⟩ := w
    subst e
    cases l with
    | nil => trivial
    | cons p l =>
      cases l with
      | cons _ _ => cases p <;> trivial
      | nil =>
        cases p with
        | @lst b vs zs eb lz =>
          show Sat (if _ then _ else _) _
          split
          · rename_i hl
            exact fun Q k => ⟨a, b, us, vs, rfl, rfl, q, h _ _ eb, by rw [← lu.length, ← lz.length]; exact hl, k _ _ ⟨_, rfl, lu.append lz⟩ .non⟩
          · trivial
        | _ => trivial
  | _ => trivial
def mClear : MF := fun x ys => match x, ys with
  | .lst _, [] => .ok (.lst [], .non)
  | _, _ => .stuck
theorem md_clear {G : Gm} : MtD G rClear mClear := fun I H a o x ys vs h n q w l => by
  cases x with
  | lst xs =>
    obtain ⟨us, e, lu⟩ := w
    subst e
    cases l with
    | cons _ _ => trivial
    | nil => exact fun Q k => ⟨a, us, rfl, rfl, q, k _ _ ⟨_, rfl, .nil⟩ .non⟩
  | _ => trivial
def mReverse : MF := fun x ys => match x, ys with
  | .lst xs, [] => .ok (.lst xs.reverse, .non)
  | _, _ => .stuck
theorem md_reverse {G : Gm} : MtD G rReverse mReverse := fun I H a o x ys vs h n q w l => by
  cases x with
  | lst xs =>
    obtain ⟨us, e, lu⟩ := w
    subst e
    cases l with
    | cons _ _ => trivial
    | nil => exact fun Q k => ⟨a, us, rfl, rfl, q, k _ _ ⟨_, rfl, lu.reverse⟩ .non⟩
  | _ => trivial
theorem RpL.eraseIdx {G : Gm} {I : Hp} : ∀ {xs : List PV} {vs : List V} (n : Nat), RpL G I xs vs → RpL G I (xs.eraseIdx n) (vs.eraseIdx n)
  | _, _, _, .nil => by simp; exact .nil
  | _, _, 0, .cons _ l => l
  | _, _, n + 1, .cons r l => .cons r (RpL.eraseIdx n l)
def mPopAt : MF := fun x ys => match x, ys with
  | .lst xs, [.int i] => if 0 ≤ i ∧ i < 2 ^ 62 then (match xs[i.toNat]? with
      | some y => .ok (.lst (xs.eraseIdx i.toNat), y)
      | none => .stuck) else .stuck
  | _, _ => .stuck
theorem md_popAt {G : Gm} : MtD G rPopAt mPopAt := fun I H a o x ys vs h n q w l => by
  cases x with
  | lst xs =>
    obtain ⟨us, e, lu⟩ := w
    subst e
    cases l with
    | nil => trivial
    | cons p l =>
      cases l with
      | cons _ _ => cases p <;> trivial
      | nil =>
        cases p with
        | int i =>
          show Sat (if _ then _ else _) _
          split
          · rename_i hl
            cases ex : xs[i.toNat]? with
            | none => trivial
            | some y =>
              obtain ⟨v, e1, e2⟩ := lu.get ex
              have hlen := (List.getElem?_eq_some_iff.mp e1).1
              refine fun Q k => ⟨a, us, i, i.toNat, v, rfl, rfl, q, by omega, by omega, ?_, e1, k _ _ ⟨_, rfl, lu.eraseIdx _⟩ e2⟩
              have hi : ixN us.length i = some i.toNat := by
                unfold ixN
                rw [if_pos hl.1, if_pos (by omega)]
              exact (ixN_seq hi).1
          · trivial
        | _ => trivial
  | _ => trivial
def mPop : MF := fun x ys => match x, ys with
  | .lst xs, [] => (match xs[xs.length - 1]? with
      | some y => .ok (.lst xs.dropLast, y)
      | none => .stuck)
  | _, _ => .stuck
theorem RpL.dropLast {G : Gm} {I : Hp} {xs : List PV} {vs : List V} (l : RpL G I xs vs) : RpL G I xs.dropLast vs.dropLast := by
  rw [List.dropLast_eq_take, List.dropLast_eq_take, ← l.length]; exact l.take _
theorem md_pop {G : Gm} : MtD G rPop mPop := fun I H a o x ys vs h n q w l => by
  cases x with
  | lst xs =>
    obtain ⟨us, e, lu⟩ := w
    subst e
    cases l with
    | cons _ _ => trivial
    | nil =>
      show Sat (match xs[xs.length - 1]? with | some y => _ | none => _) _
      cases ex : xs[xs.length - 1]? with
      | none => trivial
      | some y =>
        obtain ⟨v, e1, e2⟩ := lu.get ex
        exact fun Q k => ⟨a, us, v, rfl, rfl, q, by rw [← lu.length]; exact e1, k _ _ ⟨_, rfl, lu.dropLast⟩ e2⟩
  | _ => trivial
section
variable {i : Nat} {A : AX} {x : Str} {e : Expr} {es : List Expr} {apos p : Pos}
theorem de_append (hT : i ∈ T) (hx : PE X (.Name x p) (tVar i)) (ha : DA X C T [e] A) (h1 : attributeBase (.Name x p) "append" X.env (eval (.Name x p) X.env) = eval (.Name x p) X.env := by rfl)
    (h2 : (apos.endLine == pos.line) = true := by rfl) (h3 : starEach [e] X.env = (false, eval e X.env) :: starEach [] X.env := by rfl) : DE X C T (.Call (.Attribute (.Name x p) "append" apos) [e] [] pos) (eMut i isLst mAppend A) :=
  PE.imp (pe_bm PySem.F.plainAttrs_list PySem.F.slot_list_append PySem.F.type_list_append mt_append hx ha h1 (by rw [h3]; rfl) h2 h3) (tMut_of hT md_append ty_lst)
theorem de_extend (hT : i ∈ T) (hx : PE X (.Name x p) (tVar i)) (ha : DA X C T [e] A) (h1 : attributeBase (.Name x p) "extend" X.env (eval (.Name x p) X.env) = eval (.Name x p) X.env := by rfl)
    (h2 : (apos.endLine == pos.line) = true := by rfl) (h3 : starEach [e] X.env = (false, eval e X.env) :: starEach [] X.env := by rfl) : DE X C T (.Call (.Attribute (.Name x p) "extend" apos) [e] [] pos) (eMut i isLst mExtend A) :=
  PE.imp (pe_bm PySem.F.plainAttrs_list PySem.F.slot_list_extend PySem.F.type_list_extend mt_extend hx ha h1 (by rw [h3]; rfl) h2 h3) (tMut_of hT md_extend ty_lst)
theorem de_popAt (hT : i ∈ T) (hx : PE X (.Name x p) (tVar i)) (ha : DA X C T [e] A) (h1 : attributeBase (.Name x p) "pop" X.env (eval (.Name x p) X.env) = eval (.Name x p) X.env := by rfl)
    (h2 : (apos.endLine == pos.line) = true := by rfl) (h3 : starEach [e] X.env = (false, eval e X.env) :: starEach [] X.env := by rfl) : DE X C T (.Call (.Attribute (.Name x p) "pop" apos) [e] [] pos) (eMut i isLst mPopAt A) :=
  PE.imp (pe_bm PySem.F.plainAttrs_list PySem.F.slot_list_pop PySem.F.type_list_pop mt_popAt hx ha h1 (by rw [h3]; rfl) h2 h3) (tMut_of hT md_popAt ty_lst)
theorem tMut0_of {i : Nat} {kd : PV → Bool} {f : MF} {r : V → List V → Hp → VK → Prop} {K : PySem.W.Frag} {Ty : String} (hT : i ∈ T) (o : MtD C.G r f)
    (hty : ∀ (I H : Hp) (a : Addr) (ob : HO) (x : PV), Same I H → H a = some ob → OwnO C.G I x ob → kd x = true → tyV K Ty (.ref a) H)
    (σ : St) (H : Hp) (Q : VK) (h : tX C.G C.σ0 C.W T (eMut i kd f aNil) σ H Q) : tBM0 K Ty r (tVar i) σ H Q := by
  have h2 := tMut_of (C := C) (K := K) hT o hty σ H Q h
  obtain ⟨v, e, ty, I, ρ, r0, k⟩ := h2
  exact ⟨v, e, ty, k I H [] (.refl r0) .nil⟩
theorem de_pop (hT : i ∈ T) (hx : PE X (.Name x p) (tVar i)) (h1 : attributeBase (.Name x p) "pop" X.env (eval (.Name x p) X.env) = eval (.Name x p) X.env := by rfl)
    (h2 : (apos.endLine == pos.line) = true := by rfl) : DE X C T (.Call (.Attribute (.Name x p) "pop" apos) [] [] pos) (eMut i isLst mPop aNil) :=
  PE.imp (pe_bm0 PySem.F.plainAttrs_list PySem.F.slot_list_pop PySem.F.type_list_pop mt_pop hx h1 h2) (tMut0_of hT md_pop ty_lst)
theorem de_clear (hT : i ∈ T) (hx : PE X (.Name x p) (tVar i)) (h1 : attributeBase (.Name x p) "clear" X.env (eval (.Name x p) X.env) = eval (.Name x p) X.env := by rfl)
    (h2 : (apos.endLine == pos.line) = true := by rfl) : DE X C T (.Call (.Attribute (.Name x p) "clear" apos) [] [] pos) (eMut i isLst mClear aNil) :=
  PE.imp (pe_bm0 PySem.F.plainAttrs_list PySem.F.slot_list_clear PySem.F.type_list_clear mt_clear hx h1 h2) (tMut0_of hT md_clear ty_lst)
theorem de_reverse (hT : i ∈ T) (hx : PE X (.Name x p) (tVar i)) (h1 : attributeBase (.Name x p) "reverse" X.env (eval (.Name x p) X.env) = eval (.Name x p) X.env := by rfl)
    (h2 : (apos.endLine == pos.line) = true := by rfl) : DE X C T (.Call (.Attribute (.Name x p) "reverse" apos) [] [] pos) (eMut i isLst mReverse aNil) :=
  PE.imp (pe_bm0 PySem.F.plainAttrs_list PySem.F.slot_list_reverse PySem.F.type_list_reverse mt_reverse hx h1 h2) (tMut0_of hT md_reverse ty_lst)
end
def lstSet (xs : List PV) (i : Int) (y : PV) : Res PV := match ixN xs.length i with
  | some j => .ok (.lst (xs.set j y))
  | none => .stuck
/-- x[e1] = e2: the value first -/
def sPutL (i : Nat) (Ei Ev : PX) : SX := fun ρ => Ev ρ >>= fun p => (match ownAt i p.2 with
  | .ok (.lst _) => Ei p.2 >>= fun q => (match ownAt i q.2, q.1.pv with
    | .ok (.lst xs), .int n => lstSet xs n p.1.pv >>= fun y => .ok (.nx (putS i y q.2))
    | _, _ => .stuck)
  | _ => .stuck)
end
end BF

set_option maxRecDepth 100000
set_option maxHeartbeats 4000000
namespace BF
open PySem PySem.Spec L2
open PyProof.Rows hiding St
set_option autoImplicit false

section
variable {G : Gm} {σ0 : St} {W : WX} {T : List Nat} {σ σ1 : St} {I H I1 H1 I2 H2 : Hp} {ρ ρ1 : En} {D : Ends}
/-- an expression at a later point of a statement; its value frozen -/
theorem tO.exprF {E : PX} {K : Slot × En → Res Out} {R : VK} (s1 : Stp I H σ ρ I1 H1 σ1 ρ1) (r : SR G σ0 I1 H1 σ1 ρ1) (h : tO G σ0 W I H σ ρ D (E ρ1 >>= K)) (hK : ∀ (s : Slot) (ρ2 : En), K (s, ρ2) = K (.val s.pv, ρ2))
    (hR : ∀ (s : Slot) (ρ2 : En) (I2 H2 : Hp) (v : V), XE G σ0 T σ1 I1 H1 ρ1 I2 H2 ρ2 → Rp G I2 s.pv v → tO G σ0 W I H σ ρ D (K (.val s.pv, ρ2)) → R v H2) : tX G σ0 W T E σ1 H1 R := by
  refine ⟨I1, ρ1, r, ?_⟩
  cases e : E ρ1 with
  | ok q =>
    obtain ⟨s, ρ2⟩ := q
    rw [e] at h
    intro I2 H2 v x w
    obtain ⟨I3, x3, _, p⟩ := x.frz r w
    have h : tO G σ0 W I H σ ρ D (K (s, ρ2)) := h
    rw [hK] at h
    exact hR (.val s.pv) ρ2 I3 H2 v x3 p h
  | exc c => rw [e] at h; exact fun I2 H2 x => h I2 H2 σ1 (s1.xs x.xs)
  | stuck => rw [e] at h; exact h
end
section
variable {X : Cx} {C : Dc} {T : List Nat} {pos : Pos}
theorem ownAt_of {i : Nat} {ρ : En} {x : PV} (h : ownAt i ρ = .ok x) : True := trivial
/-- x[e1] = e2, x an own list -/
theorem ds_putL {i : Nat} {x : Str} {ei ev : Expr} {Ei Ev : PX} {p1 p2 : Pos} (hx : PE X (.Name x p1) (tVar i)) (hi : DE X C T ei Ei) (hv : DE X C T ev Ev)
    (ha : ∀ v, assign (.Subscript (.Name x p1) ei p2) X.env v = (do
      let ov ← holding [v] (eval (.Name x p1) X.env)
      let iv ← holding [v, ov] (eval ei X.env)
      standAt p2
      holding [v, ov, iv] (setItem ov iv v)
      release [v, ov, iv] []) := by intro _; rfl)
    (hs : swapsWithSole [.Subscript (.Name x p1) ei p2] ev pos.line X.env = pure false := by rfl) (hw : swappedStores [.Subscript (.Name x p1) ei p2] ev X.env = pure none := by rfl)
    (h1 : (assignEach [.Subscript (.Name x p1) ei p2] X.env).map (·.2) = [assign (.Subscript (.Name x p1) ei p2) X.env] := by rfl) : DS X C (.Assign [.Subscript (.Name x p1) ei p2] ev pos) (sPutL i Ei Ev) := by
  refine PS.imp (ps_asg hv (pg_sub hx hi set_list ha) hs hw h1) fun D σ H ⟨I, ρ, r, k⟩ => ?_
  refine tO.exprF (T := T) .refl r k (fun _ _ => rfl) fun s ρ1 I1 H1 v x1 p k1 => ?_
  simp only [pv_val] at k1
  cases eo : ownAt i ρ1 with
  | stuck => rw [eo] at k1; exact k1.elim
  | exc c => exact (ownAt_exc eo).elim
  | ok y =>
    rw [eo] at k1
    cases y with
    | lst ys =>
      dsimp only at k1
      obtain ⟨a, o, g1, g2, g3, g4⟩ := x1.sr.own i _ (ownAt_ok eo)
      refine ⟨.ref a, g1, ?_⟩
      refine tO.exprF x1.stp x1.sr k1 (fun _ _ => rfl) fun s2 ρ2 I2 H2 w x2 p2 k2 => ?_
      simp only [pv_val] at k2
      cases e2 : ownAt i ρ2 with
      | stuck => rw [e2] at k2; exact k2.elim
      | exc c => exact (ownAt_exc e2).elim
      | ok z =>
        have hi := ownAt_ok e2
        rw [e2] at k2
        cases z with
        | lst zs =>
          cases ep : s2.pv with
          | int n =>
            rw [ep] at k2 p2
            cases p2
            dsimp only [lstSet] at k2
            cases ex : ixN zs.length n with
            | none => rw [ex] at k2; exact k2.elim
            | some j =>
              rw [ex] at k2
              obtain ⟨a', o', q1, q2, q3, us, q4, q5⟩ := x2.sr.own i _ hi
              have e : a' = a := by rw [g1] at q1; cases q1; rfl
              subst e; subst q4
              have w' : OwnO C.G I2 (.lst (zs.set j s.pv)) (.lst (us.set j v)) := ⟨_, rfl, q5.set j (p.up x2.le)⟩
              exact ⟨a', us, n, j, rfl, rfl, q3, by rw [← q5.length]; exact ex, k2 I2 _ σ (x2.sr.put hi q1 w') ((x1.stp.trans x2.stp).trans (Stp.put x2.sr hi q1 w'))⟩
          | _ => rw [ep] at k2; exact k2.elim
        | _ => exact k2.elim
    | _ => exact k1.elim
/-- dicts: a key; what stands by a key; a store -/
def keyOf : PV → Option Key
  | .int i => some (.inl i)
  | .str x => some (.inr x)
  | _ => none
def keyV : Key → PV
  | .inl i => .int i
  | .inr x => .str x
theorem keyOf_rp {G : Gm} {I : Hp} {x : PV} {v : V} {k : Key} (h : keyOf x = some k) (r : Rp G I x v) : v = kV k := by
  cases r <;> first | (cases h; rfl) | cases h
theorem keyV_rp {G : Gm} {I : Hp} (k : Key) : Rp G I (keyV k) (kV k) := by
  cases k
  · exact .int _
  · exact .str _
def dLook (kvs : List (Key × PV)) (k : Key) : Option PV := (kvs.find? fun kv => decide (kv.1 = k)).map (·.2)
def dPut (kvs : List (Key × PV)) (k : Key) (y : PV) : List (Key × PV) := if kvs.any (fun kv => decide (kv.1 = k)) = true then kvs.map (fun kv => if kv.1 = k then (kv.1, y) else kv) else kvs ++ [(k, y)]
theorem RpK.length {G : Gm} {I : Hp} : ∀ {xs : List (Key × PV)} {vs : List (Key × V)}, RpK G I xs vs → xs.length = vs.length
  | _, _, .nil => rfl
  | _, _, .cons _ l => congrArg Nat.succ (RpK.length l)
theorem RpK.look {G : Gm} {I : Hp} {k : Key} : ∀ {xs : List (Key × PV)} {vs : List (Key × V)}, RpK G I xs vs → match dLook xs k with
    | some y => ∃ v, valV vs k = some v ∧ Rp G I y v
    | none => valV vs k = none
  | _, _, .nil => rfl
  | _, _, @RpK.cons _ _ k' x v xs vs r l => by
    have ih := RpK.look (k := k) l
    unfold dLook valV at *
    by_cases e : k' = k
    · simp only [List.find?_cons, e, decide_true, Option.map_some]
      exact ⟨v, rfl, r⟩
    · simp only [List.find?_cons, e, decide_false]
      exact ih
theorem RpK.any {G : Gm} {I : Hp} {k : Key} : ∀ {xs : List (Key × PV)} {vs : List (Key × V)}, RpK G I xs vs → (xs.any fun kv => decide (kv.1 = k)) = vs.any fun kv => decide (kv.1 = k)
  | _, _, .nil => rfl
  | _, _, .cons _ l => by simp only [List.any_cons, RpK.any (k := k) l]
theorem RpK.map {G : Gm} {I : Hp} {k : Key} {y : PV} {w : V} (p : Rp G I y w) : ∀ {xs : List (Key × PV)} {vs : List (Key × V)}, RpK G I xs vs → RpK G I (xs.map fun kv => if kv.1 = k then (kv.1, y) else kv) (vs.map fun kv => if kv.1 = k then (kv.1, w) else kv)
  | _, _, .nil => .nil
  | _, _, @RpK.cons _ _ k' x v xs vs r l => by
    simp only [List.map_cons]
    by_cases e : k' = k
    · rw [if_pos e, if_pos e]; exact .cons p (RpK.map p l)
    · rw [if_neg e, if_neg e]; exact .cons r (RpK.map p l)
theorem RpK.append {G : Gm} {I : Hp} : ∀ {xs ys : List (Key × PV)} {vs ws : List (Key × V)}, RpK G I xs vs → RpK G I ys ws → RpK G I (xs ++ ys) (vs ++ ws)
  | _, _, _, _, .nil, s => s
  | _, _, _, _, .cons r l, s => .cons r (RpK.append l s)
theorem RpK.put {G : Gm} {I : Hp} {k : Key} {y : PV} {w : V} {xs : List (Key × PV)} {vs : List (Key × V)} (l : RpK G I xs vs) (p : Rp G I y w) : RpK G I (dPut xs k y) (putK vs k w) := by
  unfold dPut putK
  rw [l.any]
  split
  · exact l.map p
  · exact l.append (.cons p .nil)
/-- d[k] -/
def pGetD : PV → PV → Res Slot := fun d k => match d, keyOf k with
  | .dct kvs, some k => (match dLook kvs k with
    | some y => .ok (.val y)
    | none => .stuck)
  | _, _ => .stuck
theorem dct_rd {G : Gm} {I H : Hp} {kvs : List (Key × PV)} {v : V} (h : Same I H) (r : Rp G I (.dct kvs) v) : ∃ a ws, v = .ref a ∧ Rd H a (.dK ws) ∧ RpK G I kvs ws := by
  cases r with
  | @dct a ws kvs rd l => exact ⟨a, ws, rfl, rd_same h rd, l⟩
def eGetD (E1 E2 : PX) : PX := eBin pGetD E1 E2
theorem de_getD {d k : Expr} {E1 E2 : PX} (hu : X.A.units + 1 < cLine) (hd : DE X C T d E1) (hk : DE X C T k E2) (hs : NoSl k := by exact fun _ _ => rfl) : DE X C T (.Subscript d k pos) (eBin pGetD E1 E2) := by
  refine PE.imp (pe_dget hu hd hk hs) fun σ H Q ⟨I, ρ, sr, kk⟩ => ?_
  refine tK.next sr (.refl sr) kk (fun s ρ1 I1 H1 v x1 _ _ p1 k1 => ?_) fun _ _ => rfl
  refine tK.next sr x1 k1 (fun s2 ρ2 I2 H2 w x2 le _ p2 k2 => ?_) fun _ _ => rfl
  simp only [pv_val] at k2
  have p1 := p1.up le
  cases e1 : s.pv with
  | dct kvs =>
    rw [e1] at k2 p1
    obtain ⟨a, ws, rfl, rd, l⟩ := dct_rd x2.same p1
    cases e2 : keyOf s2.pv with
    | none => simp only [pGetD, e2] at k2; exact k2.elim
    | some k =>
      simp only [pGetD, e2] at k2
      have lk := l.look (k := k)
      cases e3 : dLook kvs k with
      | none => rw [e3] at k2; exact k2.elim
      | some y =>
        rw [e3] at k2 lk
        obtain ⟨v', h1, h2⟩ := lk
        exact ⟨a, v', rfl, .inl ⟨ws, k, rd, keyOf_rp e2 p2, h1.symm⟩, k2 I2 H2 v' x2 h2⟩
  | _ => rw [e1] at k2; exact k2.elim
/-- k in d, k not in d -/
def pInD (neg : Bool) : PV → PV → Res Slot := fun k d => match d, keyOf k with
  | .dct kvs, some k => .ok (.val (.bl (if neg then !(dLook kvs k).isSome else (dLook kvs k).isSome)))
  | _, _ => .stuck
theorem in_core {E1 E2 : PX} {neg : Bool} {Q : VK} {σ : St} {H : Hp} (h : tX C.G C.σ0 C.W T (eBin (pInD neg) E1 E2) σ H Q) : tX C.G C.σ0 C.W T E1 σ H fun y H1 => tX C.G C.σ0 C.W T E2 σ H1 fun x H2 => ∃ a o, x = .ref a ∧ DGet H2 a y o ∧ Q (.bl (if neg then !o.isSome else o.isSome)) H2 := by
  obtain ⟨I, ρ, sr, kk⟩ := h
  refine tK.next sr (.refl sr) kk (fun s ρ1 I1 H1 v x1 _ _ p1 k1 => ?_) fun _ _ => rfl
  refine tK.next sr x1 k1 (fun s2 ρ2 I2 H2 w x2 le _ p2 k2 => ?_) fun _ _ => rfl
  simp only [pv_val] at k2
  have p1 := p1.up le
  cases e1 : s2.pv with
  | dct kvs =>
    rw [e1] at k2 p2
    obtain ⟨a, ws, rfl, rd, l⟩ := dct_rd x2.same p2
    cases e2 : keyOf s.pv with
    | none => simp only [pInD, e2] at k2; exact k2.elim
    | some k =>
      simp only [pInD, e2] at k2
      have lk := l.look (k := k)
      refine ⟨a, valV ws k, rfl, .inl ⟨ws, k, rd, keyOf_rp e2 p1, rfl⟩, ?_⟩
      have es : (valV ws k).isSome = (dLook kvs k).isSome := by
        cases e3 : dLook kvs k with
        | none => rw [e3] at lk; rw [lk]; rfl
        | some y => rw [e3] at lk; obtain ⟨v', h1, _⟩ := lk; rw [h1]; rfl
      rw [es]
      exact k2 I2 H2 _ x2 (.bl _)
  | _ => rw [e1] at k2; exact k2.elim
theorem de_inD {k d : Expr} {E1 E2 : PX} (hu : X.A.units + 1 < cLine) (hk : DE X C T k E1) (hd : DE X C T d E2) (hm : behindInMarks .In d = false := by rfl) : DE X C T (.Compare k [.In] [d] pos) (eBin (pInD false) E1 E2) :=
  PE.imp (pe_cmp (pc_din hu hk hd) hm) fun σ H Q h => in_core h
theorem de_notInD {k d : Expr} {E1 E2 : PX} (hu : X.A.units + 1 < cLine) (hk : DE X C T k E1) (hd : DE X C T d E2) (hm : behindInMarks .NotIn d = false := by rfl) : DE X C T (.Compare k [.NotIn] [d] pos) (eBin (pInD true) E1 E2) :=
  PE.imp (pe_cmp (pc_dnotin hu hk hd) hm) fun σ H Q h => in_core h
theorem tB_core {E : PX} {t : TE} (ht : ∀ σ H Q, tX C.G C.σ0 C.W T E σ H Q → t σ H Q) (σ : St) (H : Hp) (Q : Bool → Hp → Prop) (h : tT C.G C.σ0 C.W T (bT E pB) σ H Q) : tB t σ H Q := by
  refine ht σ H _ ?_
  obtain ⟨I, ρ, sr, k⟩ := h
  refine tB.next sr (.refl sr) k (fun s ρ1 I1 H1 v x1 _ p1 k1 => ?_) fun _ _ => rfl
  revert k1 p1
  cases s.pv <;> intro p1 k1 <;> first | exact k1.elim | skip
  rename_i b
  cases p1
  exact ⟨b, rfl, k1 I1 H1 x1⟩
theorem dt_inD {k d : Expr} {E1 E2 : PX} (hu : X.A.units + 1 < cLine) (hk : DE X C T k E1) (hd : DE X C T d E2) (hm : behindInMarks .In d = false := by rfl) : DT X C T (.Compare k [.In] [d] pos) (bT (eBin (pInD false) E1 E2) pB) :=
  PT.imp (pt_cmp (pc_din hu hk hd) hm) (tB_core fun σ H Q h => in_core h)
theorem dt_notInD {k d : Expr} {E1 E2 : PX} (hu : X.A.units + 1 < cLine) (hk : DE X C T k E1) (hd : DE X C T d E2) (hm : behindInMarks .NotIn d = false := by rfl) : DT X C T (.Compare k [.NotIn] [d] pos) (bT (eBin (pInD true) E1 E2) pB) :=
  PT.imp (pt_cmp (pc_dnotin hu hk hd) hm) (tB_core fun σ H Q h => in_core h)
/-- {} -/
def eDct0 : PX := fun ρ => .ok (.own (.dct []), ρ)
theorem de_dct0 : DE X C T (.Dict [] [] pos) eDct0 := by
  refine PE.imp pe_dnewK fun σ H Q ⟨I, ρ, r, k⟩ p hp => ?_
  exact k I _ _ ((XE.refl r).ext (Ext.new r.same hp)) ⟨p, _, rfl, hp, same_none r.same hp, upd_same, [], rfl, .nil⟩
/-- d[k] = v, d an own dict: the value first, then the dict, then the key -/
def sPutD (i : Nat) (Ek Ev : PX) : SX := fun ρ => Ev ρ >>= fun p => (match ownAt i p.2 with
  | .ok (.dct _) => Ek p.2 >>= fun q => (match ownAt i q.2, keyOf q.1.pv with
    | .ok (.dct kvs), some k => if kvs.length < sizeLine then .ok (.nx (putS i (.dct (dPut kvs k p.1.pv)) q.2)) else .stuck
    | _, _ => .stuck)
  | _ => .stuck)
theorem ds_putD {i : Nat} {x : Str} {ek ev : Expr} {Ek Ev : PX} {p1 p2 : Pos} (hu : X.A.units + 1 < cLine) (hx : PE X (.Name x p1) (tVar i)) (hk : DE X C T ek Ek) (hv : DE X C T ev Ev)
    (hs : swapsWith ev (some (.Subscript (.Name x p1) ek p2)) pos.line X.env = pure false := by rfl) : DS X C (.Assign [.Subscript (.Name x p1) ek p2] ev pos) (sPutD i Ek Ev) := by
  refine PS.imp (ps_dput hu hx hk hv hs) fun D σ H ⟨I, ρ, r, k⟩ => ?_
  refine tO.exprF (T := T) .refl r k (fun _ _ => rfl) fun s ρ1 I1 H1 v x1 p k1 => ?_
  simp only [pv_val] at k1
  cases eo : ownAt i ρ1 with
  | stuck => rw [eo] at k1; exact k1.elim
  | exc c => exact (ownAt_exc eo).elim
  | ok y =>
    rw [eo] at k1
    cases y with
    | dct ys =>
      dsimp only at k1
      obtain ⟨a, o, g1, g2, g3, g4⟩ := x1.sr.own i _ (ownAt_ok eo)
      refine ⟨.ref a, g1, ?_⟩
      refine tO.exprF x1.stp x1.sr k1 (fun _ _ => rfl) fun s2 ρ2 I2 H2 w x2 p2 k2 => ?_
      simp only [pv_val] at k2
      cases e2 : ownAt i ρ2 with
      | stuck => rw [e2] at k2; exact k2.elim
      | exc c => exact (ownAt_exc e2).elim
      | ok z =>
        have hi := ownAt_ok e2
        rw [e2] at k2
        cases z with
        | dct zs =>
          cases ek : keyOf s2.pv with
          | none => rw [ek] at k2; exact k2.elim
          | some kk =>
            rw [ek] at k2
            dsimp only at k2
            split at k2
            · rename_i hl
              obtain ⟨a', o', q1, q2, q3, us, q4, q5⟩ := x2.sr.own i _ hi
              have e : a' = a := by rw [g1] at q1; cases q1; rfl
              subst e; subst q4
              have w' : OwnO C.G I2 (.dct (dPut zs kk s.pv)) (.dK (putK us kk v)) := ⟨_, rfl, q5.put (p.up x2.le)⟩
              have ew := keyOf_rp ek p2
              subst ew
              exact ⟨a', _, rfl, DPut.k q3 (by rw [← q5.length]; exact hl), k2 I2 _ σ (x2.sr.put hi q1 w') ((x1.stp.trans x2.stp).trans (Stp.put x2.sr hi q1 w'))⟩
            · exact k2.elim
        | _ => exact k2.elim
    | _ => exact k1.elim
structure DFl (X : Cx) (C : Dc) (c f : Str) : Prop where
  cl : Cls X.K (C.G.cls c)
  na : NoAttr X.K (C.G.cls c) f
def pFld (c f : Str) : PV → Res Slot
  | .ins c' fs => if c' = c then (match fs.lookup f with
    | some y => .ok (.val y)
    | none => .stuck) else .stuck
  | _ => .stuck
theorem de_fld {c f : Str} {e : Expr} {E : PX} (F : DFl X C c f) (h : DE X C T e E) (hb : attributeBase e f X.env (eval e X.env) = eval e X.env := by rfl) : DE X C T (.Attribute e f pos) (eUn (pFld c f) E) := by
  refine PE.imp (pe_fld h hb) fun σ H Q ⟨I, ρ, sr, k⟩ => ?_
  refine tK.next sr (.refl sr) k (fun s ρ1 I1 H1 v x1 _ _ p1 k1 => ?_) fun _ _ => rfl
  simp only [pv_val] at k1
  cases e1 : s.pv with
  | ins c' fs =>
    rw [e1] at k1 p1
    dsimp only [pFld] at k1
    split at k1
    · rename_i hc
      subst hc
      cases p1 with
      | @ins _ a dx ws _ ea l =>
        cases e2 : fs.lookup f with
        | none => rw [e2] at k1; exact k1.elim
        | some y =>
          rw [e2] at k1
          obtain ⟨w, h1, h2⟩ := rpF_some l e2
          exact ⟨a, _, dx, ws, w, rfl, x1.same _ _ ea, F.cl, F.na, h1, k1 I1 H1 w x1 h2⟩
    · exact k1.elim
  | _ => rw [e1] at k1; exact k1.elim
def putFP (f : Str) (y : PV) : List (Str × PV) → List (Str × PV)
  | [] => [(f, y)]
  | (g, x) :: r => if g = f then (g, y) :: r else (g, x) :: putFP f y r
end
end BF

set_option maxRecDepth 100000
set_option maxHeartbeats 4000000
namespace BF
open PySem PySem.Spec L2
open PyProof.Rows hiding St
set_option autoImplicit false

theorem RpF.length {G : Gm} {I : Hp} : ∀ {xs : List (Str × PV)} {vs : List (Str × V)}, RpF G I xs vs → xs.length = vs.length
  | _, _, .nil => rfl
  | _, _, .cons _ l => congrArg Nat.succ (RpF.length l)
theorem RpF.put {G : Gm} {I : Hp} {f : Str} {y : PV} {w : V} (p : Rp G I y w) : ∀ {xs : List (Str × PV)} {vs : List (Str × V)}, RpF G I xs vs → RpF G I (putFP f y xs) (putF f w vs)
  | _, _, .nil => .cons p .nil
  | _, _, @RpF.cons _ _ k x v xs vs r l => by
    unfold putFP putF
    by_cases e : k = f
    · rw [if_pos e, if_pos e]; exact .cons p l
    · rw [if_neg e, if_neg e]; exact .cons r (RpF.put p l)
section
variable {X : Cx} {C : Dc} {T : List Nat} {pos : Pos}
/-- self.f = e, self handed in by reference (or an own name) -/
def sPutF (i : Nat) (c f : Str) (E : PX) : SX := fun ρ => E ρ >>= fun p => (match ownAt i p.2 with
  | .ok (.ins c' fs) => if c' = c ∧ fs.length < 1000 then .ok (.nx (putS i (.ins c' (putFP f p.1.pv fs)) p.2)) else .stuck
  | _ => .stuck)
theorem ds_putF {i : Nat} {x c f : Str} {e : Expr} {E : PX} {p1 p2 : Pos} (F : DFl X C c f) (hx : PE X (.Name x p1) (tVar i)) (he : DE X C T e E) (hs : swapsWith e (some (.Attribute (.Name x p1) f p2)) pos.line X.env = pure false := by rfl) :
    DS X C (.Assign [.Attribute (.Name x p1) f p2] e pos) (sPutF i c f E) := by
  refine PS.imp (ps_fld hx he hs) fun D σ H ⟨I, ρ, r, k⟩ => ?_
  refine tO.exprF (T := T) .refl r k (fun _ _ => rfl) fun s ρ1 I1 H1 v x1 p k1 => ?_
  simp only [pv_val] at k1
  cases eo : ownAt i ρ1 with
  | stuck => rw [eo] at k1; exact k1.elim
  | exc c => exact (ownAt_exc eo).elim
  | ok y =>
    rw [eo] at k1
    cases y with
    | ins c' fs =>
      dsimp only at k1
      split at k1
      · rename_i hc
        obtain ⟨rfl, hl⟩ := hc
        have hi := ownAt_ok eo
        obtain ⟨a, o, g1, g2, g3, dx, ws, g4, g5⟩ := x1.sr.own i _ hi
        subst g4
        have w' : OwnO C.G I1 (.ins c' (putFP f s.pv fs)) (.ins (C.G.cls c') dx (putF f v ws)) := ⟨dx, _, rfl, g5.put p⟩
        exact ⟨.ref a, g1, a, _, dx, ws, rfl, g3, F.cl, F.na, by rw [← g5.length]; exact hl, k1 I1 _ σ (x1.sr.put hi g1 w') (x1.stp.trans (Stp.put x1.sr hi g1 w'))⟩
      · exact k1.elim
    | _ => exact k1.elim

/-- how it is made: __init__'s promise, how its arguments bind (gp: the positional ones, the keywords', put in the parameters' order, with defaults) -/
structure DMk (X : Cx) (C : Dc) (k n : Nat) (c x : Str) (ks : List Str) (n0 : Nat) (gp : List PV → List PV → List PV) (m : FM) : Prop where
  ex : ∃ (f : Addr) (fd : FuncData) (ps : List Str) (g : List Value → List Value → List Value) (gV : List V → List V → List V), Mk X.K (C.G.cls c) f ∧ FnOk X.prog X.w X.K X.mg X.base (L2.CX X.prog X.w) k f fd ps (spF C.G n m) ∧ X.mg x = some (.ref (C.G.cls c)) ∧
    KBn X.K fd ps (n0 + 1) ks g gV ∧ ∀ (I : Hp) (v : V) (xs ys : List PV) (vs zs : List V), RpL C.G I xs vs → RpL C.G I ys zs → vs.length = n0 → zs.length = ks.length → ∃ r, gV (v :: vs) zs = v :: r ∧ RpL C.G I (gp xs ys) r ∧ r.length + 1 = n
def tMakeW (Cl : Addr) (n m : Nat) (sp : Sp) (gV : List V → List V → List V) (E : St → XK) (t tk : TA) : TE := fun σ H Q => t σ H fun vs H1 => tk σ H1 fun zs H2 => vs.length = n ∧ zs.length = m ∧ ∀ a dx, H2 a = none → H2 dx = none → dx ≠ a →
  sp (gV (.ref a :: vs) zs) (upd (upd H2 dx (.own a)) a (.ins Cl dx [])) (fun v H3 => v = .non ∧ Q (.ref a) H3) (E σ)
theorem make_run {Wt : WX} {Cl f : Addr} {fd : FuncData} {ps ks : List Str} {sp : Sp} {k n : Nat} {g : List Value → List Value → List Value} {gV : List V → List V → List V} {pins : List (Addr × Obj)} {σ : St} {H : Hp} {s : Shared} {Q : VK} {us ws : List Value} {vs zs : List V}
    (M : Mk X.K Cl f) (F : FnOk X.prog X.w X.K X.mg X.base (L2.CX X.prog X.w) k f fd ps sp) (hr : Room (k + 1) X.A) (hb : KBn X.K fd ps (n + 1) ks g gV) (tk : Takes X Wt) (I : Inv X pins σ H s) (r : Vals vs us) (rz : Vals zs ws) (l1 : vs.length = n) (l2 : zs.length = ks.length)
    (h : ∀ a dx, H a = none → H dx = none → dx ≠ a → sp (gV (.ref a :: vs) zs) (upd (upd H dx (.own a)) a (.ins Cl dx [])) (fun v H2 => v = .non ∧ Q (.ref a) H2) (WE Wt σ)) : wpAny (model X.prog X.w) X.A (call (.ref Cl) us (ks.zip ws)) (EP X pins σ Q) X.xe s := by
  let d := s.heap.objs.size
  have hq := h (d + 1) d (I.hok.fresh (Nat.le_succ _)) (I.hok.fresh (Nat.le_refl _)) (Nat.ne_of_lt (Nat.lt_succ_self _))
  have J := Inv.made (C := Cl) I
  have q1 : Vals (V.ref (d + 1) :: vs) (Value.ref (d + 1) :: us) := .cons rfl r
  have e1 : (Value.ref (d + 1) :: us).length = n + 1 := by rw [List.length_cons, ← r.length, l1]
  refine wpAny_call (make_map (f := f) I.kIn M.makes M.init (beq_iff_eq.mp M.fn) (codeAny_mono (F.run _ X.stack _ _ _ _ _ _ _ (hr.make Cl us (ks.zip ws)) (J.env0.make Cl us (ks.zip ws)) (hb.to _ _ ws J.kIn e1 (rz.length.symm.trans l2)) (hb.rel q1 rz) hq) fun res s' hq' => ?_))
  match res, hq' with
  | .error e, hq' => exact passAt tk σ pins _ _ e s' J hq'
  | .ok (.ret u), hq' =>
    obtain ⟨v, H', J', rv, ev, q3⟩ := J.after hq'
    subst ev
    exact ⟨rv, ⟨V.ref (d + 1), H', J', rfl, q3⟩⟩
theorem pe_makeW {Wt : WX} {Cl f : Addr} {fd : FuncData} {ps ks : List Str} {sp : Sp} {k n : Nat} {g : List Value → List Value → List Value} {gV : List V → List V → List V} {x : Str} {p : Pos} {e : Expr} {es : List Expr} {kws : List Keyword} {t tk : TA}
    (M : Mk X.K Cl f) (F : FnOk X.prog X.w X.K X.mg X.base (L2.CX X.prog X.w) k f fd ps sp) (hr : Room (k + 1) X.A) (hg : Gl X x) (hm : X.mg x = some (.ref Cl)) (hb : KBn X.K fd ps (n + 1) ks g gV) (tt : Takes X Wt) (ha : PA X (e :: es) t) (hkw : PK X kws tk)
    (h1 : (backToKw pos (keywordEach kws X.env)).all (·.1.isSome) = true) (h2 : (backToKw pos (keywordEach kws X.env)).filterMap (·.1) = ks) (h3 : (x == ("__debug__" : Str)) = false)
    (h4 : starEach (e :: es) X.env = (false, eval e X.env) :: starEach es X.env) (h5 : ((backTo pos (starEach (e :: es) X.env)).any (·.1) || (backToKw pos (keywordEach kws X.env)).any (·.1.isNone)) = false) :
    PE X (.Call (.Name x p) (e :: es) kws pos) (tMakeW Cl n ks.length sp gV (WE Wt) t tk) := by
  refine ⟨fun pins s σ H Q I h => wpAny_Call_Name_kw (ld_glob I hg hm (PySem.W.callWith_KW (h₀ := X.base) I.ok.mod.kin M.kp h1 (thn (ha.run pos pins s σ H _ I h) fun us s1 ⟨vs, H1, I1, r, q⟩ => ?_) h5 h4) h3)⟩
  refine thn (hkw.run pos pins s1 σ H1 _ I1 q) fun ws s2 ⟨zs, H2, I2, rz, l1, l2, q2⟩ => ⟨I2.kIn, ?_⟩
  rw [h2]
  exact make_run M F hr hb tt I2 r rz l1 l2 q2
abbrev DK (X : Cx) (C : Dc) (T : List Nat) (kws : List Keyword) (E : AX) : Prop := PK X kws (tAs C.G C.σ0 C.W T E)
theorem PK.imp {X : Cx} {e : List Keyword} {t t' : TA} (h : PK X e t) (k : ∀ σ H Q, t' σ H Q → t σ H Q) : PK X e t' := ⟨fun pos pins s σ H Q I q => h.run pos pins s σ H Q I (k σ H Q q)⟩
theorem dk_nil : DK X C T [] aNil := PK.imp pk_nil fun σ H Q ⟨I, ρ, r, k⟩ => k I H [] (.refl r) .nil
theorem dk_cons {nm : Option Str} {e : Expr} {kp : Pos} {kws : List Keyword} {E : PX} {A : AX} (ha : DE X C T e E) (hr : DK X C T kws A) : DK X C T (⟨nm, e, kp⟩ :: kws) (aCons E A) := by
  refine PK.imp (pk_cons ha hr) fun σ H Q ⟨I, ρ, sr, k⟩ => ?_
  refine tA.next sr (.refl sr) k (fun s ρ1 I1 H1 v x1 _ p1 k1 => ?_) fun _ _ => rfl
  refine tA.nextA x1 k1 fun xs ρ2 I2 H2 vs x2 le l k2 => ?_
  exact k2 I2 H2 (v :: vs) x2 (.cons (p1.up le) l)
/-- the mirror: __init__ changes the empty instance handed in -/
def eMake (c : Str) (n0 nk : Nat) (gp : List PV → List PV → List PV) (m : FM) (A B : AX) : PX := fun ρ => A ρ >>= fun p => B p.2 >>= fun q => if p.1.length = n0 ∧ q.1.length = nk then
  m (.own (.ins c []) :: (gp p.1 q.1).map .val) >>= fun r => (match r.1, r.2 with
    | .val .non, .own y :: _ => .ok (.own y, q.2)
    | _, _ => .stuck) else .stuck
theorem dmO {H H' : Hp} (h : ∀ b o, H b = some o → H' b = some o) (b : Addr) (q : H' b = none) : H b = none := by
  cases z : H b with
  | none => rfl
  | some o => have := h b o z; rw [q] at this; cases this
theorem make_sr {G : Gm} {I H : Hp} {c : Str} {a dx : Addr} {xs : List PV} {r : List V} (h : Same I H) (l : RpL G I xs r) (ha : H a = none) (hd : H dx = none) (hn : dx ≠ a) (tb : TabI G.tabs I H) :
    SR G [] I (upd (upd H dx (.own a)) a (.ins (G.cls c) dx [])) ((V.ref a :: r).map some) (.own (.ins c []) :: xs.map .val) := by
  have v := vals_sr h l tb
  have T0 : TabsE I H I (upd (upd H dx (.own a)) a (.ins (G.cls c) dx [])) := (TabsE.new hd).trans (TabsE.new (by rw [upd_ne (Ne.symm hn)]; exact ha))
  have hs : Same I (upd (upd H dx (.own a)) a (.ins (G.cls c) dx [])) := same_upd_r (same_upd_r h (same_none h hd)) (same_none h ha)
  have tl : ∀ {i : Nat} {s : Slot}, (xs.map Slot.val)[i]? = some s → ∃ x, s = .val x := fun {i s} e => by
    rw [List.getElem?_map] at e
    cases q : xs[i]? with
    | none => rw [q] at e; cases e
    | some y => rw [q] at e; cases e; exact ⟨y, rfl⟩
  have tlo : ∀ {i : Nat} {x : PV}, (xs.map Slot.val)[i]? = some (.own x) → False := fun e => by obtain ⟨z, hz⟩ := tl e; cases hz
  have tlp : ∀ {i : Nat} {x : PV}, (xs.map Slot.val)[i]? = some (.prm x) → False := fun e => by obtain ⟨z, hz⟩ := tl e; cases hz
  refine ⟨hs, by simp [l.length], fun i x e => ?_, fun i x e => ?_, fun i x e => ?_, fun i j x y b ei ej _ _ => ?_, T0.tabs tb⟩
  · cases i with
    | zero => simp at e
    | succ i => exact v.val i x (by simpa using e)
  · cases i with
    | zero =>
      rcases e with e | e
      · have e' : PV.ins c [] = x := by simpa using e
        subst e'
        exact ⟨a, _, rfl, same_none h ha, upd_same, dx, [], rfl, .nil⟩
      · simp at e
    | succ i =>
      exfalso
      rcases e with e | e
      · exact tlo (i := i) (x := x) (by simpa using e)
      · exact tlp (i := i) (x := x) (by simpa using e)
  · cases i with
    | zero => simp at e
    | succ i => exfalso; exact tlp (i := i) (x := x) (by simpa using e)
  · have z : ∀ {i : Nat} {x : PV}, ((Slot.own (.ins c []) :: xs.map Slot.val)[i]? = some (.own x) ∨ (Slot.own (.ins c []) :: xs.map Slot.val)[i]? = some (.prm x)) → i = 0 := by
      intro i x e
      cases i with
      | zero => rfl
      | succ i =>
        exfalso
        rcases e with e | e
        · exact tlo (i := i) (x := x) (by simpa using e)
        · exact tlp (i := i) (x := x) (by simpa using e)
    rw [z ei, z ej]
theorem tMake_of {c : Str} {n n0 nk : Nat} {gp : List PV → List PV → List PV} {gV : List V → List V → List V} {m : FM} {A B : AX}
    (hg : ∀ (I : Hp) (v : V) (xs ys : List PV) (vs zs : List V), RpL C.G I xs vs → RpL C.G I ys zs → vs.length = n0 → zs.length = nk → ∃ r, gV (v :: vs) zs = v :: r ∧ RpL C.G I (gp xs ys) r ∧ r.length + 1 = n)
    (σ : St) (H : Hp) (Q : VK) (h : tX C.G C.σ0 C.W T (eMake c n0 nk gp m A B) σ H Q) : tMakeW (C.G.cls c) n0 nk (spF C.G n m) gV (WE C.W) (tAs C.G C.σ0 C.W T A) (tAs C.G C.σ0 C.W T B) σ H Q := by
  obtain ⟨I, ρ, sr, k⟩ := h
  refine tK.nextA (.refl sr) k fun xs ρ1 I1 H1 vs x1 _ l1 k1 => ?_
  refine tK.nextA x1 k1 fun ys ρ2 I2 H2 zs x2 le l2 k2 => ?_
  dsimp only at k2
  split at k2
  · rename_i hl
    have e1 := l1.length
    have e2 := l2.length
    refine ⟨by omega, by omega, fun a dx ha hd hn => ?_⟩
    obtain ⟨r, er, lr, nr⟩ := hg I2 (.ref a) xs ys vs zs (l1.up le) l2 (by omega) (by omega)
    rw [er]
    have hs := x2.same
    have r0 := make_sr (c := c) hs lr ha hd hn x2.sr.tab
    have T0 : TabsE I2 H2 I2 (upd (upd H2 dx (.own a)) a (.ins (C.G.cls c) dx [])) := (TabsE.new hd).trans (TabsE.new (by rw [upd_ne (Ne.symm hn)]; exact ha))
    have old : ∀ b o, H2 b = some o → upd (upd H2 dx (.own a)) a (.ins (C.G.cls c) dx []) b = some o := fun b o e => by
      rw [upd_ne (ne_of_none e ha), upd_ne (ne_of_none e hd)]; exact e
    have nOw : ∀ b o, H2 b = some o → ¬ Ow ((V.ref a :: r).map some) (.own (.ins c []) :: (gp xs ys).map .val) b := fun b o e ⟨i, y, e3, q⟩ => by
      cases i with
      | zero =>
        have : V.ref a = V.ref b := by simpa using q
        cases this
        rw [ha] at e; cases e
      | succ i => exact (vals_no (xs := gp xs ys) (vs := r) (a := b)).1 ⟨i, y, by simpa using e3, by simpa using q⟩
    have nPm : ∀ b, ¬ Pm ((V.ref a :: r).map some) (.own (.ins c []) :: (gp xs ys).map .val) b := fun b ⟨i, y, e3, q⟩ => by
      cases i with
      | zero => simp at e3
      | succ i => exact (vals_no (xs := gp xs ys) (vs := r) (a := b)).2 ⟨i, y, by simpa using e3, by simpa using q⟩
    refine ⟨by simpa using nr, I2, _, r0, ?_⟩
    cases em : m (.own (.ins c []) :: (gp xs ys).map .val) with
    | stuck => rw [em] at k2; exact k2.elim
    | exc x =>
      rw [em] at k2
      intro I' H' xx
      refine k2 I' H' (x2.xx (XX.ofExt hs ⟨xx.le, xx.same, fun b o t e n => xx.keep b o t (old b o e) n (nOw b o e) (nPm b), fun b q => dmO old b (xx.dom b q), T0.trans xx.tab⟩))
    | ok q =>
      obtain ⟨s, ss⟩ := q
      rw [em] at k2
      intro I' H' v r' st w
      simp only [ok_bind] at k2
      cases s with
      | val z =>
        cases z with
        | non =>
          cases ss with
          | nil => exact k2.elim
          | cons s1 ss1 =>
            cases s1 with
            | own y =>
              cases w
              refine ⟨rfl, ?_⟩
              obtain ⟨a', o, e3, e4, e5, e6⟩ := r'.own 0 y (.inl rfl)
              have e3' : a' = a := by
                have : V.ref a = V.ref a' := by simpa using e3
                cases this; rfl
              subst e3'
              refine k2 I' H' _ (x2.ext ⟨st.le, r'.same, fun b o t e n => st.keep b o t (old b o e) n (nOw b o e) (nPm b), fun b q => dmO old b (st.dom b q), T0.trans st.tab⟩) ⟨a', o, rfl, x2.dom _ ha, e4, e5, e6⟩
            | _ => exact k2.elim
        | _ => exact k2.elim
      | _ => exact k2.elim
  · exact k2.elim
theorem de_make {c x : Str} {p : Pos} {e : Expr} {es : List Expr} {kws : List Keyword} {k n n0 : Nat} {ks : List Str} {gp : List PV → List PV → List PV} {m : FM} {A B : AX}
    (M : DMk X C k n c x ks n0 gp m) (hr : Room (k + 1) X.A) (tt : Takes X C.W) (ha : DA X C T (e :: es) A) (hkw : DK X C T kws B) (hg : Gl X x := by rfl)
    (h1 : (backToKw pos (keywordEach kws X.env)).all (·.1.isSome) = true := by rfl) (h2 : (backToKw pos (keywordEach kws X.env)).filterMap (·.1) = ks := by rfl) (h3 : (x == ("__debug__" : Str)) = false := by decide)
    (h4 : starEach (e :: es) X.env = (false, eval e X.env) :: starEach es X.env := by rfl) (h5 : ((backTo pos (starEach (e :: es) X.env)).any (·.1) || (backToKw pos (keywordEach kws X.env)).any (·.1.isNone)) = false := by rfl) :
    DE X C T (.Call (.Name x p) (e :: es) kws pos) (eMake c n0 ks.length gp m A B) := by
  obtain ⟨f, fd, ps, g, gV, M, F, hm, hb, hgp⟩ := M.ex
  exact PE.imp (pe_makeW M F hr hg hm hb tt ha hkw h1 h2 h3 h4 h5) (tMake_of hgp)

/-- bs: for each argument none (frozen data) or the slot that is handed in -/
inductive RpB (G : Gm) (I : Hp) (σ : St) : List (Option Nat) → List PV → List V → Prop
  | nil : RpB G I σ [] [] []
  | val {bs x xs v vs} : Rp G I x v → RpB G I σ bs xs vs → RpB G I σ (none :: bs) (x :: xs) (v :: vs)
  | ref {bs i xs v vs} : σ[i]? = some (some v) → RpB G I σ bs xs vs → RpB G I σ (some i :: bs) xs (v :: vs)
theorem RpB.up {G : Gm} {I I' : Hp} {σ : St} (h : Same I I') : ∀ {bs : List (Option Nat)} {xs : List PV} {vs : List V}, RpB G I σ bs xs vs → RpB G I' σ bs xs vs
  | _, _, _, .nil => .nil
  | _, _, _, .val r l => .val (r.up h) (RpB.up h l)
  | _, _, _, .ref r l => .ref r (RpB.up h l)
def tAr (G : Gm) (σ0 : St) (W : WX) (T : List Nat) (bs : List (Option Nat)) (E : AX) : TA := fun σ H Q => ∃ I ρ, SR G σ0 I H σ ρ ∧ (∀ i, some i ∈ bs → ∃ v, σ[i]? = some (some v)) ∧ (match E ρ with
  | .ok (xs, ρ') => ∀ I' H' vs, XE G σ0 T σ I H ρ I' H' ρ' → RpB G I' σ bs xs vs → Q vs H'
  | .exc c => ∀ I' H', XX T σ ρ I H I' H' → W (.ref (G.cls c)) none σ H'
  | .stuck => False)
abbrev DAr (X : Cx) (C : Dc) (T : List Nat) (bs : List (Option Nat)) (es : List Expr) (E : AX) : Prop := PA X es (tAr C.G C.σ0 C.W T bs E)
theorem dar_nil : DAr X C T [] [] aNil := PA.imp pa_nil fun σ H Q ⟨I, ρ, r, _, k⟩ => k I H [] (.refl r) .nil
theorem dar_val {e : Expr} {es : List Expr} {bs : List (Option Nat)} {E : PX} {A : AX} (ha : DE X C T e E) (hr : DAr X C T bs es A) (hs : starEach (e :: es) X.env = (false, eval e X.env) :: starEach es X.env := by rfl) : DAr X C T (none :: bs) (e :: es) (aCons E A) := by
  refine PA.imp (pa_cons ha hr hs) fun σ H Q ⟨I, ρ, sr, hb, k⟩ => ?_
  refine ⟨I, ρ, sr, ?_⟩
  unfold aCons at k
  cases ee : E ρ with
  | exc c => rw [ee] at k; exact k
  | stuck => rw [ee] at k; exact k
  | ok p =>
    obtain ⟨s, ρ1⟩ := p
    rw [ee] at k
    intro I1 H1 v x1 w
    obtain ⟨I2, x2, _, p1⟩ := x1.frz sr w
    refine ⟨I2, ρ1, x2.sr, fun i hi => hb i (List.mem_cons_of_mem _ hi), ?_⟩
    simp only [ok_bind] at k
    cases ea : A ρ1 with
    | exc c => rw [ea] at k; exact fun I' H' x => k I' H' (x2.xx x)
    | stuck => rw [ea] at k; exact k
    | ok q =>
      obtain ⟨xs, ρ2⟩ := q
      rw [ea] at k
      exact fun I3 H3 vs x3 l => k I3 H3 (v :: vs) (x2.trans x3) (.val (p1.up x3.le) l)
theorem dar_ref {i : Nat} {e : Expr} {es : List Expr} {bs : List (Option Nat)} {A : AX} (hx : PE X e (tVar i)) (hr : DAr X C T bs es A) (hs : starEach (e :: es) X.env = (false, eval e X.env) :: starEach es X.env := by rfl) : DAr X C T (some i :: bs) (e :: es) A := by
  refine PA.imp (pa_cons hx hr hs) fun σ H Q ⟨I, ρ, sr, hb, k⟩ => ?_
  obtain ⟨v, hv⟩ := hb i List.mem_cons_self
  refine ⟨v, hv, I, ρ, sr, fun j hj => hb j (List.mem_cons_of_mem _ hj), ?_⟩
  cases ea : A ρ with
  | exc c => rw [ea] at k; exact k
  | stuck => rw [ea] at k; exact k
  | ok q =>
    obtain ⟨xs, ρ2⟩ := q
    rw [ea] at k
    exact fun I3 H3 vs x3 l => k I3 H3 (v :: vs) x3 (.ref hv l)
/-- the slots handed in; what became of them put back -/
def argS (ρ : En) : List (Option Nat) → List PV → List Slot
  | [], _ => []
  | none :: bs, x :: xs => .val x :: argS ρ bs xs
  | none :: bs, [] => .dead :: argS ρ bs []
  | some i :: bs, xs => (match ρ[i]? with
    | some (.own y) => .own y
    | some (.prm y) => .own y
    | _ => .dead) :: argS ρ bs xs
def putBack : List (Option Nat) → List Slot → En → En
  | some i :: bs, .own y :: ss, ρ => putBack bs ss (putS i y ρ)
  | some i :: bs, _ :: ss, ρ => putBack bs ss (ρ.set i .dead)
  | none :: bs, _ :: ss, ρ => putBack bs ss ρ
  | _, _, ρ => ρ
def allOwn (ρ : En) (bs : List (Option Nat)) : Bool := bs.all fun b => match b with
  | none => true
  | some i => match ρ[i]? with
    | some (.own _) => true
    | some (.prm _) => true
    | _ => false
def eCallR (bs : List (Option Nat)) (n0 : Nat) (m : FM) (A : AX) : PX := fun ρ => if allOwn ρ bs = true then (A ρ >>= fun p => if p.1.length = n0 ∧ allOwn p.2 bs = true then
  m (argS p.2 bs p.1) >>= fun q => .ok (q.1, putBack bs q.2 p.2) else .stuck) else .stuck
theorem allOwn_at {ρ : En} {bs : List (Option Nat)} {i : Nat} (h : allOwn ρ bs = true) (hi : some i ∈ bs) : ∃ y, ρ[i]? = some (.own y) ∨ ρ[i]? = some (.prm y) := by
  have := List.all_eq_true.mp h (some i) hi
  dsimp only at this
  split at this
  · exact ⟨_, .inl (by assumption)⟩
  · exact ⟨_, .inr (by assumption)⟩
  · cases this
section
variable {G : Gm} {σ0 : St} {σ : St} {I H I1 H1 : Hp} {ρ ρ1 : En}
/-- what stands at an argument's place -/
theorem argS_get : ∀ {bs : List (Option Nat)} {xs : List PV} {vs : List V} (_ : RpB G I σ bs xs vs) (_ : allOwn ρ bs = true) {k : Nat} {s : Slot}, (argS ρ bs xs)[k]? = some s →
    (∃ x v, s = .val x ∧ vs[k]? = some v ∧ Rp G I x v ∧ bs[k]? = some none) ∨ (∃ i y v, s = .own y ∧ bs[k]? = some (some i) ∧ (ρ[i]? = some (.own y) ∨ ρ[i]? = some (.prm y)) ∧ vs[k]? = some v ∧ σ[i]? = some (some v))
  | _, _, _, .nil, _, k, s, e => by simp [argS] at e
  | _, _, _, .val r l, ho, 0, s, e => by
    simp [argS] at e; subst e
    exact .inl ⟨_, _, rfl, rfl, r, rfl⟩
  | _, _, _, @RpB.val _ _ _ bs x xs v vs r l, ho, k + 1, s, e => by
    have ho' : allOwn ρ bs = true := by
      unfold allOwn at ho ⊢
      simp only [List.all_cons, Bool.and_eq_true] at ho
      exact ho.2
    have := argS_get l ho' (k := k) (s := s) (by simpa [argS] using e)
    simpa using this
  | _, _, _, @RpB.ref _ _ _ bs i xs v vs q l, ho, 0, s, e => by
    obtain ⟨y, hy⟩ := allOwn_at ho (i := i) List.mem_cons_self
    refine .inr ⟨i, y, v, ?_, rfl, hy, rfl, q⟩
    simp only [argS, List.getElem?_cons_zero, Option.some.injEq] at e
    rcases hy with hy | hy <;> rw [hy] at e <;> exact e.symm
  | _, _, _, @RpB.ref _ _ _ bs i xs v vs q l, ho, k + 1, s, e => by
    have ho' : allOwn ρ bs = true := by
      unfold allOwn at ho ⊢
      simp only [List.all_cons, Bool.and_eq_true] at ho
      exact ho.2
    have := argS_get l ho' (k := k) (s := s) (by simpa [argS] using e)
    simpa using this
theorem argS_len : ∀ {bs : List (Option Nat)} {xs : List PV} {vs : List V}, RpB G I σ bs xs vs → (argS ρ bs xs).length = vs.length ∧ bs.length = vs.length
  | _, _, _, .nil => ⟨rfl, rfl⟩
  | _, _, _, .val _ l => ⟨congrArg Nat.succ (argS_len l).1, congrArg Nat.succ (argS_len l).2⟩
  | _, _, _, .ref _ l => ⟨congrArg Nat.succ (argS_len l).1, congrArg Nat.succ (argS_len l).2⟩
theorem argS_sr {bs : List (Option Nat)} {xs : List PV} {vs : List V} (r : SR G σ0 I H σ ρ) (l : RpB G I σ bs xs vs) (ho : allOwn ρ bs = true) (nd : (bs.filterMap id).Nodup) : SR G [] I H (vs.map some) (argS ρ bs xs) where
  same := r.same
  tab := r.tab
  len := by simp [(argS_len (ρ := ρ) l).1]
  val := fun k x e => by
    rcases argS_get l ho e with ⟨x', v, e1, e2, e3, _⟩ | ⟨i, y, v, e1, _⟩
    · cases e1; exact ⟨v, by rw [List.getElem?_map, e2]; rfl, e3⟩
    · cases e1
  own := fun k x e => by
    rcases e with e | e <;> rcases argS_get l ho e with ⟨x', v, e1, _⟩ | ⟨i, y, v, e1, _, hy, e2, e3⟩ <;> cases e1
    obtain ⟨a, o, h1, h2, h3, h4⟩ := r.own i _ hy
    rw [e3] at h1
    cases h1
    exact ⟨a, o, by rw [List.getElem?_map, e2]; rfl, h2, h3, h4⟩
  prm := fun k x e => by rcases argS_get l ho e with ⟨x', v, e1, _⟩ | ⟨i, y, v, e1, _⟩ <;> cases e1
  sep := fun k m x y a ek em h1 h2 => by
    rcases ek with ek | ek <;> rcases argS_get l ho ek with ⟨x', v, e1, _⟩ | ⟨i, y1, v, e1, b1, hy1, q1, s1⟩ <;> cases e1
    rcases em with em | em <;> rcases argS_get l ho em with ⟨x', w, e1, _⟩ | ⟨j, y2, w, e1, b2, hy2, q2, s2⟩ <;> cases e1
    rw [List.getElem?_map, q1] at h1
    rw [List.getElem?_map, q2] at h2
    have e1 : v = .ref a := by simpa using h1
    have e2 : w = .ref a := by simpa using h2
    have eij := r.sep i j _ _ a hy1 hy2 (by rw [s1, e1]) (by rw [s2, e2])
    subst eij
    have key : ∀ (bs : List (Option Nat)) (k m : Nat), (bs.filterMap id).Nodup → bs[k]? = some (some i) → bs[m]? = some (some i) → k = m := by
      intro bs
      induction bs with
      | nil => intro k m _ h; simp at h
      | cons b bs ih =>
        intro k m hn hk hm
        cases k with
        | zero =>
          cases m with
          | zero => rfl
          | succ m =>
            exfalso
            have hb : b = some i := by simpa using hk
            subst hb
            simp only [List.filterMap_cons, id] at hn
            have hm' : some i ∈ bs := List.mem_of_getElem? (by simpa using hm)
            exact (List.nodup_cons.mp hn).1 (List.mem_filterMap.mpr ⟨some i, hm', rfl⟩)
        | succ k =>
          cases m with
          | zero =>
            exfalso
            have hb : b = some i := by simpa using hm
            subst hb
            simp only [List.filterMap_cons, id] at hn
            have hm' : some i ∈ bs := List.mem_of_getElem? (by simpa using hk)
            exact (List.nodup_cons.mp hn).1 (List.mem_filterMap.mpr ⟨some i, hm', rfl⟩)
          | succ m =>
            have hn' : (bs.filterMap id).Nodup := by
              cases b with
              | none => simpa using hn
              | some j => simp only [List.filterMap_cons, id] at hn; exact (List.nodup_cons.mp hn).2
            rw [ih k m hn' (by simpa using hk) (by simpa using hm)]
    exact key bs k m nd b1 b2
/-- the callee's objects are those of the slots handed in -/
theorem argS_ow {bs : List (Option Nat)} {xs : List PV} {vs : List V} (l : RpB G I σ bs xs vs) (ho : allOwn ρ bs = true) {a : Addr} (h : Ow (vs.map some) (argS ρ bs xs) a) : ∃ i y, some i ∈ bs ∧ (ρ[i]? = some (.own y) ∨ ρ[i]? = some (.prm y)) ∧ σ[i]? = some (some (.ref a)) := by
  obtain ⟨k, x, e, q⟩ := h
  rcases argS_get l ho e with ⟨x', v, e1, _⟩ | ⟨i, y, v, e1, hb, hy, e2, e3⟩
  · cases e1
  · rw [List.getElem?_map, e2] at q
    have : v = .ref a := by simpa using q
    subst this
    exact ⟨i, y, List.mem_of_getElem? hb, hy, e3⟩
theorem argS_pm {bs : List (Option Nat)} {xs : List PV} {vs : List V} (l : RpB G I σ bs xs vs) (ho : allOwn ρ bs = true) {a : Addr} (h : Pm (vs.map some) (argS ρ bs xs) a) : False := by
  obtain ⟨k, x, e, q⟩ := h
  rcases argS_get l ho e with ⟨x', v, e1, _⟩ | ⟨i, y, v, e1, hb, hy, e2, e3⟩ <;> cases e1
theorem putS_at {i j : Nat} {y : PV} {s : Slot} (h : (putS i y ρ)[j]? = some s) : (j = i ∧ ∃ t, ρ[j]? = some t ∧ s = reOwn t y) ∨ (j ≠ i ∧ ρ[j]? = some s) := by
  unfold putS at h
  split at h
  · rename_i t e
    rcases get_set h with ⟨q, z, _⟩ | ⟨n, q⟩
    · exact .inl ⟨q, t, by rw [q]; exact e, z⟩
    · exact .inr ⟨n, q⟩
  · rename_i e
    by_cases q : j = i
    · rw [q, e] at h; cases h
    · exact .inr ⟨q, h⟩
theorem putBack_get : ∀ (bs : List (Option Nat)) (ss : List Slot) (ρ : En) (j : Nat) (s : Slot), ss.length = bs.length → (bs.filterMap id).Nodup → (putBack bs ss ρ)[j]? = some s →
    (some j ∉ bs ∧ ρ[j]? = some s) ∨ ∃ k : Nat, bs[k]? = some (some j) ∧ ((∃ (y : PV) (t : Slot), ss[k]? = some (.own y) ∧ ρ[j]? = some t ∧ s = reOwn t y) ∨ s = .dead)
  | [], [], ρ, j, s, _, _, h => .inl ⟨by simp, h⟩
  | [], _ :: _, _, _, _, hl, _, _ => by simp at hl
  | _ :: _, [], _, _, _, hl, _, _ => by simp at hl
  | none :: bs, s0 :: ss, ρ, j, s, hl, nd, h => by
    have h' : (putBack bs ss ρ)[j]? = some s := by
      unfold putBack at h; exact h
    rcases putBack_get bs ss ρ j s (by simpa using hl) (by simpa using nd) h' with ⟨h1, h2⟩ | ⟨k, h1, h2⟩
    · exact .inl ⟨by simpa using h1, h2⟩
    · exact .inr ⟨k + 1, by simpa using h1, by simpa using h2⟩
  | some i :: bs, s0 :: ss, ρ, j, s, hl, nd, h => by
    simp only [List.filterMap_cons, id] at nd
    obtain ⟨ni, nd'⟩ := List.nodup_cons.mp nd
    have nib : some i ∉ bs := fun z => ni (List.mem_filterMap.mpr ⟨some i, z, rfl⟩)
    have key : ∀ ρ' : En, (∀ s : Slot, ρ'[j]? = some s → (j = i ∧ ((∃ (y : PV) (t : Slot), s0 = .own y ∧ ρ[j]? = some t ∧ s = reOwn t y) ∨ s = .dead)) ∨ (j ≠ i ∧ ρ[j]? = some s)) → (putBack bs ss ρ')[j]? = some s →
        (some j ∉ some i :: bs ∧ ρ[j]? = some s) ∨ ∃ k : Nat, (some i :: bs)[k]? = some (some j) ∧ ((∃ (y : PV) (t : Slot), (s0 :: ss)[k]? = some (.own y) ∧ ρ[j]? = some t ∧ s = reOwn t y) ∨ s = .dead) := fun ρ' hρ h' => by
      rcases putBack_get bs ss ρ' j s (by simpa using hl) nd' h' with ⟨h1, h2⟩ | ⟨k, h1, h2⟩
      · rcases hρ s h2 with ⟨e, q⟩ | ⟨e, q⟩
        · refine .inr ⟨0, by simp [e], ?_⟩
          rcases q with ⟨y, t, q1, q2, q3⟩ | q
          · exact .inl ⟨y, t, by simp [q1], q2, q3⟩
          · exact .inr q
        · exact .inl ⟨by simp only [List.mem_cons, Option.some.injEq, not_or]; exact ⟨e, h1⟩, q⟩
      · refine .inr ⟨k + 1, by simpa using h1, ?_⟩
        rcases h2 with ⟨y, t, q1, q2, q3⟩ | q
        · have hji : j ≠ i := fun z => nib (by rw [← z]; exact List.mem_of_getElem? h1)
          rcases hρ t q2 with ⟨e, _⟩ | ⟨_, q⟩
          · exact absurd e hji
          · exact .inl ⟨y, t, by simpa using q1, q, q3⟩
        · exact .inr q
    cases s0 with
    | own y =>
      refine key (putS i y ρ) (fun s e => ?_) (by unfold putBack at h; exact h)
      rcases putS_at e with ⟨q, t, q1, q2⟩ | q
      · exact .inl ⟨q, .inl ⟨y, t, rfl, q1, q2⟩⟩
      · exact .inr q
    | val z =>
      refine key (ρ.set i .dead) (fun s e => ?_) (by unfold putBack at h; exact h)
      rcases get_set e with ⟨q, z, _⟩ | q
      · exact .inl ⟨q, .inr z⟩
      · exact .inr q
    | prm z =>
      refine key (ρ.set i .dead) (fun s e => ?_) (by unfold putBack at h; exact h)
      rcases get_set e with ⟨q, z, _⟩ | q
      · exact .inl ⟨q, .inr z⟩
      · exact .inr q
    | dead =>
      refine key (ρ.set i .dead) (fun s e => ?_) (by unfold putBack at h; exact h)
      rcases get_set e with ⟨q, z, _⟩ | q
      · exact .inl ⟨q, .inr z⟩
      · exact .inr q
theorem putBack_len : ∀ (bs : List (Option Nat)) (ss : List Slot) (ρ : En), (putBack bs ss ρ).length = ρ.length
  | [], ss, ρ => by cases ss <;> rfl
  | none :: bs, [], ρ => rfl
  | some i :: bs, [], ρ => rfl
  | none :: bs, s :: ss, ρ => by
    have : putBack (none :: bs) (s :: ss) ρ = putBack bs ss ρ := by rw [putBack]
    rw [this]; exact putBack_len bs ss ρ
  | some i :: bs, s :: ss, ρ => by
    cases s with
    | own y =>
      have : putBack (some i :: bs) (.own y :: ss) ρ = putBack bs ss (putS i y ρ) := by rw [putBack]
      rw [this, putBack_len bs ss, putS_len]
    | val y => have : putBack (some i :: bs) (.val y :: ss) ρ = putBack bs ss (ρ.set i .dead) := by rw [putBack]; exact fun _ z => nomatch z
               rw [this, putBack_len bs ss]; simp
    | prm y => have : putBack (some i :: bs) (.prm y :: ss) ρ = putBack bs ss (ρ.set i .dead) := by rw [putBack]; exact fun _ z => nomatch z
               rw [this, putBack_len bs ss]; simp
    | dead => have : putBack (some i :: bs) (.dead :: ss) ρ = putBack bs ss (ρ.set i .dead) := by rw [putBack]; exact fun _ z => nomatch z
              rw [this, putBack_len bs ss]; simp
theorem rpB_at : ∀ {bs : List (Option Nat)} {xs : List PV} {vs : List V} (_ : RpB G I σ bs xs vs) {k i : Nat}, bs[k]? = some (some i) → ∃ v : V, vs[k]? = some v ∧ σ[i]? = some (some v)
  | _, _, _, .nil, k, i, e => by simp at e
  | _, _, _, .val r l, 0, i, e => by simp at e
  | _, _, _, .val r l, k + 1, i, e => by simpa using rpB_at l (k := k) (i := i) (by simpa using e)
  | _, _, _, @RpB.ref _ _ _ bs j xs v vs q l, 0, i, e => by
    have e' : j = i := by simpa using e
    subst e'
    exact ⟨v, rfl, q⟩
  | _, _, _, .ref q l, k + 1, i, e => by simpa using rpB_at l (k := k) (i := i) (by simpa using e)
theorem reOwn_own {t : Slot} {x y : PV} (ht : (∃ z, t = .own z) ∨ ∃ z, t = .prm z) (h : reOwn t y = .own x) : x = y ∧ ∃ z, t = .own z := by
  rcases ht with ⟨z, rfl⟩ | ⟨z, rfl⟩ <;> simp [reOwn] at h
  exact ⟨h.symm, z, rfl⟩
theorem reOwn_prm {t : Slot} {x y : PV} (ht : (∃ z, t = .own z) ∨ ∃ z, t = .prm z) (h : reOwn t y = .prm x) : x = y ∧ ∃ z, t = .prm z := by
  rcases ht with ⟨z, rfl⟩ | ⟨z, rfl⟩ <;> simp [reOwn] at h
  exact ⟨h.symm, z, rfl⟩
/-- behind a call: what became of the slots handed in -/
theorem xe_callR {T : List Nat} {bs : List (Option Nat)} {xs : List PV} {vs : List V} {ss' : List Slot} (r : SR G σ0 I H σ ρ) (l : RpB G I σ bs xs vs) (ho : allOwn ρ bs = true) (nd : (bs.filterMap id).Nodup) (hT : ∀ i, some i ∈ bs → i ∈ T)
    (r' : SR G [] I1 H1 (vs.map some) ss') (st : Stp I H (vs.map some) (argS ρ bs xs) I1 H1 (vs.map some) ss') : XE G σ0 T σ I H ρ I1 H1 (putBack bs ss' ρ) := by
  have el : ss'.length = bs.length := by have h1 := r'.len; rw [List.length_map] at h1; rw [← h1]; exact (argS_len (ρ := ρ) l).2.symm
  -- the kinds stay
  have kind : ∀ {j : Nat} {x : PV}, ((putBack bs ss' ρ)[j]? = some (.own x) ∨ (putBack bs ss' ρ)[j]? = some (.prm x)) →
      (some j ∉ bs ∧ (ρ[j]? = some (.own x) ∨ ρ[j]? = some (.prm x))) ∨ ∃ (k : Nat) (z : PV) (v : V), bs[k]? = some (some j) ∧ ss'[k]? = some (.own x) ∧ (ρ[j]? = some (.own z) ∨ ρ[j]? = some (.prm z)) ∧ vs[k]? = some v ∧ σ[j]? = some (some v) := by
    intro j x e
    have core : ∀ s : Slot, (putBack bs ss' ρ)[j]? = some s → (s = .own x ∨ s = .prm x) → (some j ∉ bs ∧ ρ[j]? = some s) ∨ ∃ (k : Nat) (z : PV) (v : V), bs[k]? = some (some j) ∧ ss'[k]? = some (.own x) ∧ (ρ[j]? = some (.own z) ∨ ρ[j]? = some (.prm z)) ∧ vs[k]? = some v ∧ σ[j]? = some (some v) := by
      intro s e hs
      rcases putBack_get bs ss' ρ j s el nd e with h | ⟨k, h1, h2⟩
      · exact .inl h
      · rcases h2 with ⟨y, t, q1, q2, q3⟩ | h2
        · obtain ⟨v, v1, v2⟩ := rpB_at l h1
          obtain ⟨z, hz⟩ := allOwn_at ho (List.mem_of_getElem? h1)
          have ht : (∃ z, t = .own z) ∨ ∃ z, t = .prm z := by
            rcases hz with hz | hz <;> rw [q2] at hz <;> cases hz
            · exact .inl ⟨z, rfl⟩
            · exact .inr ⟨z, rfl⟩
          have exy : x = y := by
            rcases hs with hs | hs <;> rw [hs] at q3
            · exact (reOwn_own ht q3.symm).1
            · exact (reOwn_prm ht q3.symm).1
          subst exy
          exact .inr ⟨k, z, v, h1, q1, hz, v1, v2⟩
        · rcases hs with hs | hs <;> rw [hs] at h2 <;> cases h2
    rcases e with e | e
    · rcases core _ e (.inl rfl) with ⟨h1, h2⟩ | h
      · exact .inl ⟨h1, .inl h2⟩
      · exact .inr h
    · rcases core _ e (.inr rfl) with ⟨h1, h2⟩ | h
      · exact .inl ⟨h1, .inr h2⟩
      · exact .inr h
  have apart : ∀ {j : Nat} {x : PV} {a : Addr}, some j ∉ bs → (ρ[j]? = some (.own x) ∨ ρ[j]? = some (.prm x)) → σ[j]? = some (some (.ref a)) → ¬ Ow (vs.map some) (argS ρ bs xs) a := fun {j x a} hj hx ha h => by
    obtain ⟨i, y, hi, hy, e⟩ := argS_ow l ho h
    have := r.sep j i x y a hx hy ha e
    subst this
    exact hj hi
  have sameKind : ∀ {j : Nat} {x : PV}, ((putBack bs ss' ρ)[j]? = some (.own x) → ∃ y, ρ[j]? = some (.own y)) ∧ ((putBack bs ss' ρ)[j]? = some (.prm x) → ∃ y, ρ[j]? = some (.prm y)) := by
    intro j x
    have core : ∀ s : Slot, (putBack bs ss' ρ)[j]? = some s → (s = .own x → ∃ y, ρ[j]? = some (.own y)) ∧ (s = .prm x → ∃ y, ρ[j]? = some (.prm y)) := by
      intro s e
      rcases putBack_get bs ss' ρ j s el nd e with ⟨_, h⟩ | ⟨k, h1, h2⟩
      · exact ⟨fun z => ⟨x, by rw [h, z]⟩, fun z => ⟨x, by rw [h, z]⟩⟩
      · rcases h2 with ⟨y, t, q1, q2, q3⟩ | h2
        · obtain ⟨z, hz⟩ := allOwn_at ho (List.mem_of_getElem? h1)
          have ht : (∃ z, t = .own z) ∨ ∃ z, t = .prm z := by
            rcases hz with hz | hz <;> rw [q2] at hz <;> cases hz
            · exact .inl ⟨z, rfl⟩
            · exact .inr ⟨z, rfl⟩
          refine ⟨fun z => ?_, fun z => ?_⟩
          · obtain ⟨_, w, hw⟩ := reOwn_own ht (q3.symm.trans z); exact ⟨w, by rw [q2, hw]⟩
          · obtain ⟨_, w, hw⟩ := reOwn_prm ht (q3.symm.trans z); exact ⟨w, by rw [q2, hw]⟩
        · refine ⟨fun z => ?_, fun z => ?_⟩ <;> (rw [z] at h2; cases h2)
    exact ⟨fun e => (core _ e).1 rfl, fun e => (core _ e).2 rfl⟩
  refine ⟨st.le, ⟨r'.same, by rw [putBack_len]; exact r.len, fun j x e => ?_, fun j x e => ?_, fun j x e => ?_, fun i j x y a ei ej h1 h2 => ?_, r'.tab⟩, st.dom, fun a o t e n hap => st.keep a o t e n (fun h => ?_) (fun h => argS_pm l ho h), st.tab, fun j hj => ?_, fun j x e => sameKind.1 e, fun j x e => sameKind.2 e⟩
  · rcases putBack_get bs ss' ρ j _ el nd e with ⟨_, h⟩ | ⟨k, h1, h2⟩
    · obtain ⟨v, q1, q2⟩ := r.val j x h; exact ⟨v, q1, q2.up st.le⟩
    · exfalso
      rcases h2 with ⟨y, t, q1, q2, q3⟩ | h2
      · obtain ⟨z, hz⟩ := allOwn_at ho (List.mem_of_getElem? h1)
        rcases hz with hz | hz <;> rw [q2] at hz <;> cases hz <;> simp [reOwn] at q3
      · cases h2
  · rcases kind e with ⟨h1, h2⟩ | ⟨k, z, v, h1, h2, h3, h4, h5⟩
    · obtain ⟨a, o, q1, q2, q3, q4⟩ := r.own j x h2
      obtain ⟨k1, k2⟩ := st.keep a o q4.nt q3 q2 (apart h1 h2 q1) (fun h => argS_pm l ho h)
      exact ⟨a, o, q1, k2, k1, q4.up st.le⟩
    · obtain ⟨a, o, q1, q2, q3, q4⟩ := r'.own k x (.inl h2)
      rw [List.getElem?_map, h4] at q1
      have : v = .ref a := by simpa using q1
      subst this
      exact ⟨a, o, h5, q2, q3, q4⟩
  · obtain ⟨y, hy⟩ := sameKind.2 e
    exact r.prm j y hy
  · have old : ∀ {j : Nat} {x : PV}, ((putBack bs ss' ρ)[j]? = some (.own x) ∨ (putBack bs ss' ρ)[j]? = some (.prm x)) → ∃ y, ρ[j]? = some (.own y) ∨ ρ[j]? = some (.prm y) := by
      intro j x e
      rcases e with e | e
      · obtain ⟨y, hy⟩ := sameKind.1 e; exact ⟨y, .inl hy⟩
      · obtain ⟨y, hy⟩ := sameKind.2 e; exact ⟨y, .inr hy⟩
    obtain ⟨x', hx⟩ := old ei
    obtain ⟨y', hy⟩ := old ej
    exact r.sep i j x' y' a hx hy h1 h2
  · obtain ⟨i, y, hi, hy, e3⟩ := argS_ow l ho h
    exact hap i (hT i hi) y hy e3
  · have hjb : some j ∉ bs := fun z => hj (hT j z)
    have pass : ∀ (bs : List (Option Nat)) (ss : List Slot) (ρ : En), some j ∉ bs → (putBack bs ss ρ)[j]? = ρ[j]? := by
      intro bs
      induction bs with
      | nil => intro ss ρ _; cases ss <;> rfl
      | cons b bs ih =>
        intro ss ρ hn
        have hn' : some j ∉ bs := fun z => hn (List.mem_cons_of_mem _ z)
        cases ss with
        | nil => cases b <;> rfl
        | cons s ss =>
          cases b with
          | none => have : putBack (none :: bs) (s :: ss) ρ = putBack bs ss ρ := by rw [putBack]
                    rw [this, ih ss ρ hn']
          | some i =>
            have hi : i ≠ j := fun z => hn (by rw [z]; exact List.mem_cons_self)
            have st : ∀ y : PV, (putS i y ρ)[j]? = ρ[j]? := fun y => by
              unfold putS
              split
              · rw [List.getElem?_set_ne hi]
              · rfl
            cases s with
            | own y => have : putBack (some i :: bs) (.own y :: ss) ρ = putBack bs ss (putS i y ρ) := by rw [putBack]
                       rw [this, ih ss _ hn', st]
            | val y => have : putBack (some i :: bs) (.val y :: ss) ρ = putBack bs ss (ρ.set i .dead) := by rw [putBack]; exact fun _ z => nomatch z
                       rw [this, ih ss _ hn', List.getElem?_set_ne hi]
            | prm y => have : putBack (some i :: bs) (.prm y :: ss) ρ = putBack bs ss (ρ.set i .dead) := by rw [putBack]; exact fun _ z => nomatch z
                       rw [this, ih ss _ hn', List.getElem?_set_ne hi]
            | dead => have : putBack (some i :: bs) (.dead :: ss) ρ = putBack bs ss (ρ.set i .dead) := by rw [putBack]; exact fun _ z => nomatch z
                      rw [this, ih ss _ hn', List.getElem?_set_ne hi]
    exact pass bs ss' ρ hjb
end
theorem de_callR {x : Str} {p : Pos} {e : Expr} {es : List Expr} {k n n0 : Nat} {m : FM} {A : AX} {bs : List (Option Nat)}
    (F : DFn X C k n x [] m) (hr : Room k X.A) (tk : Takes X C.W) (hlen : bs.length = n) (nd : (bs.filterMap id).Nodup) (hT : ∀ i, some i ∈ bs → i ∈ T) (ha : DAr X C T bs (e :: es) A) (hg : Gl X x := by rfl)
    (hdb : (x == ("__debug__" : Str)) = false := by decide) (he : starEach (e :: es) X.env = (false, eval e X.env) :: starEach es X.env := by rfl) (hpl : (backTo pos (starEach es X.env)).any (·.1) = false := by rfl) :
    DE X C T (.Call (.Name x p) (e :: es) [] pos) (eCallR bs n0 m A) := by
  obtain ⟨f, fd, ps, ds, F, hm, hk, hb, hd⟩ := F.ex
  refine PE.imp (pe_callSD (E := fun σ c d H => C.W c d σ H) F hr hg hm hk hb hd (fun σ => passAt tk σ) ha hdb he hpl) fun σ H Q ⟨I, ρ, sr, k⟩ => ?_
  unfold eCallR at k
  cases ho : allOwn ρ bs with
  | false => rw [ho, if_neg Bool.false_ne_true] at k; exact k.elim
  | true =>
    rw [ho, if_pos rfl] at k
    refine ⟨I, ρ, sr, fun i hi => ?_, ?_⟩
    · obtain ⟨y, hy⟩ := allOwn_at ho hi
      obtain ⟨a, o, h1, _⟩ := sr.own i y hy
      exact ⟨_, h1⟩
    · cases ea : A ρ with
      | exc c => rw [ea] at k; exact k
      | stuck => rw [ea] at k; exact k
      | ok q =>
        obtain ⟨xs, ρ1⟩ := q
        rw [ea] at k
        intro I1 H1 vs x1 l
        simp only [ok_bind] at k
        split at k
        · rename_i hc
          obtain ⟨_, ho1⟩ := hc
          have el := argS_len (ρ := ρ1) l
          refine ⟨by rw [List.append_nil]; omega, I1, argS ρ1 bs xs, ?_, ?_⟩
          · rw [List.append_nil]; exact argS_sr x1.sr l ho1 nd
          · rw [List.append_nil]
            cases em : m (argS ρ1 bs xs) with
            | stuck => rw [em] at k; exact k
            | exc c =>
              rw [em] at k
              intro I' H' xx
              refine k I' H' (x1.xx ⟨xx.le, xx.same, xx.dom, fun a o t e n hap => xx.keep a o t e n (fun h => ?_) (fun h => argS_pm l ho1 h), xx.tab⟩)
              obtain ⟨i, y, hi, hy, e3⟩ := argS_ow l ho1 h
              exact hap i (hT i hi) y hy e3
            | ok q =>
              obtain ⟨s, ss'⟩ := q
              rw [em] at k
              intro I' H' v r' st w
              exact k I' H' v (x1.trans (xe_callR x1.sr l ho1 nd hT r' st)) (w.of1 x1)
        · exact k.elim
end
end BF

set_option maxRecDepth 100000
set_option maxHeartbeats 4000000
namespace BF
open PySem PySem.Spec L2
open PyProof.Rows hiding St
set_option autoImplicit false

theorem wipe_get {σ : St} {i : Nat} : ∀ {vs : List Nat}, (wipe σ vs)[i]? = if i ∈ vs then σ[i]?.map (fun _ => none) else σ[i]?
  | [] => by simp [wipe]
  | v :: vs => by
    unfold wipe
    by_cases e : v = i
    · subst e
      have hl : (wipe σ vs).length = σ.length := wipe_length σ vs
      rw [if_pos List.mem_cons_self]
      by_cases h : v < σ.length
      · rw [List.getElem?_set_self (by omega), List.getElem?_eq_getElem h]; rfl
      · rw [List.getElem?_eq_none (by simp; omega), List.getElem?_eq_none (by omega)]; rfl
    · rw [List.getElem?_set_ne e, wipe_get (vs := vs)]
      have : (i ∈ v :: vs) ↔ i ∈ vs := by simp [Ne.symm e]
      by_cases h : i ∈ vs
      · rw [if_pos h, if_pos (this.mpr h)]
      · rw [if_neg h, if_neg (fun z => h (this.mp z))]
theorem killE_get {i : Nat} : ∀ {vs : List Nat} {ρ : En}, (killE vs ρ)[i]? = if i ∈ vs then ρ[i]?.map (fun _ => .dead) else ρ[i]?
  | [], ρ => by simp [killE]
  | v :: vs, ρ => by
    unfold killE
    rw [killE_get (vs := vs) (ρ := ρ.set v .dead)]
    · by_cases e : v = i
      · subst e
        have hs : (ρ.set v Slot.dead)[v]? = ρ[v]?.map fun _ => .dead := by
          by_cases h : v < ρ.length
          · rw [List.getElem?_set_self h, List.getElem?_eq_getElem h]; rfl
          · rw [List.getElem?_eq_none (by simpa using h), List.getElem?_eq_none (by omega)]; rfl
        rw [hs, if_pos (List.mem_cons_self (a := v) (l := vs))]
        by_cases h : v ∈ vs
        · rw [if_pos h]; cases ρ[v]? <;> rfl
        · rw [if_neg h]
      · rw [List.getElem?_set_ne e]
        have : (i ∈ v :: vs) ↔ i ∈ vs := by simp [Ne.symm e]
        by_cases h : i ∈ vs
        · rw [if_pos h, if_pos (this.mpr h)]
        · rw [if_neg h, if_neg (fun z => h (this.mp z))]
theorem killE_len : ∀ {vs : List Nat} {ρ : En}, (killE vs ρ).length = ρ.length
  | [], _ => rfl
  | v :: vs, ρ => by unfold killE; rw [killE_len]; simp
theorem SR.wipe {G : Gm} {σ0 : St} {I H : Hp} {σ : St} {ρ : En} (vs : List Nat) (r : SR G σ0 I H σ ρ) : SR G σ0 I H (L2.wipe σ vs) (killE vs ρ) := by
  have at_ : ∀ {i : Nat} {s : Slot}, (killE vs ρ)[i]? = some s → s ≠ .dead → ρ[i]? = some s ∧ (L2.wipe σ vs)[i]? = σ[i]? := by
    intro i s e n
    rw [killE_get (ρ := ρ)] at e
    by_cases h : i ∈ vs
    · rw [if_pos h] at e
      cases q : ρ[i]? with
      | none => rw [q] at e; cases e
      | some t => rw [q] at e; cases e; exact (n rfl).elim
    · rw [if_neg h] at e
      exact ⟨e, by rw [wipe_get, if_neg h]⟩
  refine ⟨r.same, by rw [wipe_length, killE_len]; exact r.len, fun i x e => ?_, fun i x e => ?_, fun i x e => ?_, fun i j x y a ei ej h1 h2 => ?_, r.tab⟩
  · obtain ⟨h1, h2⟩ := at_ e (fun z => nomatch z)
    rw [h2]; exact r.val i x h1
  · rcases e with e | e
    · obtain ⟨h1, h2⟩ := at_ e (fun z => nomatch z)
      rw [h2]; exact r.own i x (.inl h1)
    · obtain ⟨h1, h2⟩ := at_ e (fun z => nomatch z)
      rw [h2]; exact r.own i x (.inr h1)
  · obtain ⟨h1, h2⟩ := at_ e (fun z => nomatch z)
    rw [h2]; exact r.prm i x h1
  · have k1 : (ρ[i]? = some (.own x) ∨ ρ[i]? = some (.prm x)) ∧ (L2.wipe σ vs)[i]? = σ[i]? := by
      rcases ei with e | e
      · obtain ⟨h1, h2⟩ := at_ e (fun z => nomatch z); exact ⟨.inl h1, h2⟩
      · obtain ⟨h1, h2⟩ := at_ e (fun z => nomatch z); exact ⟨.inr h1, h2⟩
    have k2 : (ρ[j]? = some (.own y) ∨ ρ[j]? = some (.prm y)) ∧ (L2.wipe σ vs)[j]? = σ[j]? := by
      rcases ej with e | e
      · obtain ⟨h1, h2⟩ := at_ e (fun z => nomatch z); exact ⟨.inl h1, h2⟩
      · obtain ⟨h1, h2⟩ := at_ e (fun z => nomatch z); exact ⟨.inr h1, h2⟩
    rw [k1.2] at h1
    rw [k2.2] at h2
    exact r.sep i j x y a k1.1 k2.1 h1 h2
def mergeE : List Nat → En → En → En
  | [], _, ρc => ρc
  | v :: vs, ρ1, ρc => match ρ1[v]? with
    | some s => (mergeE vs ρ1 ρc).set v s
    | none => mergeE vs ρ1 ρc
theorem mergeE_len {ρ1 ρc : En} : ∀ {vs : List Nat}, (mergeE vs ρ1 ρc).length = ρc.length
  | [] => rfl
  | v :: vs => by unfold mergeE; split <;> simp [mergeE_len (vs := vs)]
theorem mergeE_get {ρ1 ρc : En} (hl : ρc.length = ρ1.length) {i : Nat} : ∀ {vs : List Nat}, (mergeE vs ρ1 ρc)[i]? = if i ∈ vs then ρ1[i]? else ρc[i]?
  | [] => by simp [mergeE]
  | v :: vs => by
    have ih := mergeE_get hl (i := i) (vs := vs)
    unfold mergeE
    by_cases e : v = i
    · subst e
      rw [if_pos List.mem_cons_self]
      split
      · rename_i s h
        rw [List.getElem?_set_self (by rw [mergeE_len, hl]; exact (List.getElem?_eq_some_iff.mp h).1), h]
      · rename_i h
        rw [ih]
        split
        · rfl
        · rw [h, List.getElem?_eq_none]; rw [hl]; exact List.getElem?_eq_none_iff.mp h
    · have : (i ∈ v :: vs) ↔ i ∈ vs := by simp [Ne.symm e]
      have e2 : (if i ∈ v :: vs then ρ1[i]? else ρc[i]?) = if i ∈ vs then ρ1[i]? else ρc[i]? := by
        by_cases h : i ∈ vs
        · rw [if_pos h, if_pos (this.mpr h)]
        · rw [if_neg h, if_neg (fun z => h (this.mp z))]
      rw [e2]
      split
      · rw [List.getElem?_set_ne e]; exact ih
      · exact ih
def noX {α : Type} : Res α → Res α
  | .exc _ => .stuck
  | m => m
def loopC (vs : List Nat) (t : GX) (B : BX) (E : PX) : List PV → List PV → En → Res (List PV × En)
  | [], acc, ρ => .ok (acc, ρ)
  | x :: xs, acc, ρ => match t x (killE vs ρ) with
    | .ok ρ' => noX (B ρ') >>= fun p => if p.1 = true then noX (E p.2) >>= fun q => if acc.length < sizeLine then loopC vs t B E xs (acc ++ [q.1.pv]) q.2 else .stuck else loopC vs t B E xs acc p.2
    | _ => .stuck
def noOwn (vs : List Nat) (ρ : En) : Bool := vs.all fun i => match ρ[i]? with
  | some (.own _) => false
  | some (.prm _) => false
  | _ => true
def eLc (vs : List Nat) (F : AX) (t : GX) (B : BX) (E : PX) : PX := fun ρ => F ρ >>= fun p => if noOwn vs p.2 = true then loopC vs t B E p.1 [] p.2 >>= fun q => .ok (.own (.lst q.1), mergeE vs p.2 q.2) else .stuck
def bYes : BX := fun ρ => .ok (true, ρ)
abbrev Wn : WX := fun _ _ _ _ => False
theorem noOwn_at {vs : List Nat} {ρ : En} {i : Nat} {x : PV} (h : noOwn vs ρ = true) (hi : i ∈ vs) : ρ[i]? ≠ some (.own x) ∧ ρ[i]? ≠ some (.prm x) := by
  have := List.all_eq_true.mp h i hi
  refine ⟨fun e => ?_, fun e => ?_⟩ <;> rw [e] at this <;> cases this
/-- a comprehension's state between two turns -/
structure LcSt (G : Gm) (σ0 : St) (T vs : List Nat) (σ : St) (I1 H1 : Hp) (ρ1 : En) (D : Addr) (acc : List PV) (I H : Hp) (ρ : En) : Prop where
  sr : SR G σ0 I H (wipe σ vs) (killE vs ρ)
  len : ρ.length = ρ1.length
  le : Same I1 I
  list : ∃ us, H D = some (.lst us) ∧ RpL G I acc us
  free : I D = none
  dom : ∀ a, H a = none → H1 a = none
  keep : ∀ a o, NT o → H1 a = some o → I1 a = none → Apart T σ ρ1 a → H a = some o ∧ I a = none
  tab : TabsE I1 H1 I H
  eq : ∀ i, i ∉ T → i ∉ vs → ρ[i]? = ρ1[i]?
  own : ∀ (i : Nat) (x : PV), i ∉ vs → ρ[i]? = some (.own x) → ∃ y, ρ1[i]? = some (.own y)
  prm : ∀ (i : Nat) (x : PV), i ∉ vs → ρ[i]? = some (.prm x) → ∃ y, ρ1[i]? = some (.prm y)
section
variable {G : Gm} {σ0 : St} {T vs : List Nat} {σ σ2 : St} {I1 H1 I H I2 H2 : Hp} {ρ1 ρ ρ2 ρ3 : En} {D : Addr} {acc : List PV}
theorem wipe_off {js : List Nat} (h : Off js (wipe σ vs) σ2) (hj : ∀ i ∈ js, i ∈ vs) : wipe σ2 vs = wipe σ vs := List.ext_getElem? fun i => by
  rw [wipe_get, wipe_get]
  by_cases hi : i ∈ vs
  · rw [if_pos hi, if_pos hi]
    have hl : σ2.length = σ.length := by rw [h.1, wipe_length]
    by_cases e : i < σ.length
    · rw [List.getElem?_eq_getElem (by omega), List.getElem?_eq_getElem e]; rfl
    · rw [List.getElem?_eq_none (by omega), List.getElem?_eq_none (by omega)]
  · rw [if_neg hi, if_neg hi, h.2 i fun z => hi (hj i z), wipe_get, if_neg hi]
/-- what the target's store leaves: ρ2 differs from the wiped one at vs alone -/
theorem Apart.lc (s : LcSt G σ0 T vs σ I1 H1 ρ1 D acc I H ρ) (no : noOwn vs ρ1 = true) {a : Addr} (h : Apart T σ ρ1 a) {js : List Nat} (of : Off js (wipe σ vs) σ2) (hj : ∀ i ∈ js, i ∈ vs) (hρ : ∀ i, i ∉ vs → ρ2[i]? = (killE vs ρ)[i]?)
    (ho : ∀ i ∈ vs, ∀ x, ρ2[i]? ≠ some (.own x) ∧ ρ2[i]? ≠ some (.prm x)) : Apart T σ2 ρ2 a := fun i hi y e q => by
  have niv : i ∉ vs := fun z => by rcases e with e | e; exact (ho i z y).1 e; exact (ho i z y).2 e
  have e' : ρ[i]? = some (.own y) ∨ ρ[i]? = some (.prm y) := by
    have := hρ i niv
    rw [killE_get (ρ := ρ), if_neg niv] at this
    rw [this] at e; exact e
  have hs : σ2[i]? = σ[i]? := by rw [of.2 i fun z => niv (hj i z), wipe_get, if_neg niv]
  rw [hs] at q
  rcases e' with e' | e'
  · obtain ⟨z, hz⟩ := s.own i y niv e'; exact h i hi z (.inl hz) q
  · obtain ⟨z, hz⟩ := s.prm i y niv e'; exact h i hi z (.inr hz) q
/-- a target: it changes js alone, to frozen data -/
structure Tg (js : List Nat) (t : GX) : Prop where
  len : ∀ x ρ ρ', t x ρ = .ok ρ' → ρ'.length = ρ.length
  off : ∀ x ρ ρ', t x ρ = .ok ρ' → ∀ i, i ∉ js → ρ'[i]? = ρ[i]?
  val : ∀ x ρ ρ', t x ρ = .ok ρ' → ∀ i, i ∈ js → ∀ s, ρ'[i]? = some s → ∃ y, s = .val y
structure Tgs (js : List Nat) (t : GXs) : Prop where
  len : ∀ x ρ ρ', t x ρ = .ok ρ' → ρ'.length = ρ.length
  off : ∀ x ρ ρ', t x ρ = .ok ρ' → ∀ i, i ∉ js → ρ'[i]? = ρ[i]?
  val : ∀ x ρ ρ', t x ρ = .ok ρ' → ∀ i, i ∈ js → ∀ s, ρ'[i]? = some s → ∃ y, s = .val y
theorem tg_n {i : Nat} : Tg [i] (gN i) where
  len := fun x ρ ρ' h => by cases h; simp
  off := fun x ρ ρ' h j hj => by cases h; rw [List.getElem?_set_ne]; intro z; exact hj (by simp [z])
  val := fun x ρ ρ' h j hj s e => by
    cases h
    have : j = i := by simpa using hj
    subst this
    rcases get_set e with ⟨_, z, _⟩ | ⟨n, _⟩
    · exact ⟨x, z⟩
    · exact (n rfl).elim
theorem tgs_nil : Tgs [] gsNil where
  len := fun x ρ ρ' h => by cases x <;> cases h; rfl
  off := fun x ρ ρ' h j _ => by cases x <;> cases h; rfl
  val := fun x ρ ρ' h j hj => by cases hj
theorem tgs_cons {js ks : List Nat} {t : GX} {u : GXs} (a : Tg js t) (b : Tgs ks u) : Tgs (js ++ ks) (gsCons t u) := by
  have key : ∀ x ρ ρ', gsCons t u x ρ = .ok ρ' → ∃ y r ρ1, x = y :: r ∧ t y ρ = .ok ρ1 ∧ u r ρ1 = .ok ρ' := fun x ρ ρ' h => by
    cases x with
    | nil => cases h
    | cons y r =>
      unfold gsCons at h
      dsimp only at h
      cases e : t y ρ with
      | ok ρ1 => rw [e] at h; exact ⟨y, r, ρ1, rfl, e, h⟩
      | exc c => rw [e] at h; cases h
      | stuck => rw [e] at h; cases h
  refine ⟨fun x ρ ρ' h => ?_, fun x ρ ρ' h i hi => ?_, fun x ρ ρ' h i hi s e => ?_⟩ <;> obtain ⟨y, r, ρ1, rfl, h1, h2⟩ := key x ρ ρ' h
  · rw [b.len _ _ _ h2, a.len _ _ _ h1]
  · rw [b.off _ _ _ h2 i fun z => hi (List.mem_append_right _ z), a.off _ _ _ h1 i fun z => hi (List.mem_append_left _ z)]
  · by_cases hk : i ∈ ks
    · exact b.val _ _ _ h2 i hk s e
    · rw [b.off _ _ _ h2 i hk] at e
      exact a.val _ _ _ h1 i ((List.mem_append.mp hi).resolve_right hk) s e
theorem tg_t {js : List Nat} {u : GXs} {n : Nat} (a : Tgs js u) : Tg js (gT n u) := by
  have key : ∀ x ρ ρ', gT n u x ρ = .ok ρ' → ∃ xs, x = .tup xs ∧ u xs ρ = .ok ρ' := fun x ρ ρ' h => by
    cases x with
    | tup xs =>
      unfold gT at h
      dsimp only at h
      split at h
      · exact ⟨xs, rfl, h⟩
      · cases h
    | _ => cases h
  refine ⟨fun x ρ ρ' h => ?_, fun x ρ ρ' h i hi => ?_, fun x ρ ρ' h i hi s e => ?_⟩ <;> obtain ⟨xs, rfl, h1⟩ := key x ρ ρ' h
  · exact a.len _ _ _ h1
  · exact a.off _ _ _ h1 i hi
  · exact a.val _ _ _ h1 i hi s e
section
variable {G : Gm} {σ0 : St} {T vs : List Nat} {σ : St} {I H : Hp} {ρ : En}
theorem SR.off {D : Addr} {o : HO} (r : SR G σ0 I H σ ρ) (n : I D = none) (h : ∀ (j : Nat) (y : PV), ρ[j]? = some (.own y) ∨ ρ[j]? = some (.prm y) → σ[j]? ≠ some (some (.ref D))) (ht : TabsE I H I (upd H D o)) : SR G σ0 I (upd H D o) σ ρ :=
  ⟨same_upd_r r.same n, r.len, r.val, fun j y e => by
    obtain ⟨a, u, h1, h2, h3, h4⟩ := r.own j y e
    exact ⟨a, u, h1, h2, by rw [upd_ne fun z => h j y e (by rw [h1, z])]; exact h3, h4⟩, r.prm, r.sep, ht.tabs r.tab⟩
end
section
variable {X : Cx} {C : Dc} {T : List Nat} {pos : Pos}
theorem tLc_at {vs js : List Nat} {F : AX} {t : GX} {B : BX} {E : PX} {wi : TI} {I H : Hp} {σ : St} {ρ : En} {Q : VK} (hj : ∀ i ∈ js, i ∈ vs) (ht : Tg js t) (sr : SR C.G C.σ0 I H σ ρ) (k : tK C.G C.σ0 C.W T σ I H ρ Q (eLc vs F t B E ρ)) (hwi : ∀ R, tIt C.G C.σ0 C.W T σ I H ρ R (F ρ) → wi σ H R) :
    tLc wi (gD C.G C.σ0 js t) (tT C.G C.σ0 Wn T B) (tX C.G C.σ0 Wn T E) vs σ H Q := by
  refine hwi _ ?_
  unfold eLc at k
  cases eF : F ρ with
  | exc c => rw [eF] at k; exact k
  | stuck => rw [eF] at k; exact k
  | ok q =>
    obtain ⟨xs, ρ1⟩ := q
    rw [eF] at k
    simp only [ok_bind] at k
    intro I1 H1 J x1 its D hD
    cases no : noOwn vs ρ1 with
    | false => rw [no, if_neg Bool.false_ne_true] at k; exact k.elim
    | true =>
    rw [no, if_pos rfl] at k
    have hD0 : Apart T σ ρ1 D := fun i _ y e q => by
      obtain ⟨a, h1, h2⟩ := x1.sr.tracked i y e
      rw [q] at h1; cases h1
      exact h2 hD
    let Wd : Nat → Hp → Prop := fun i H' => ∃ I' ρc acc, LcSt C.G C.σ0 T vs σ I1 H1 ρ1 D acc I' H' ρc ∧ tK C.G C.σ0 C.W T σ I H ρ Q (loopC vs t B E (xs.drop i) acc ρc >>= fun q => .ok (.own (.lst q.1), mergeE vs ρ1 q.2))
    refine ⟨fun i m H' => m = xs.length - i ∧ i ≤ xs.length ∧ Wd i H', ⟨xs.length, by simp, Nat.zero_le _, I1, ρ1, [], ?_, k⟩, ?_⟩
    · exact ⟨(x1.sr.ext (Ext.new x1.same hD)).wipe vs, rfl, Same.refl _, ⟨[], upd_same, .nil⟩, same_none x1.same hD, fun a e => by
        unfold upd at e
        split at e
        · cases e
        · exact e, fun a o _ e n _ => ⟨by rw [upd_ne (ne_of_none e hD)]; exact e, n⟩, TabsE.new hD, fun _ _ _ => rfl, fun i x _ e => ⟨x, e⟩, fun i x _ e => ⟨x, e⟩⟩
    · rintro i m H2 ⟨rfl, hi, I2, ρ2, acc, s, k2⟩
      obtain ⟨us, hus, lus⟩ := s.list
      by_cases hl : i < xs.length
      · refine .inr ⟨its.go i I2 H2 hl s.le s.sr.same, Wd (i + 1), fun H' w => ⟨xs.length - (i + 1), by omega, rfl, hl, w⟩, fun v H3 y => ?_⟩
        obtain ⟨I3, x, x3, ex, p⟩ := its.yld i I2 H2 v H3 hl s.le s.sr.same y
        have ed : xs.drop i = x :: xs.drop (i + 1) := by
          rw [List.drop_eq_getElem_cons hl]
          rw [List.getElem?_eq_getElem hl] at ex
          cases ex; rfl
        rw [ed] at k2
        unfold loopC at k2
        refine ⟨I3, killE vs ρ2, x, s.sr.ext x3, p, ?_⟩
        cases et : t x (killE vs ρ2) with
        | exc c => rw [et] at k2; exact k2.elim
        | stuck => rw [et] at k2; exact k2.elim
        | ok ρ3 =>
          rw [et] at k2
          intro σ3 r3 _ of3
          have ew := wipe_off of3 hj
          refine ⟨ew, I3, ρ3, r3, ?_⟩
          have hρ : ∀ i, i ∉ vs → ρ3[i]? = (killE vs ρ2)[i]? := fun i hi => ht.off _ _ _ et i fun z => hi (hj i z)
          have hρ' : ∀ i, i ∉ vs → ρ3[i]? = ρ2[i]? := fun i hi => by rw [hρ i hi, killE_get, if_neg hi]
          have hown : ∀ i ∈ vs, ∀ x, ρ3[i]? ≠ some (.own x) ∧ ρ3[i]? ≠ some (.prm x) := fun i hi x => by
            by_cases hij : i ∈ js
            · refine ⟨fun e => ?_, fun e => ?_⟩ <;> obtain ⟨y, hy⟩ := ht.val _ _ _ et i hij _ e <;> cases hy
            · have e0 := ht.off _ _ _ et i hij
              rw [killE_get, if_pos hi] at e0
              refine ⟨fun e => ?_, fun e => ?_⟩ <;> rw [e0] at e <;> cases q : ρ2[i]? <;> rw [q] at e <;> cases e
          have ap : ∀ {a : Addr}, Apart T σ ρ1 a → Apart T σ3 ρ3 a := fun h => Apart.lc s no h of3 hj hρ hown
          simp only at k2
          cases eB : B ρ3 with
          | exc c => rw [eB] at k2; exact k2.elim
          | stuck => rw [eB] at k2; exact k2.elim
          | ok q =>
            obtain ⟨b, ρ4⟩ := q
            rw [eB] at k2
            intro I4 H4 x4
            have keep4 : ∀ a o, NT o → H1 a = some o → I1 a = none → Apart T σ ρ1 a → H4 a = some o ∧ I4 a = none := fun a o t e n h => by
              obtain ⟨e1, n1⟩ := s.keep a o t e n h
              obtain ⟨e2, n2⟩ := x3.keep a o t e1 n1
              exact x4.keep a o t e2 n2 (ap h)
            have tab4 : TabsE I1 H1 I4 H4 := s.tab.trans (x3.tab.trans x4.tab)
            obtain ⟨d1, d2⟩ := x3.keep D _ nt_lst hus s.free
            obtain ⟨d3, d4⟩ := x4.keep D _ nt_lst d1 d2 (ap hD0)
            have len4 : ρ4.length = ρ1.length := by
              rw [← x4.sr.len, r3.len, ht.len _ _ _ et, killE_len, s.len]
            have dom4 : ∀ a, H4 a = none → H1 a = none := fun a h => s.dom a (x3.dom s.sr.same (x4.dom a h))
            have eq4 : ∀ i, i ∉ T → i ∉ vs → ρ4[i]? = ρ1[i]? := fun i h1 h2 => by rw [x4.eq i h1, hρ' i h2, s.eq i h1 h2]
            have own4 : ∀ (i : Nat) (x : PV), i ∉ vs → ρ4[i]? = some (.own x) → ∃ y, ρ1[i]? = some (.own y) := fun i x h e => by
              obtain ⟨y, e1⟩ := x4.own i x e
              rw [hρ' i h] at e1
              exact s.own i y h e1
            have prm4 : ∀ (i : Nat) (x : PV), i ∉ vs → ρ4[i]? = some (.prm x) → ∃ y, ρ1[i]? = some (.prm y) := fun i x h e => by
              obtain ⟨y, e1⟩ := x4.prm i x e
              rw [hρ' i h] at e1
              exact s.prm i y h e1
            cases b with
            | false =>
              rw [if_neg Bool.false_ne_true]
              have k3 : tK C.G C.σ0 C.W T σ I H ρ Q (loopC vs t B E (xs.drop (i + 1)) acc ρ4 >>= fun q => .ok (.own (.lst q.1), mergeE vs ρ1 q.2)) := by simpa [noX] using k2
              refine ⟨I4, ρ4, acc, ⟨?_, len4, s.le.trans (x3.le.trans x4.le), ⟨us, d3, lus.up (x3.le.trans x4.le)⟩, d4, dom4, keep4, tab4, eq4, own4, prm4⟩, k3⟩
              have := x4.sr.wipe vs
              rw [ew] at this; exact this
            | true =>
              rw [if_pos rfl]
              have k3 : tK C.G C.σ0 C.W T σ I H ρ Q ((noX (E ρ4) >>= fun q => if acc.length < sizeLine then loopC vs t B E (xs.drop (i + 1)) (acc ++ [q.1.pv]) q.2 else .stuck) >>= fun q => .ok (.own (.lst q.1), mergeE vs ρ1 q.2)) := by simpa [noX] using k2
              refine ⟨I4, ρ4, x4.sr, ?_⟩
              cases eE : E ρ4 with
              | exc c => rw [eE] at k3; exact k3.elim
              | stuck => rw [eE] at k3; exact k3.elim
              | ok q =>
                obtain ⟨sl, ρ5⟩ := q
                rw [eE] at k3
                intro I5 H5 y5 x5 w5
                obtain ⟨I6, x6, le6, p6⟩ := x5.frz x4.sr w5
                have k4 : tK C.G C.σ0 C.W T σ I H ρ Q ((if acc.length < sizeLine then loopC vs t B E (xs.drop (i + 1)) (acc ++ [sl.pv]) ρ5 else .stuck) >>= fun q => .ok (.own (.lst q.1), mergeE vs ρ1 q.2)) := by simpa [noX] using k3
                by_cases hz : acc.length < sizeLine
                · rw [if_pos hz] at k4
                  obtain ⟨g1, g2⟩ := x6.keep D _ nt_lst d3 d4 (x4.apart (ap hD0))
                  have le16 : Same I2 I6 := x3.le.trans (x4.le.trans x6.le)
                  have nD : ∀ (j : Nat) (y : PV), (killE vs ρ5)[j]? = some (.own y) ∨ (killE vs ρ5)[j]? = some (.prm y) → (wipe σ vs)[j]? ≠ some (some (.ref D)) := fun j y e q => by
                    have hjv : j ∉ vs := fun z => by
                      rw [killE_get, if_pos z] at e
                      rcases e with e | e <;> cases q : ρ5[j]? <;> rw [q] at e <;> cases e
                    rw [killE_get, if_neg hjv] at e
                    rw [wipe_get, if_neg hjv] at q
                    have e' : ∃ y, ρ1[j]? = some (.own y) ∨ ρ1[j]? = some (.prm y) := by
                      rcases e with e | e
                      · obtain ⟨z, e⟩ := x6.own j y e; obtain ⟨z, e⟩ := own4 j z hjv e; exact ⟨z, .inl e⟩
                      · obtain ⟨z, e⟩ := x6.prm j y e; obtain ⟨z, e⟩ := prm4 j z hjv e; exact ⟨z, .inr e⟩
                    obtain ⟨z, e'⟩ := e'
                    obtain ⟨a, h1, h2⟩ := x1.sr.tracked j z e'
                    rw [q] at h1; cases h1
                    exact h2 hD
                  have srw := x6.sr.wipe vs
                  rw [ew] at srw
                  refine ⟨us, g1, by rw [← lus.length]; exact hz, I6, ρ5, acc ++ [sl.pv], ⟨srw.off g2 nD (Pl.put (.inl ⟨_, rfl⟩) g1), ?_, s.le.trans le16, ⟨_, upd_same, (lus.up le16).append (.one p6)⟩, g2, fun a e => ?_, fun a o nt e n h => ?_, tab4.trans (x6.tab.trans (Pl.put (.inl ⟨_, rfl⟩) g1)), fun i h1 h2 => ?_, fun i x h e => ?_, fun i x h e => ?_⟩, k4⟩
                  · rw [← x6.sr.len, x4.sr.len]; exact len4
                  · unfold upd at e
                    split at e
                    · cases e
                    · exact dom4 a (x6.dom a e)
                  · obtain ⟨e1, n1⟩ := keep4 a o nt e n h
                    obtain ⟨e2, n2⟩ := x6.keep a o nt e1 n1 (x4.apart (ap h))
                    exact ⟨by rw [upd_ne (ne_of_none e hD)]; exact e2, n2⟩
                  · rw [x6.eq i h1]; exact eq4 i h1 h2
                  · obtain ⟨z, e⟩ := x6.own i x e; exact own4 i z h e
                  · obtain ⟨z, e⟩ := x6.prm i x e; exact prm4 i z h e
                · rw [if_neg hz] at k4; exact k4.elim
      · -- the end
        refine .inl ⟨its.stop i I2 H2 (by omega) s.le s.sr.same, ?_⟩
        rw [List.drop_eq_nil_of_le (by omega)] at k2
        have k3 : tK C.G C.σ0 C.W T σ I H ρ Q (.ok (.own (.lst acc), mergeE vs ρ1 ρ2)) := k2
        have mg : ∀ i, (mergeE vs ρ1 ρ2)[i]? = if i ∈ vs then ρ1[i]? else ρ2[i]? := fun i => mergeE_get s.len
        have inner : ∀ {i : Nat} {sl : Slot}, i ∉ vs → ρ2[i]? = some sl → (killE vs ρ2)[i]? = some sl ∧ (wipe σ vs)[i]? = σ[i]? := fun {i sl} h e => ⟨by rw [killE_get, if_neg h]; exact e, by rw [wipe_get, if_neg h]⟩
        have owns : ∀ {i : Nat} {x : PV}, ((mergeE vs ρ1 ρ2)[i]? = some (.own x) ∨ (mergeE vs ρ1 ρ2)[i]? = some (.prm x)) → i ∉ vs ∧ (ρ2[i]? = some (.own x) ∨ ρ2[i]? = some (.prm x)) := fun {i x} e => by
          rw [mg i] at e
          by_cases h : i ∈ vs
          · rw [if_pos h] at e
            rcases e with e | e
            · exact ((noOwn_at no h).1 e).elim
            · exact ((noOwn_at no h).2 e).elim
          · rw [if_neg h] at e; exact ⟨h, e⟩
        refine k3 I2 H2 (.ref D) (x1.trans ⟨s.le, ⟨s.sr.same, ?_, fun i x e => ?_, fun i x e => ?_, fun i x e => ?_, fun i j x y a ei ej h1 h2 => ?_, s.sr.tab⟩, s.dom, s.keep, s.tab, fun i h => ?_, fun i x e => ?_, fun i x e => ?_⟩) ⟨D, _, rfl, x1.dom D hD, s.free, hus, us, rfl, lus⟩
        · rw [mergeE_len, s.len]; exact x1.sr.len
        · rw [mg i] at e
          by_cases h : i ∈ vs
          · rw [if_pos h] at e
            obtain ⟨v, h1, h2⟩ := x1.sr.val i x e
            exact ⟨v, h1, h2.up s.le⟩
          · rw [if_neg h] at e
            obtain ⟨e1, e2⟩ := inner h e
            rw [← e2]; exact s.sr.val i x e1
        · obtain ⟨h, e⟩ := owns e
          have hw : (wipe σ vs)[i]? = σ[i]? := by rw [wipe_get, if_neg h]
          rw [← hw]
          rcases e with e | e
          · exact s.sr.own i x (.inl (inner h e).1)
          · exact s.sr.own i x (.inr (inner h e).1)
        · obtain ⟨h, _⟩ := owns (.inr e)
          rw [mg i, if_neg h] at e
          obtain ⟨e1, e2⟩ := inner h e
          rw [← e2]; exact s.sr.prm i x e1
        · obtain ⟨n1, q1⟩ := owns ei
          obtain ⟨n2, q2⟩ := owns ej
          have w1 : (wipe σ vs)[i]? = σ[i]? := by rw [wipe_get, if_neg n1]
          have w2 : (wipe σ vs)[j]? = σ[j]? := by rw [wipe_get, if_neg n2]
          refine s.sr.sep i j x y a ?_ ?_ (by rw [w1]; exact h1) (by rw [w2]; exact h2)
          · rcases q1 with q | q
            · exact .inl (inner n1 q).1
            · exact .inr (inner n1 q).1
          · rcases q2 with q | q
            · exact .inl (inner n2 q).1
            · exact .inr (inner n2 q).1
        · rw [mg i]
          by_cases hv : i ∈ vs
          · rw [if_pos hv]
          · rw [if_neg hv]; exact s.eq i h hv
        · obtain ⟨h, _⟩ := owns (.inl e)
          rw [mg i, if_neg h] at e
          exact s.own i x h e
        · obtain ⟨h, _⟩ := owns (.inr e)
          rw [mg i, if_neg h] at e
          exact s.prm i x h e
theorem tLc_of {vs js : List Nat} {F : AX} {t : GX} {B : BX} {E : PX} (hj : ∀ i ∈ js, i ∈ vs) (ht : Tg js t) (σ : St) (H : Hp) (Q : VK) (h : tX C.G C.σ0 C.W T (eLc vs F t B E) σ H Q) :
    tLc (tI C.G C.σ0 C.W T F) (gD C.G C.σ0 js t) (tT C.G C.σ0 Wn T B) (tX C.G C.σ0 Wn T E) vs σ H Q := by
  obtain ⟨I, ρ, sr, k⟩ := h
  exact tLc_at hj ht sr k fun R h => ⟨I, ρ, sr, h⟩
/-- the context of a comprehension's block -/
abbrev Dc.blk (C : Dc) : Dc := ⟨C.G, C.σ0, Wn⟩
theorem dt_yes {X : Cx} {C : Dc} {T : List Nat} : PTs X [] (tT C.G C.σ0 C.W T bYes) := ⟨fun pins s σ H Q I ⟨J, ρ, r, k⟩ => pts_nil.run pins s σ H Q I (k J H (.refl r))⟩
theorem dt_one {X : Cx} {C : Dc} {T : List Nat} {c : Expr} {B : BX} (h : DT X C T c B) : PTs X [c] (tT C.G C.σ0 C.W T B) := pts_one h
theorem de_lc {elt tg iter : Expr} {ifs : List Expr} {scope : Scope} {own : List (Str × Nat)} {js : List Nat} {F : AX} {t : GX} {B : BX} {E : PX} (hc : X.calm = true) (hN : X.N.Nodup) (ok : BlkOk X.N X.env.scope scope own) (hj : ∀ i ∈ js, i ∈ own.map (·.2)) (ht : Tg js t) (hi : DI X C T tg iter F)
    (hg : ∀ (s : Shared) (H : Hp) (L : Addr) (cl : List (Str × Addr)) (fp : List Addr), DG (X.blk s H scope (compEnvC scope cl L X.env) fp) C.blk js tg t)
    (hb : ∀ (s : Shared) (H : Hp) (L : Addr) (cl : List (Str × Addr)) (fp : List Addr), PTs (X.blk s H scope (compEnvC scope cl L X.env) fp) ifs (tT C.G C.σ0 Wn T B))
    (he : ∀ (s : Shared) (H : Hp) (L : Addr) (cl : List (Str × Addr)) (fp : List Addr), DE (X.blk s H scope (compEnvC scope cl L X.env) fp) C.blk T elt E) (hs : ∀ x, foldedSetIterable iter X.env x = pure x := by intro _; rfl) :
    DE X C T (.ListComp elt [⟨tg, iter, ifs, 0⟩] scope pos) (eLc (own.map (·.2)) F t B E) :=
  PE.imp (pe_lc hc hN hi ok hg hb he hs) (tLc_of hj ht)
theorem ds_setLc {i : Nat} {y : Str} {py spos : Pos} {elt tg iter : Expr} {ifs : List Expr} {scope : Scope} {own : List (Str × Nat)} {js : List Nat} {F : AX} {t : GX} {B : BX} {E : PX} (hc : X.calm = true) (hN : X.N.Nodup) (ok : BlkOk X.N X.env.scope scope own) (hj : ∀ i ∈ js, i ∈ own.map (·.2)) (ht : Tg js t)
    (hi : DI X C T tg iter F)
    (hg : ∀ (s : Shared) (H : Hp) (L : Addr) (cl : List (Str × Addr)) (fp : List Addr), DG (X.blk s H scope (compEnvC scope cl L X.env) fp) C.blk js tg t)
    (hb : ∀ (s : Shared) (H : Hp) (L : Addr) (cl : List (Str × Addr)) (fp : List Addr), PTs (X.blk s H scope (compEnvC scope cl L X.env) fp) ifs (tT C.G C.σ0 Wn T B))
    (he : ∀ (s : Shared) (H : Hp) (L : Addr) (cl : List (Str × Addr)) (fp : List Addr), DE (X.blk s H scope (compEnvC scope cl L X.env) fp) C.blk T elt E)
    (hsw : swapsWith (.ListComp elt [⟨tg, iter, ifs, 0⟩] scope pos) (some (.Name y py)) spos.line X.env = pure true) (hy : X.N[i]? = some y := by rfl) (hyl : X.env.scope.names.lookup y = some .local := by rfl) (hs : ∀ x, foldedSetIterable iter X.env x = pure x := by intro _; rfl) :
    DS X C (.Assign [.Name y py] (.ListComp elt [⟨tg, iter, ifs, 0⟩] scope pos) spos) (sSet i (eLc (own.map (·.2)) F t B E)) :=
  PS.imp (ps_setLc hc hN hy hyl hsw hi ok hg hb he hs) (tAsg_set (T := T) (tLc_of hj ht))
theorem ds_setOLc {i : Nat} {y : Str} {py spos : Pos} {elt tg iter : Expr} {ifs : List Expr} {scope : Scope} {own : List (Str × Nat)} {js : List Nat} {F : AX} {t : GX} {B : BX} {E : PX} (hc : X.calm = true) (hN : X.N.Nodup) (ok : BlkOk X.N X.env.scope scope own) (hj : ∀ i ∈ js, i ∈ own.map (·.2)) (ht : Tg js t)
    (hi : DI X C T tg iter F)
    (hg : ∀ (s : Shared) (H : Hp) (L : Addr) (cl : List (Str × Addr)) (fp : List Addr), DG (X.blk s H scope (compEnvC scope cl L X.env) fp) C.blk js tg t)
    (hb : ∀ (s : Shared) (H : Hp) (L : Addr) (cl : List (Str × Addr)) (fp : List Addr), PTs (X.blk s H scope (compEnvC scope cl L X.env) fp) ifs (tT C.G C.σ0 Wn T B))
    (he : ∀ (s : Shared) (H : Hp) (L : Addr) (cl : List (Str × Addr)) (fp : List Addr), DE (X.blk s H scope (compEnvC scope cl L X.env) fp) C.blk T elt E)
    (hsw : swapsWith (.ListComp elt [⟨tg, iter, ifs, 0⟩] scope pos) (some (.Name y py)) spos.line X.env = pure true) (hy : X.N[i]? = some y := by rfl) (hyl : X.env.scope.names.lookup y = some .local := by rfl) (hs : ∀ x, foldedSetIterable iter X.env x = pure x := by intro _; rfl) :
    DS X C (.Assign [.Name y py] (.ListComp elt [⟨tg, iter, ifs, 0⟩] scope pos) spos) (sSetO i (eLc (own.map (·.2)) F t B E)) :=
  PS.imp (ps_setLc hc hN hy hyl hsw hi ok hg hb he hs) (tAsg_setO (T := T) (tLc_of hj ht))

def iX (f : PV → Res (List PV)) (E : PX) : AX := fun ρ => E ρ >>= fun p => f p.1.pv >>= fun xs => .ok (xs, p.2)
theorem tI_of {E : PX} {f : PV → Res (List PV)} (σ : St) (H : Hp) (R : It → Hp → Prop) (h : tI C.G C.σ0 C.W T (iX f E) σ H R)
    {t : (It → Hp → Prop) → V → Hp → Prop} (hf : ∀ (I' H' : Hp) (x : PV) (v : V) (xs : List PV), Same I' H' → Rp C.G I' x v → f x = .ok xs → ∃ J, ItD C.G I' J xs ∧ ∀ R, R J H' → t R v H')
    (hexc : ∀ x c, f x ≠ .exc c) : tX C.G C.σ0 C.W T E σ H (fun v H' => t R v H') := by
  obtain ⟨I, ρ, r, k⟩ := h
  refine ⟨I, ρ, r, ?_⟩
  unfold iX at k
  cases e : E ρ with
  | exc c => rw [e] at k; exact k
  | stuck => rw [e] at k; exact k
  | ok p =>
    obtain ⟨s, ρ1⟩ := p
    rw [e] at k
    simp only [ok_bind] at k
    intro I1 H1 v x w
    obtain ⟨I2, x2, _, p2⟩ := x.frz r w
    cases ef : f s.pv with
    | exc c => exact (hexc _ _ ef).elim
    | stuck => rw [ef] at k; exact k.elim
    | ok xs =>
      rw [ef] at k
      obtain ⟨J, hJ, ht⟩ := hf I2 H1 s.pv v xs x2.same p2 ef
      exact ht _ (k I2 H1 J x2 hJ)
/-- over a list -/
def fLst : PV → Res (List PV)
  | .lst xs => .ok xs
  | .scr ns => .ok (ns.map .int)
  | _ => .stuck
theorem its_list {G : Gm} {I : Hp} {K : PySem.W.Frag} {a : Addr} {xs : List PV} {vs : List V} (rd : Rd I a (.lst vs)) (l : RpL G I xs vs) : ItD G I (Itl K a) xs where
  go := fun i I' H' hi h1 h2 => by
    have hl := l.length
    exact ⟨vs, vs[i]'(by omega), .inl (rd_same h2 (rd_same h1 rd)), List.getElem?_eq_getElem (by omega)⟩
  yld := fun i I' H' v H2 hi h1 h2 ⟨e, y⟩ => by
    subst e
    have hv := y vs (.inl (rd_same h2 (rd_same h1 rd)))
    obtain ⟨x, hx, p⟩ := l.getV hv
    exact ⟨I', x, Ext.refl h2, hx, p.up h1⟩
  stop := fun i I' H' hi h1 h2 => ⟨vs, .inl (rd_same h2 (rd_same h1 rd)), by rw [← l.length]; exact hi⟩
end
end
end BF

set_option maxRecDepth 100000
set_option maxHeartbeats 4000000
namespace BF
open PySem PySem.Spec L2
open PyProof.Rows hiding St
set_option autoImplicit false
section
variable {X : Cx} {C : Dc} {T : List Nat} {pos : Pos} {tg : Expr}
theorem RpL.ints {G : Gm} {I : Hp} : ∀ (ns : List Int), RpL G I (ns.map .int) (ns.map V.int)
  | [] => .nil
  | n :: ns => .cons (.int n) (RpL.ints ns)
theorem di_list {e : Expr} {E : PX} (he : DE X C T e E) : DI X C T tg e (iX fLst E) :=
  PI.imp (pi_list he) fun σ H R h => tI_of (t := fun R v H' => ∃ a, v = .ref a ∧ (∃ xs, SqL X.K H' a xs) ∧ R (Itl X.K a) H') σ H R h (fun I' H' x v xs hs p ef => by
    cases x with
    | lst ys =>
      cases ef
      cases p with
      | @lst a vs _ ea l => exact ⟨Itl X.K a, its_list (.inl ea) l, fun R k => ⟨a, rfl, ⟨vs, .inl (.inl (hs _ _ ea))⟩, k⟩⟩
    | scr ns =>
      cases ef
      cases p with
      | @scr a _ rd => exact ⟨Itl X.K a, its_list rd (.ints ns), fun R k => ⟨a, rfl, ⟨_, .inl (rd_same hs rd)⟩, k⟩⟩
    | _ => cases ef) (fun x c h => by cases x <;> cases h)
theorem its_tup {G : Gm} {I : Hp} {K : PySem.W.Frag} {a : Addr} {xs : List PV} {vs : List V} (rd : Rd I a (.tup vs)) (l : RpL G I xs vs) : ItD G I (Itt K a) xs where
  go := fun i I' H' hi h1 h2 => by
    have hl := l.length
    exact ⟨vs, vs[i]'(by omega), .inl (rd_same h2 (rd_same h1 rd)), List.getElem?_eq_getElem (by omega)⟩
  yld := fun i I' H' v H2 hi h1 h2 ⟨e, y⟩ => by
    subst e
    have hv := y vs (.inl (rd_same h2 (rd_same h1 rd)))
    obtain ⟨x, hx, p⟩ := l.getV hv
    exact ⟨I', x, Ext.refl h2, hx, p.up h1⟩
  stop := fun i I' H' hi h1 h2 => ⟨vs, .inl (rd_same h2 (rd_same h1 rd)), by rw [← l.length]; exact hi⟩
def fTup : PV → Res (List PV)
  | .tup xs => .ok xs
  | _ => .stuck
theorem di_tup {e : Expr} {E : PX} (he : DE X C T e E) : DI X C T tg e (iX fTup E) :=
  PI.imp (pi_tup he) fun σ H R h => tI_of (t := fun R v H' => ∃ a, v = .ref a ∧ (∃ xs, SqT X.K H' a xs) ∧ R (Itt X.K a) H') σ H R h (fun I' H' x v xs hs p ef => by
    cases x with
    | tup ys =>
      cases ef
      cases p with
      | @tup a vs _ rd l => exact ⟨Itt X.K a, its_tup rd l, fun R k => ⟨a, rfl, ⟨vs, .inl (rd_same hs rd)⟩, k⟩⟩
    | _ => cases ef) (fun x c h => by cases x <;> cases h)
/-- text, sign by sign -/
def fStr : PV → Res (List PV)
  | .str x => .ok (x.cps.toList.map fun c => .str ⟨#[c]⟩)
  | _ => .stuck
theorem di_str {e : Expr} {E : PX} (he : DE X C T e E) : DI X C T tg e (iX fStr E) :=
  PI.imp (pi_str he) fun σ H R h => tI_of (t := fun R v H' => ∃ x, v = .str x ∧ R (L2.Its x) H') σ H R h (fun I' H' x v xs hs p ef => by
    cases x with
    | str z =>
      cases ef
      cases p
      refine ⟨L2.Its z, ⟨fun i I2 H2 hi _ _ => ?_, fun i I2 H2 v H3 hi h1 h2 ⟨e, c, hc, ev⟩ => ?_, fun i I2 H2 hi _ _ => ?_⟩, fun R k => ⟨z, rfl, k⟩⟩
      · show i < z.cps.size
        simpa using hi
      · subst e; subst ev
        refine ⟨I2, .str ⟨#[c]⟩, Ext.refl h2, ?_, .str _⟩
        rw [List.getElem?_map, Array.getElem?_toList, hc]; rfl
      · show z.cps.size ≤ i
        simpa using hi
    | _ => cases ef) (fun x c h => by cases x <;> cases h)
/-- range(n), range(a, b) -/
def fRng1 : List PV → Res (List PV)
  | [.int n] => if -(2 ^ 62) ≤ n ∧ n < 2 ^ 62 then .ok ((List.range n.toNat).map fun (k : Nat) => PV.int k) else .stuck
  | _ => .stuck
def fRng2 : List PV → Res (List PV)
  | [.int a, .int b] => if -(2 ^ 62) ≤ a ∧ a < 2 ^ 62 ∧ -(2 ^ 62) ≤ b ∧ b < 2 ^ 62 then .ok ((List.range (b - a).toNat).map fun (k : Nat) => PV.int (a + k)) else .stuck
  | _ => .stuck
def iXs (f : List PV → Res (List PV)) (A : AX) : AX := fun ρ => A ρ >>= fun p => f p.1 >>= fun xs => .ok (xs, p.2)
theorem tIs_of {A : AX} {f : List PV → Res (List PV)} (σ : St) (H : Hp) (R : It → Hp → Prop) (h : tI C.G C.σ0 C.W T (iXs f A) σ H R)
    {t : (It → Hp → Prop) → List V → Hp → Prop} (hf : ∀ (I' H' : Hp) (ys : List PV) (vs : List V) (xs : List PV), Same I' H' → RpL C.G I' ys vs → f ys = .ok xs → ∃ J, ItD C.G I' J xs ∧ ∀ R, R J H' → t R vs H')
    (hexc : ∀ x c, f x ≠ .exc c) : tAs C.G C.σ0 C.W T A σ H (fun vs H' => t R vs H') := by
  obtain ⟨I, ρ, r, k⟩ := h
  refine ⟨I, ρ, r, ?_⟩
  unfold iXs at k
  cases e : A ρ with
  | exc c => rw [e] at k; exact k
  | stuck => rw [e] at k; exact k
  | ok p =>
    obtain ⟨ys, ρ1⟩ := p
    rw [e] at k
    simp only [ok_bind] at k
    intro I1 H1 vs x l
    cases ef : f ys with
    | exc c => exact (hexc _ _ ef).elim
    | stuck => rw [ef] at k; exact k.elim
    | ok xs =>
      rw [ef] at k
      obtain ⟨J, hJ, ht⟩ := hf I1 H1 ys vs xs x.same l ef
      exact ht _ (k I1 H1 J x hJ)
theorem its_rng {G : Gm} {I : Hp} (lo : Int) (n : Nat) : ItD G I (Itr lo n) ((List.range n).map fun (k : Nat) => PV.int (lo + k)) where
  go := fun i I' H' hi _ _ => by show i < n; simpa using hi
  yld := fun i I' H' v H2 hi h1 h2 ⟨e, ev⟩ => by
    subst e; subst ev
    have hi' : i < n := by simpa using hi
    exact ⟨I', .int (lo + i), Ext.refl h2, by rw [List.getElem?_map, List.getElem?_range hi']; rfl, .int _⟩
  stop := fun i I' H' hi _ _ => by show n ≤ i; simpa using hi
theorem fRng1_exc : ∀ x c, fRng1 x ≠ .exc c := fun x c h => by
  unfold fRng1 at h
  split at h <;> first | (split at h <;> cases h) | cases h
theorem fRng2_exc : ∀ x c, fRng2 x ≠ .exc c := fun x c h => by
  unfold fRng2 at h
  split at h <;> first | (split at h <;> cases h) | cases h
theorem fRng1_inv {ys xs : List PV} (h : fRng1 ys = .ok xs) : ∃ n : Int, ys = [.int n] ∧ (-(2 ^ 62) ≤ n ∧ n < 2 ^ 62) ∧ xs = (List.range n.toNat).map fun (k : Nat) => PV.int k := by
  unfold fRng1 at h
  split at h
  · split at h
    · rename_i n hc; cases h; exact ⟨n, rfl, hc, rfl⟩
    · cases h
  · cases h
theorem fRng2_inv {ys xs : List PV} (h : fRng2 ys = .ok xs) : ∃ a b : Int, ys = [.int a, .int b] ∧ (-(2 ^ 62) ≤ a ∧ a < 2 ^ 62 ∧ -(2 ^ 62) ≤ b ∧ b < 2 ^ 62) ∧ xs = (List.range (b - a).toNat).map fun (k : Nat) => PV.int (a + k) := by
  unfold fRng2 at h
  split at h
  · split at h
    · rename_i a b hc; cases h; exact ⟨a, b, rfl, hc, rfl⟩
    · cases h
  · cases h
theorem rpl1 {G : Gm} {I : Hp} {x : PV} {vs : List V} (l : RpL G I [x] vs) : ∃ v, vs = [v] ∧ Rp G I x v := by
  cases l with
  | cons p l => cases l; exact ⟨_, rfl, p⟩
theorem rpl2 {G : Gm} {I : Hp} {x y : PV} {vs : List V} (l : RpL G I [x, y] vs) : ∃ v w, vs = [v, w] ∧ Rp G I x v ∧ Rp G I y w := by
  cases l with
  | cons p l => obtain ⟨w, rfl, q⟩ := rpl1 l; exact ⟨_, w, rfl, p, q⟩
theorem di_range1 {a : Expr} {A : AX} {p : Pos} (hm : X.mg "range" = none) (ha : DA X C T [a] A) (hg : Gl X "range" := by rfl) (hs : starEach [a] X.env = [(false, eval a X.env)] := by rfl) : DI X C T tg (.Call (.Name "range" p) [a] [] pos) (iXs fRng1 A) :=
  PI.imp (pi_range1 hg hm ha hs) fun σ H R h => tIs_of (t := fun R vs H' => ∃ j : Int, vs = [.int j] ∧ -(2 ^ 62) ≤ j ∧ j < 2 ^ 62 ∧ R (Itr 0 j.toNat) H') σ H R h (fun I' H' ys vs xs hs l ef => by
    obtain ⟨n, rfl, hc, rfl⟩ := fRng1_inv ef
    obtain ⟨v, rfl, p⟩ := rpl1 l
    cases p
    have := its_rng (G := C.G) (I := I') 0 n.toNat
    simp only [Int.zero_add] at this
    exact ⟨_, this, fun R k => ⟨n, rfl, hc.1, hc.2, k⟩⟩) fRng1_exc
theorem di_range2 {a b : Expr} {A : AX} {p : Pos} (hm : X.mg "range" = none) (ha : DA X C T [a, b] A) (hg : Gl X "range" := by rfl) (hs : starEach [a, b] X.env = [(false, eval a X.env), (false, eval b X.env)] := by rfl) (hs2 : starEach [b] X.env = [(false, eval b X.env)] := by rfl) :
    DI X C T tg (.Call (.Name "range" p) [a, b] [] pos) (iXs fRng2 A) :=
  PI.imp (pi_range2 hg hm ha hs hs2) fun σ H R h => tIs_of (t := fun R vs H' => ∃ i j : Int, vs = [.int i, .int j] ∧ (-(2 ^ 62) ≤ i ∧ i < 2 ^ 62 ∧ -(2 ^ 62) ≤ j ∧ j < 2 ^ 62) ∧ R (Itr i (j - i).toNat) H') σ H R h (fun I' H' ys vs xs hs l ef => by
    obtain ⟨n, m, rfl, hc, rfl⟩ := fRng2_inv ef
    obtain ⟨v, w, rfl, p, q⟩ := rpl2 l
    cases p
    cases q
    exact ⟨_, its_rng n (m - n).toNat, fun R k => ⟨n, m, rfl, hc, k⟩⟩) fRng2_exc
/-- enumerate(xs), zip(xs, ys), reversed(xs) -/
def fEnum : List PV → Res (List PV)
  | [.lst xs] => .ok (xs.zipIdx.map fun p => .tup [.int p.2, p.1])
  | _ => .stuck
def fZip : List PV → Res (List PV)
  | [.lst xs, .lst ys] => .ok ((xs.zip ys).map fun p => .tup [p.1, p.2])
  | _ => .stuck
def fRev : List PV → Res (List PV)
  | [.lst xs] => .ok xs.reverse
  | _ => .stuck
theorem lst_in {G : Gm} {I : Hp} {xs : List PV} {v : V} (p : Rp G I (.lst xs) v) : ∃ a vs, v = .ref a ∧ I a = some (.lst vs) ∧ RpL G I xs vs := by
  cases p with
  | lst e l => exact ⟨_, _, rfl, e, l⟩
theorem di_enum {e : Expr} {A : AX} {p tpos : Pos} {elts : List Expr} {kk : Nat} (hm : X.mg "enumerate" = none) (ha : DA X C T [e] A) (hg : Gl X "enumerate" := by rfl) (hs : starEach [e] X.env = [(false, eval e X.env)] := by rfl) :
    DI X C T (.Tuple elts kk tpos) (.Call (.Name "enumerate" p) [e] [] pos) (iXs fEnum A) :=
  PI.imp (pi_enum hg hm ha hs) fun σ H R h => tIs_of (t := fun R vs H' => ∃ a xs, vs = [.ref a] ∧ SqL X.K H' a xs ∧ R (Ite X.K a) H') σ H R h (fun I' H' ys vs xs hs l ef => by
    have hy : ∃ zs, ys = [.lst zs] ∧ xs = zs.zipIdx.map fun p => .tup [.int p.2, p.1] := by
      unfold fEnum at ef
      split at ef
      · cases ef; exact ⟨_, rfl, rfl⟩
      · cases ef
    obtain ⟨zs, rfl, rfl⟩ := hy
    obtain ⟨v, rfl, p⟩ := rpl1 l
    obtain ⟨a, us, rfl, ea, lz⟩ := lst_in p
    have sq : ∀ {I2 H2 : Hp}, Same I' I2 → Same I2 H2 → SqL X.K H2 a us := fun h1 h2 => .inl (.inl (h2 _ _ (h1 _ _ ea)))
    refine ⟨Ite X.K a, ⟨fun i I2 H2 hi h1 h2 => ?_, fun i I2 H2 v H3 hi h1 h2 ⟨T', x, ev, hT, eH, hx⟩ => ?_, fun i I2 H2 hi h1 h2 => ?_⟩, fun R k => ⟨a, us, rfl, sq (Same.refl _) hs, k⟩⟩
    · have hl := lz.length
      simp only [List.length_map, List.length_zipIdx] at hi
      exact ⟨us, us[i]'(by omega), sq h1 h2, List.getElem?_eq_getElem (by omega)⟩
    · subst ev; subst eH
      obtain ⟨y, hy, py⟩ := lz.getV (hx us (sq h1 h2))
      refine ⟨upd I2 T' (.tup [.int (i : Nat), x]), .tup [.int i, y], Ext.newF h2 hT, ?_, ?_⟩
      · rw [List.getElem?_map, List.getElem?_zipIdx, hy]
        simp
      · have e := same_upd (o := .tup [.int (i : Nat), x]) (same_none h2 hT)
        exact .tup (.inl upd_same) (.two (.int _) (py.up (h1.trans e)))
    · have hl := lz.length
      simp only [List.length_map, List.length_zipIdx] at hi
      exact ⟨us, sq h1 h2, by omega⟩) (fun x c h => by unfold fEnum at h; split at h <;> cases h)
theorem di_zip {e e2 : Expr} {A : AX} {p tpos : Pos} {elts : List Expr} {kk : Nat} (hm : X.mg "zip" = none) (ha : DA X C T [e, e2] A) (hg : Gl X "zip" := by rfl) (hs : starEach [e, e2] X.env = (false, eval e X.env) :: starEach [e2] X.env := by rfl)
    (hpl : (backTo pos (starEach [e2] X.env)).any (·.1) = false := by rfl) : DI X C T (.Tuple elts kk tpos) (.Call (.Name "zip" p) [e, e2] [] pos) (iXs fZip A) :=
  PI.imp (pi_zip hg hm ha hs hpl) fun σ H R h => tIs_of (t := fun R vs H' => ∃ a b xs ys, vs = [.ref a, .ref b] ∧ SqL X.K H' a xs ∧ SqL X.K H' b ys ∧ R (Itz X.K a b) H') σ H R h (fun I' H' ys vs xs hs l ef => by
    have hy : ∃ zs ws, ys = [.lst zs, .lst ws] ∧ xs = (zs.zip ws).map fun p => .tup [p.1, p.2] := by
      unfold fZip at ef
      split at ef
      · cases ef; exact ⟨_, _, rfl, rfl⟩
      · cases ef
    obtain ⟨zs, ws, rfl, rfl⟩ := hy
    obtain ⟨v, w, rfl, p, q⟩ := rpl2 l
    obtain ⟨a, us, rfl, ea, lz⟩ := lst_in p
    obtain ⟨b, us2, rfl, eb, lw⟩ := lst_in q
    have sq : ∀ {I2 H2 : Hp}, Same I' I2 → Same I2 H2 → SqL X.K H2 a us ∧ SqL X.K H2 b us2 := fun h1 h2 => ⟨.inl (.inl (h2 _ _ (h1 _ _ ea))), .inl (.inl (h2 _ _ (h1 _ _ eb)))⟩
    have hl1 := lz.length
    have hl2 := lw.length
    refine ⟨Itz X.K a b, ⟨fun i I2 H2 hi h1 h2 => ?_, fun i I2 H2 v H3 hi h1 h2 ⟨T', x, y, ev, hT, eH, hx, hy⟩ => ?_, fun i I2 H2 hi h1 h2 => ?_⟩, fun R k => ⟨a, b, us, us2, rfl, (sq (Same.refl _) hs).1, (sq (Same.refl _) hs).2, k⟩⟩
    · simp only [List.length_map, List.length_zip] at hi
      exact ⟨us, us2, us[i]'(by omega), us2[i]'(by omega), (sq h1 h2).1, (sq h1 h2).2, List.getElem?_eq_getElem (by omega), List.getElem?_eq_getElem (by omega)⟩
    · subst ev; subst eH
      obtain ⟨x', hx', px⟩ := lz.getV (hx us (sq h1 h2).1)
      obtain ⟨y', hy', py⟩ := lw.getV (hy us2 (sq h1 h2).2)
      refine ⟨upd I2 T' (.tup [x, y]), .tup [x', y'], Ext.newF h2 hT, ?_, ?_⟩
      · have e0 : (zs.zip ws)[i]? = some (x', y') := List.getElem?_zip_eq_some.mpr ⟨hx', hy'⟩
        rw [List.getElem?_map, e0]; rfl
      · have e := same_upd (o := .tup [x, y]) (same_none h2 hT)
        exact .tup (.inl upd_same) (.two (px.up (h1.trans e)) (py.up (h1.trans e)))
    · simp only [List.length_map, List.length_zip] at hi
      exact ⟨us, us2, (sq h1 h2).1, (sq h1 h2).2, by omega⟩) (fun x c h => by unfold fZip at h; split at h <;> cases h)
theorem di_rev {e : Expr} {A : AX} {p : Pos} (hm : X.mg "reversed" = none) (ha : DA X C T [e] A) (hg : Gl X "reversed" := by rfl) (hs : starEach [e] X.env = [(false, eval e X.env)] := by rfl) : DI X C T tg (.Call (.Name "reversed" p) [e] [] pos) (iXs fRev A) :=
  PI.imp (pi_reversed hg hm ha hs) fun σ H R h => tIs_of (t := fun R vs H' => ∃ (a : Addr) (xs : List V), vs = [.ref a] ∧ SqL X.K H' a xs ∧ R (Itv X.K a xs.length) H') σ H R h (fun I' H' ys vs xs hs l ef => by
    have hy : ∃ zs, ys = [.lst zs] ∧ xs = zs.reverse := by
      unfold fRev at ef
      split at ef
      · cases ef; exact ⟨_, rfl, rfl⟩
      · cases ef
    obtain ⟨zs, rfl, rfl⟩ := hy
    obtain ⟨v, rfl, p⟩ := rpl1 l
    obtain ⟨a, us, rfl, ea, lz⟩ := lst_in p
    have sq : ∀ {I2 H2 : Hp}, Same I' I2 → Same I2 H2 → SqL X.K H2 a us := fun h1 h2 => .inl (.inl (h2 _ _ (h1 _ _ ea)))
    have hl := lz.length
    refine ⟨Itv X.K a us.length, ⟨fun i I2 H2 hi h1 h2 => ?_, fun i I2 H2 v H3 hi h1 h2 ⟨eH, hx⟩ => ?_, fun i I2 H2 hi h1 h2 => ?_⟩, fun R k => ⟨a, us, rfl, sq (Same.refl _) hs, k⟩⟩
    · rw [List.length_reverse] at hi
      exact ⟨by omega, us, us[us.length - 1 - i]'(by omega), sq h1 h2, List.getElem?_eq_getElem (by omega)⟩
    · subst eH
      rw [List.length_reverse] at hi
      obtain ⟨x', hx', px⟩ := lz.getV (hx us (sq h1 h2))
      refine ⟨I2, x', Ext.refl h2, ?_, px.up h1⟩
      rw [List.getElem?_reverse (by omega), hl]; exact hx'
    · rw [List.length_reverse] at hi
      show us.length ≤ i
      omega) (fun x c h => by unfold fRev at h; split at h <;> cases h)
def fKeys : PV → Res (List PV)
  | .dct kvs => .ok (kvs.map fun p => keyV p.1)
  | _ => .stuck
def fVals : PV → Res (List PV)
  | .dct kvs => .ok (kvs.map fun p => p.2)
  | _ => .stuck
def fItems : PV → Res (List PV)
  | .dct kvs => .ok (kvs.map fun p => .tup [keyV p.1, p.2])
  | _ => .stuck
theorem RpK.get {G : Gm} {I : Hp} : ∀ {xs : List (Key × PV)} {vs : List (Key × V)} {i : Nat} {k : Key} {v : V}, RpK G I xs vs → vs[i]? = some (k, v) → ∃ x, xs[i]? = some (k, x) ∧ Rp G I x v
  | _, _, _, _, _, .nil, e => by simp at e
  | _, _, 0, _, _, .cons r _, e => by simp at e; obtain ⟨rfl, rfl⟩ := e; exact ⟨_, rfl, r⟩
  | _, _, i + 1, k, v, .cons _ l, e => by
    obtain ⟨x, h1, h2⟩ := RpK.get (i := i) (k := k) (v := v) l (by simpa using e)
    exact ⟨x, by simpa using h1, h2⟩
section
variable {G : Gm} {I : Hp} {d : Addr} {o : Obj} {ws : List (Key × V)} {kvs : List (Key × PV)}
theorem its_keys (h : I d = some (.frz o (.dK ws))) (l : RpK G I kvs ws) : ItD G I (Itk d o ws) (kvs.map fun p => keyV p.1) where
  go := fun i I' H' hi h1 h2 => ⟨h2 _ _ (h1 _ _ h), by have := l.length; simp only [List.length_map] at hi; omega⟩
  yld := fun i I' H' v H2 hi h1 h2 ⟨e, k, w, hw, ev⟩ => by
    subst e; subst ev
    obtain ⟨x, hx, p⟩ := l.get hw
    exact ⟨I', keyV k, Ext.refl h2, by rw [List.getElem?_map, hx]; rfl, keyV_rp k⟩
  stop := fun i I' H' hi h1 h2 => ⟨h2 _ _ (h1 _ _ h), by have := l.length; simp only [List.length_map] at hi; omega⟩
theorem its_vals (h : I d = some (.frz o (.dK ws))) (l : RpK G I kvs ws) : ItD G I (Itd d o ws) (kvs.map fun p => p.2) where
  go := fun i I' H' hi h1 h2 => ⟨h2 _ _ (h1 _ _ h), by have := l.length; simp only [List.length_map] at hi; omega⟩
  yld := fun i I' H' v H2 hi h1 h2 ⟨e, k, hw⟩ => by
    subst e
    obtain ⟨x, hx, p⟩ := l.get hw
    exact ⟨I', x, Ext.refl h2, by rw [List.getElem?_map, hx]; rfl, p.up h1⟩
  stop := fun i I' H' hi h1 h2 => ⟨h2 _ _ (h1 _ _ h), by have := l.length; simp only [List.length_map] at hi; omega⟩
theorem its_items (h : I d = some (.frz o (.dK ws))) (l : RpK G I kvs ws) : ItD G I (Iti d o ws) (kvs.map fun p => .tup [keyV p.1, p.2]) where
  go := fun i I' H' hi h1 h2 => ⟨h2 _ _ (h1 _ _ h), by have := l.length; simp only [List.length_map] at hi; omega⟩
  yld := fun i I' H' v H2 hi h1 h2 ⟨T', k, w, hw, ev, hT, eH⟩ => by
    subst ev; subst eH
    obtain ⟨x, hx, p⟩ := l.get hw
    have e := same_upd (o := .tup [kV k, w]) (same_none h2 hT)
    exact ⟨upd I' T' (.tup [kV k, w]), .tup [keyV k, x], Ext.newF h2 hT, by rw [List.getElem?_map, hx]; rfl, .tup (.inl upd_same) (.two (keyV_rp k) (p.up (h1.trans e)))⟩
  stop := fun i I' H' hi h1 h2 => ⟨h2 _ _ (h1 _ _ h), by have := l.length; simp only [List.length_map] at hi; omega⟩
end
section
variable {G : Gm} {σ0 : St} {σ σ' : St} {I H I' H' : Hp} {ρ ρ' : En} {d : Addr} {od : Obj} {ws : List (Key × V)}
theorem lt_lock (h : I d = some (.dK ws)) : Lt I (upd I d (.frz od (.dK ws))) where
  rd := fun a o nf r => by
    by_cases e : a = d
    · subst e
      rcases r with r | ⟨ob, r⟩
      · rw [h] at r; cases r; exact .inr ⟨od, upd_same⟩
      · rw [h] at r; cases r
    · rcases r with r | ⟨ob, r⟩
      · exact .inl (by rw [upd_ne e]; exact r)
      · exact .inr ⟨ob, by rw [upd_ne e]; exact r⟩
  ins := fun a C dx fs e => by rw [upd_ne fun z => by rw [z, h] at e; cases e]; exact e
  lst := fun a vs e => by rw [upd_ne fun z => by rw [z, h] at e; cases e]; exact e
theorem lt_unlock (h : I d = some (.frz od (.dK ws))) : Lt I (upd I d (.dK ws)) where
  rd := fun a o nf r => by
    by_cases e : a = d
    · subst e
      rcases r with r | ⟨ob, r⟩
      · rw [h] at r; cases r; exact (nf _ _ rfl).elim
      · rw [h] at r; cases r; exact .inl upd_same
    · rcases r with r | ⟨ob, r⟩
      · exact .inl (by rw [upd_ne e]; exact r)
      · exact .inr ⟨ob, by rw [upd_ne e]; exact r⟩
  ins := fun a C dx fs e => by rw [upd_ne fun z => by rw [z, h] at e; cases e]; exact e
  lst := fun a vs e => by rw [upd_ne fun z => by rw [z, h] at e; cases e]; exact e
theorem OwnO.lt {I I' : Hp} (h : Lt I I') : ∀ {x : PV} {o : HO}, OwnO G I x o → OwnO G I' x o
  | .lst _, _, ⟨vs, e, l⟩ => ⟨vs, e, l.lt h⟩
  | .dct _, _, ⟨vs, e, l⟩ => ⟨vs, e, l.lt h⟩
  | .ins _ _, _, ⟨dx, vs, e, l⟩ => ⟨dx, vs, e, l.lt h⟩
theorem SR.chg {u u' : HO} (r : SR G σ0 I H σ ρ) (hd : I d = some u) (lt : Lt I (upd I d u')) (ht : TabsE I H (upd I d u') (upd H d u')) : SR G σ0 (upd I d u') (upd H d u') σ ρ where
  same := same_upd2 r.same
  len := r.len
  val := fun i x e => by obtain ⟨v, h1, h2⟩ := r.val i x e; exact ⟨v, h1, h2.lt lt⟩
  own := fun i x e => by
    obtain ⟨a, o, h1, h2, h3, h4⟩ := r.own i x e
    have n : a ≠ d := fun z => by rw [z, hd] at h2; cases h2
    exact ⟨a, o, h1, by rw [upd_ne n]; exact h2, by rw [upd_ne n]; exact h3, h4.lt lt⟩
  prm := r.prm
  sep := r.sep
  tab := ht.tabs r.tab
theorem frz_put1 {I H : Hp} {d : Addr} {od : Obj} {u v : HO} (h : H d = some (.frz od u)) : TabsE I H I (upd H d v) := TabsE.put (fun ps z => by rw [h] at z; cases z) (fun q z => by rw [h] at z; unfold LamX.CodeO at z; cases z)
theorem dk_put {I H : Hp} {d : Addr} {ws : List (Key × V)} {v : HO} (h : H d = some (.dK ws)) : TabsE I H I (upd H d v) := Pl.put (.inr (.inl ⟨_, rfl⟩)) h
theorem frz_put {I H : Hp} {d : Addr} {od : Obj} {u v : HO} (h : H d = some (.frz od u)) (nt : NT v) : TabsE I H (upd I d v) (upd H d v) := (frz_put1 h).trans (.frz upd_same nt)
theorem dk_put2 {I H : Hp} {d : Addr} {ws : List (Key × V)} {v : HO} (h : H d = some (.dK ws)) (nt : NT v) : TabsE I H (upd I d v) (upd H d v) := (dk_put h).trans (.frz upd_same nt)
theorem Stp.unlock {u fz : HO} (hd : I d = some u) (hH : H d = some u) (t1 : TabsE I H (upd I d fz) (upd H d fz)) (t2 : TabsE I' H' (upd I' d u) (upd H' d u)) (st : Stp (upd I d fz) (upd H d fz) σ ρ I' H' σ' ρ') : Stp I H σ ρ (upd I' d u) (upd H' d u) σ' ρ' where
  le := fun a o e => by
    by_cases z : a = d
    · subst z; rw [hd] at e; cases e; exact upd_same
    · rw [upd_ne z]; exact st.le a o (by rw [upd_ne z]; exact e)
  dom := fun a e => by
    unfold upd at e
    split at e
    · cases e
    · rename_i z
      have := st.dom a e
      rw [upd_ne z] at this; exact this
  own := fun a h => by
    rcases st.own a h with h | h
    · exact .inl h
    · by_cases z : a = d
      · subst z; rw [upd_same] at h; cases h
      · rw [upd_ne z] at h; exact .inr h
  prm := st.prm
  tab := t1.trans (st.tab.trans t2)
  keep := fun a o nt e n h1 h2 => by
    have z : a ≠ d := fun z => by rw [z, hd] at n; cases n
    obtain ⟨k1, k2⟩ := st.keep a o nt (by rw [upd_ne z]; exact e) (by rw [upd_ne z]; exact n) h1 h2
    exact ⟨by rw [upd_ne z]; exact k1, by rw [upd_ne z]; exact k2⟩
end
theorem frz_after {I H I' H' : Hp} {σ σ' : St} {ρ ρ' : En} {G : Gm} {σ0 : St} {d : Addr} {fz : HO} (st : Stp (upd I d fz) (upd H d fz) σ ρ I' H' σ' ρ') (r : SR G σ0 I' H' σ' ρ') : I' d = some fz ∧ H' d = some fz :=
  ⟨st.le d fz upd_same, r.same d fz (st.le d fz upd_same)⟩
/-- what is wished of an exception while d is locked -/
def lockW (W : WX) (d : Addr) (od : Obj) (u : HO) : WX := fun c e σ H => H d = some (.frz od u) ∧ W c e σ (upd H d u)
theorem takes_lock {W : WX} {d : Addr} {od : Obj} {u : HO} (tk : Takes X W) (nf : ∀ o' u', X.H_0 d ≠ some (.frz o' u')) : Takes X (lockW W d od u) := fun e s' ⟨a, B, sI, pins, σ, H, cls, dd, e1, I, nb, up, sky, na, os, ag, hd, w⟩ => by
  refine tk e s' ⟨a, B, sI, pins, σ, upd H d u, cls, dd, e1, I.unlock hd nf, nb, up, sky, ?_, os, ag, w⟩
  rw [upd_ne fun z => by rw [z, hd] at na; cases na]; exact na
theorem ps_lockW {W : WX} {st : Stmt} {t : WX → TS} (tk : Takes X W) (h : ∀ W', Takes X W' → PS X st (t W')) : PS X st (fun D σ H => ∃ d ws, H d = some (.dK ws) ∧ ∀ od, t (lockW W d od (.dK ws))
    ⟨fun σ' H' => H' d = some (.frz od (.dK ws)) ∧ D.nx σ' (upd H' d (.dK ws)), fun v H' => H' d = some (.frz od (.dK ws)) ∧ D.rt v (upd H' d (.dK ws)),
      fun σ' H' => H' d = some (.frz od (.dK ws)) ∧ D.bk σ' (upd H' d (.dK ws)), fun σ' H' => H' d = some (.frz od (.dK ws)) ∧ D.ct σ' (upd H' d (.dK ws))⟩ σ (upd H d (.frz od (.dK ws)))) := by
  refine ⟨fun pins s σ H D I ⟨d, ws, hd, hw⟩ => ?_⟩
  have nf := I.nofrz hd (show Mut (some (.dK ws)) from trivial)
  obtain ⟨od, I1⟩ := I.lock hd (show Mut (some (.dK ws)) from trivial)
  refine thn ((h _ (takes_lock tk nf)).run pins s σ _ _ I1 (hw od)) fun f s1 q => ?_
  match f, q with
  | .next, ⟨σ', H', J, e, q⟩ => exact ⟨σ', _, J.unlock e nf, q⟩
  | .brk, ⟨σ', H', J, e, q⟩ => exact ⟨σ', _, J.unlock e nf, q⟩
  | .cont, ⟨σ', H', J, e, q⟩ => exact ⟨σ', _, J.unlock e nf, q⟩
  | .ret v, ⟨x, σ', H', J, r, e, q⟩ => exact ⟨x, σ', _, J.unlock e nf, r, q⟩
theorem tO_lock {G : Gm} {σ0 : St} {W : WX} {I H : Hp} {σ : St} {ρ : En} {D : Ends} {d : Addr} {od : Obj} {ws : List (Key × V)} (hd : I d = some (.dK ws)) (hH : H d = some (.dK ws)) {m : Res Out} (k : tO G σ0 W I H σ ρ D m) :
    tO G σ0 (lockW W d od (.dK ws)) (upd I d (.frz od (.dK ws))) (upd H d (.frz od (.dK ws))) σ ρ ⟨fun σ' H' => H' d = some (.frz od (.dK ws)) ∧ D.nx σ' (upd H' d (.dK ws)), fun v H' => H' d = some (.frz od (.dK ws)) ∧ D.rt v (upd H' d (.dK ws)),
      fun σ' H' => H' d = some (.frz od (.dK ws)) ∧ D.bk σ' (upd H' d (.dK ws)), fun σ' H' => H' d = some (.frz od (.dK ws)) ∧ D.ct σ' (upd H' d (.dK ws))⟩ m := by
  cases m with
  | stuck => exact k
  | exc c =>
    intro I' H' σ' x
    have e1 : I' d = some (.frz od (.dK ws)) := x.le d _ upd_same
    have e2 := x.same d _ e1
    refine ⟨e2, k (upd I' d (.dK ws)) (upd H' d (.dK ws)) σ' ⟨fun a o e => ?_, same_upd2 x.same, fun a e => ?_, fun a o nt e n h1 h2 => ?_, (dk_put2 hH nt_frz).trans (x.tab.trans (frz_put e2 nt_dK))⟩⟩
    · by_cases z : a = d
      · subst z; rw [hd] at e; cases e; exact upd_same
      · rw [upd_ne z]; exact x.le a o (by rw [upd_ne z]; exact e)
    · unfold upd at e
      split at e
      · cases e
      · rename_i z
        have := x.dom a e
        rw [upd_ne z] at this; exact this
    · have z : a ≠ d := fun z => by rw [z, hd] at n; cases n
      obtain ⟨k1, k2⟩ := x.keep a o nt (by rw [upd_ne z]; exact e) (by rw [upd_ne z]; exact n) h1 h2
      exact ⟨by rw [upd_ne z]; exact k1, by rw [upd_ne z]; exact k2⟩
  | ok o =>
    cases o with
    | nx ρ' =>
      intro I' H' σ' r st
      obtain ⟨e1, e2⟩ := frz_after st r
      exact ⟨e2, k _ _ σ' (r.chg e1 (lt_unlock e1) (frz_put e2 nt_dK)) (st.unlock hd hH (dk_put2 hH nt_frz) (frz_put e2 nt_dK))⟩
    | bk ρ' =>
      intro I' H' σ' r st
      obtain ⟨e1, e2⟩ := frz_after st r
      exact ⟨e2, k _ _ σ' (r.chg e1 (lt_unlock e1) (frz_put e2 nt_dK)) (st.unlock hd hH (dk_put2 hH nt_frz) (frz_put e2 nt_dK))⟩
    | ct ρ' =>
      intro I' H' σ' r st
      obtain ⟨e1, e2⟩ := frz_after st r
      exact ⟨e2, k _ _ σ' (r.chg e1 (lt_unlock e1) (frz_put e2 nt_dK)) (st.unlock hd hH (dk_put2 hH nt_frz) (frz_put e2 nt_dK))⟩
    | rt s ρ' =>
      intro I' H' σ' v r st q
      obtain ⟨e1, e2⟩ := frz_after st r
      refine ⟨e2, k _ _ σ' v (r.chg e1 (lt_unlock e1) (frz_put e2 nt_dK)) (st.unlock hd hH (dk_put2 hH nt_frz) (frz_put e2 nt_dK)) ?_⟩
      cases s with
      | val x => exact Rp.lt (lt_unlock e1) q
      | own x =>
        obtain ⟨a, o, q1, q2, q3, q4, q5, q6, q7⟩ := q
        have n : a ≠ d := fun z => by rw [z, e1] at q3; cases q3
        refine ⟨a, o, q1, ?_, by rw [upd_ne n]; exact q3, by rw [upd_ne n]; exact q4, q5.lt (lt_unlock e1), q6, q7⟩
        rcases q2 with q2 | q2
        · rw [upd_ne n] at q2; exact .inl q2
        · exact .inr q2
      | _ => exact q
/-- what a walk over a dict is: its reading where the dict is locked -/
structure DWalk (X : Cx) (tg : Expr) (iter : Expr) (i : Nat) (f : PV → Res (List PV)) (wi : TI) : Prop where
  pi : PI X tg iter wi
  at_ : ∀ {G : Gm} {I H : Hp} {σ : St} {d : Addr} {o : Obj} {ws : List (Key × V)} {kvs : List (Key × PV)} {R : It → Hp → Prop}, Same I H → σ[i]? = some (some (.ref d)) → I d = some (.frz o (.dK ws)) → RpK G I kvs ws →
    ∃ xs, f (.dct kvs) = .ok xs ∧ ∃ J, ItD G I J xs ∧ (R J H → wi σ H R)
theorem dw_keys {e : Expr} {i : Nat} (he : PE X e (tVar i)) : DWalk X tg e i fKeys (iKeys (tVar i)) where
  pi := pi_keys he
  at_ := fun hs hσ hd l => ⟨_, rfl, _, its_keys hd l, fun k => ⟨_, hσ, _, _, rfl, .inl ⟨_, hs _ _ hd, k⟩⟩⟩
theorem dw_keysM {e : Expr} {apos cpos : Pos} {i : Nat} (he : PE X e (tVar i)) (h1 : attributeBase e "keys" X.env (eval e X.env) = eval e X.env := by rfl) (h2 : (apos.endLine == cpos.line) = true := by rfl) : DWalk X tg (.Call (.Attribute e "keys" apos) [] [] cpos) i fKeys (iKeysM (tVar i)) where
  pi := pi_keysM he h1 h2
  at_ := fun hs hσ hd l => ⟨_, rfl, _, its_keys hd l, fun k => ⟨_, hσ, _, _, _, rfl, hs _ _ hd, k⟩⟩
theorem dw_vals {e : Expr} {apos cpos : Pos} {i : Nat} (he : PE X e (tVar i)) (h1 : attributeBase e "values" X.env (eval e X.env) = eval e X.env := by rfl) (h2 : (apos.endLine == cpos.line) = true := by rfl) : DWalk X tg (.Call (.Attribute e "values" apos) [] [] cpos) i fVals (iVals (tVar i)) where
  pi := pi_values he h1 h2
  at_ := fun hs hσ hd l => ⟨_, rfl, _, its_vals hd l, fun k => ⟨_, hσ, _, _, _, rfl, hs _ _ hd, k⟩⟩
theorem dw_items {e : Expr} {apos cpos tpos : Pos} {elts : List Expr} {kk : Nat} {i : Nat} (he : PE X e (tVar i)) (h1 : attributeBase e "items" X.env (eval e X.env) = eval e X.env := by rfl) (h2 : (apos.endLine == cpos.line) = true := by rfl) : DWalk X (.Tuple elts kk tpos) (.Call (.Attribute e "items" apos) [] [] cpos) i fItems (iItems (tVar i)) where
  pi := pi_items he h1 h2
  at_ := fun hs hσ hd l => ⟨_, rfl, _, its_items hd l, fun k => ⟨_, hσ, _, _, _, rfl, hs _ _ hd, k⟩⟩
/-- the mirror of a loop over a dict at a name: the name's data is frozen -/
def sForD (i : Nat) (f : PV → Res (List PV)) (t : GX) (S : SX) : SX := sFor (iX f (eV i)) t S
theorem eV_dct {i : Nat} {ρ : En} {f : PV → Res (List PV)} (hf : ∀ x, (∃ kvs, x = .dct kvs) ∨ f x = .stuck) : (∃ kvs, ρ[i]? = some (.val (.dct kvs)) ∧ iX f (eV i) ρ = (f (.dct kvs) >>= fun xs => .ok (xs, ρ))) ∨ iX f (eV i) ρ = .stuck := by
  unfold iX eV
  split
  · rename_i x e
    rcases hf x with ⟨kvs, rfl⟩ | h
    · exact .inl ⟨kvs, e, rfl⟩
    · right; simp only [ok_bind, pv_val, h]; rfl
  · exact .inr rfl
theorem tIt_dict {G : Gm} {σ0 : St} {W : WX} {I H : Hp} {σ : St} {ρ : En} {i : Nat} {f : PV → Res (List PV)} {wi : TI} {iter : Expr} (dw : DWalk X tg iter i f wi) (hf : ∀ x, (∃ kvs, x = .dct kvs) ∨ f x = .stuck) (r : SR G σ0 I H σ ρ) {d : Addr} {o : Obj} {ws : List (Key × V)} {kvs : List (Key × PV)}
    (hρ : ρ[i]? = some (.val (.dct kvs))) (hσ : σ[i]? = some (some (.ref d))) (hd : I d = some (.frz o (.dK ws))) (l : RpK G I kvs ws) (R : It → Hp → Prop) (h : tIt G σ0 W T σ I H ρ R (iX f (eV i) ρ)) : wi σ H R := by
  obtain ⟨xs, e1, J, e2, e3⟩ := dw.at_ (R := R) r.same hσ hd l
  rcases eV_dct (ρ := ρ) (i := i) hf with ⟨kvs', e4, e5⟩ | e4
  · rw [hρ] at e4; cases e4
    rw [e5, e1] at h
    exact e3 (h I H J (.refl r) e2)
  · exfalso; rw [e4] at h; exact h
theorem ds_forD {iter : Expr} {body : List Stmt} {t : GX} {S : SX} {js : List Nat} {i : Nat} {f : PV → Res (List PV)} {wi : TI} (hp : PassesOwn (model X.prog X.w) X.A X.env X.xe) (hc : X.calm = true) (tk : Takes X C.W) (dw : DWalk X tg iter i f wi)
    (hf : ∀ x, (∃ kvs, x = .dct kvs) ∨ f x = .stuck) (hg : DG X C js tg t) (hb : ∀ W', Takes X W' → DSs X ⟨C.G, C.σ0, W'⟩ body S) (hs : ∀ x, foldedSetIterable iter X.env x = pure x := by intro _; rfl) : DS X C (.For tg iter body [] pos) (sForD i f t S) := by
  have h1 : ∀ W', Takes X W' → PS X (.For tg iter body [] pos) (tFor wi (gD C.G C.σ0 js t) (tSt C.G C.σ0 W' S)) := fun W' tk' => ps_for hp hc dw.pi hg (hb W' tk') hs
  have h2 := ps_lockW tk h1
  refine ⟨fun pins s σ H D I h => ?_⟩
  obtain ⟨Iz, ρ, r, k⟩ := h
  rcases eV_dct (ρ := ρ) (i := i) hf with ⟨kvs, hρ, e5⟩ | e4
  · obtain ⟨v, hσ, p⟩ := r.val i _ hρ
    cases p with
    | @dct d ws _ rd l =>
      rcases rd with rd | ⟨ob, rd⟩
      · refine h2.run pins s σ H D I ⟨d, ws, r.same _ _ rd, fun od => ?_⟩
        have r1 := r.chg (H := H) rd (lt_lock (od := od) rd) (dk_put2 (r.same _ _ rd) nt_frz)
        exact tFor_at (C := ⟨C.G, C.σ0, lockW C.W d od (.dK ws)⟩) (T := []) r1 (tO_lock rd (r.same _ _ rd) k) fun R h => tIt_dict dw hf r1 hρ hσ upd_same (l.lt (lt_lock rd)) R h
      · refine (h1 C.W tk).run pins s σ H D I ?_
        exact tFor_at (C := C) (T := []) r k fun R h => tIt_dict dw hf r hρ hσ rd l R h
  · exfalso
    unfold sForD sFor at k
    rw [e4] at k; exact k
theorem fKeys_dct : ∀ x, (∃ kvs, x = .dct kvs) ∨ fKeys x = .stuck := fun x => by cases x <;> first | exact .inl ⟨_, rfl⟩ | exact .inr rfl
theorem fVals_dct : ∀ x, (∃ kvs, x = .dct kvs) ∨ fVals x = .stuck := fun x => by cases x <;> first | exact .inl ⟨_, rfl⟩ | exact .inr rfl
theorem fItems_dct : ∀ x, (∃ kvs, x = .dct kvs) ∨ fItems x = .stuck := fun x => by cases x <;> first | exact .inl ⟨_, rfl⟩ | exact .inr rfl
theorem XE.unlock {G : Gm} {σ0 : St} {T : List Nat} {σ : St} {I H I' H' : Hp} {ρ ρ' : En} {d : Addr} {od : Obj} {ws : List (Key × V)} (hd : I d = some (.dK ws)) (hH : H d = some (.dK ws))
    (x : XE G σ0 T σ (upd I d (.frz od (.dK ws))) (upd H d (.frz od (.dK ws))) ρ I' H' ρ') : XE G σ0 T σ I H ρ (upd I' d (.dK ws)) (upd H' d (.dK ws)) ρ' where
  le := (x.stp.unlock hd hH (dk_put2 hH nt_frz) (frz_put (frz_after x.stp x.sr).2 nt_dK)).le
  sr := x.sr.chg (frz_after x.stp x.sr).1 (lt_unlock (frz_after x.stp x.sr).1) (frz_put (frz_after x.stp x.sr).2 nt_dK)
  dom := (x.stp.unlock hd hH (dk_put2 hH nt_frz) (frz_put (frz_after x.stp x.sr).2 nt_dK)).dom
  tab := (x.stp.unlock hd hH (dk_put2 hH nt_frz) (frz_put (frz_after x.stp x.sr).2 nt_dK)).tab
  keep := fun a o nt e n h => by
    have z : a ≠ d := fun z => by rw [z, hd] at n; cases n
    obtain ⟨k1, k2⟩ := x.keep a o nt (by rw [upd_ne z]; exact e) (by rw [upd_ne z]; exact n) h
    exact ⟨by rw [upd_ne z]; exact k1, by rw [upd_ne z]; exact k2⟩
  eq := x.eq
  own := x.own
  prm := x.prm
theorem tK_lock {G : Gm} {σ0 : St} {W W' : WX} {T : List Nat} {σ : St} {I H : Hp} {ρ : En} {Q : VK} {d : Addr} {od : Obj} {ws : List (Key × V)} (hd : I d = some (.dK ws)) (hH : H d = some (.dK ws)) {m : Res (Slot × En)} (hm : ∀ c, m ≠ .exc c) (k : tK G σ0 W T σ I H ρ Q m) :
    tK G σ0 W' T σ (upd I d (.frz od (.dK ws))) (upd H d (.frz od (.dK ws))) ρ (fun v H' => H' d = some (.frz od (.dK ws)) ∧ Q v (upd H' d (.dK ws))) m := by
  cases m with
  | stuck => exact k
  | exc c => exact (hm c rfl).elim
  | ok p =>
    obtain ⟨s, ρ'⟩ := p
    intro I' H' v x w
    obtain ⟨e1, e2⟩ := frz_after x.stp x.sr
    refine ⟨e2, k _ _ v (x.unlock hd hH) ?_⟩
    cases s with
    | val y => exact Rp.lt (lt_unlock e1) w
    | own y =>
      obtain ⟨a, o, q1, q2, q3, q4, q5⟩ := w
      have n : a ≠ d := fun z => by rw [z, e1] at q3; cases q3
      exact ⟨a, o, q1, by rw [upd_ne n] at q2; exact q2, by rw [upd_ne n]; exact q3, by rw [upd_ne n]; exact q4, q5.lt (lt_unlock e1)⟩
    | _ => exact w
theorem noX_exc {α : Type} {m : Res α} : ∀ c, noX m ≠ .exc c := fun c h => by cases m <;> cases h
theorem loopC_exc {vs : List Nat} {t : GX} {B : BX} {E : PX} : ∀ (xs acc : List PV) (ρ : En) (c : Str), loopC vs t B E xs acc ρ ≠ .exc c
  | [], _, _, _ => fun z => nomatch z
  | x :: xs, acc, ρ, c => fun h => by
    unfold loopC at h
    split at h
    · rename_i ρ' _
      cases eB : noX (B ρ') with
      | stuck => rw [eB] at h; cases h
      | exc c' => exact noX_exc c' eB
      | ok p =>
        rw [eB] at h
        simp only [ok_bind] at h
        split at h
        · cases eE : noX (E p.2) with
          | stuck => rw [eE] at h; cases h
          | exc c' => exact noX_exc c' eE
          | ok q =>
            rw [eE] at h
            simp only [ok_bind] at h
            split at h
            · exact loopC_exc xs _ _ c h
            · cases h
        · exact loopC_exc xs _ _ c h
    · cases h
theorem eLc_exc {vs : List Nat} {i : Nat} {f : PV → Res (List PV)} {t : GX} {B : BX} {E : PX} (hf : ∀ x, (∃ kvs, x = .dct kvs) ∨ f x = .stuck) (hf2 : ∀ x c, f x ≠ .exc c) (ρ : En) (c : Str) : eLc vs (iX f (eV i)) t B E ρ ≠ .exc c := fun h => by
  unfold eLc at h
  rcases eV_dct (ρ := ρ) (i := i) hf with ⟨kvs, _, e⟩ | e
  · rw [e] at h
    cases ef : f (.dct kvs) with
    | stuck => rw [ef] at h; cases h
    | exc c' => exact hf2 _ _ ef
    | ok xs =>
      rw [ef] at h
      simp only [ok_bind] at h
      split at h
      · cases el : loopC vs t B E xs [] ρ with
        | stuck => rw [el] at h; cases h
        | exc c' => exact loopC_exc _ _ _ _ el
        | ok q => rw [el] at h; cases h
      · cases h
  · rw [e] at h; cases h
def eLcD (i : Nat) (vs : List Nat) (f : PV → Res (List PV)) (t : GX) (B : BX) (E : PX) : PX := eLc vs (iX f (eV i)) t B E
theorem lcD_core {vs js : List Nat} {i : Nat} {f : PV → Res (List PV)} {wi : TI} {t : GX} {B : BX} {E : PX} {iter : Expr} {te : TE} (hj : ∀ i ∈ js, i ∈ vs) (ht : Tg js t) (dw : DWalk X tg iter i f wi) (hf : ∀ x, (∃ kvs, x = .dct kvs) ∨ f x = .stuck) (hf2 : ∀ x c, f x ≠ .exc c)
    (hte : ∀ σ H Q, tLc wi (gD C.G C.σ0 js t) (tT C.G C.σ0 Wn T B) (tX C.G C.σ0 Wn T E) vs σ H Q → te σ H Q) (σ : St) (H : Hp) (Q : VK) (h : tX C.G C.σ0 C.W T (eLcD i vs f t B E) σ H Q) : te σ H Q ∨ tLockE te σ H Q := by
  obtain ⟨I, ρ, r, k⟩ := h
  rcases eV_dct (ρ := ρ) (i := i) hf with ⟨kvs, hρ, e5⟩ | e4
  · obtain ⟨v, hσ, p⟩ := r.val i _ hρ
    cases p with
    | @dct d ws _ rd l =>
      rcases rd with rd | ⟨ob, rd⟩
      · refine .inr ⟨d, _, r.same _ _ rd, trivial, fun od => hte _ _ _ ?_⟩
        have r1 := r.chg (H := H) rd (lt_lock (od := od) rd) (dk_put2 (r.same _ _ rd) nt_frz)
        exact tLc_at hj ht r1 (tK_lock (W' := C.W) rd (r.same _ _ rd) (eLc_exc hf hf2 ρ) k) fun R h => tIt_dict dw hf r1 hρ hσ upd_same (l.lt (lt_lock rd)) R h
      · exact .inl (hte _ _ _ (tLc_at hj ht r k fun R h => tIt_dict dw hf r hρ hσ rd l R h))
  · exfalso
    unfold eLcD eLc at k
    rw [e4] at k; exact k
theorem de_lcD {elt iter : Expr} {ifs : List Expr} {scope : Scope} {own : List (Str × Nat)} {js : List Nat} {i : Nat} {f : PV → Res (List PV)} {wi : TI} {t : GX} {B : BX} {E : PX} (hc : X.calm = true) (hN : X.N.Nodup) (ok : BlkOk X.N X.env.scope scope own) (hj : ∀ i ∈ js, i ∈ own.map (·.2)) (ht : Tg js t)
    (dw : DWalk X tg iter i f wi) (hf : ∀ x, (∃ kvs, x = .dct kvs) ∨ f x = .stuck) (hf2 : ∀ x c, f x ≠ .exc c)
    (hg : ∀ (s : Shared) (H : Hp) (L : Addr) (cl : List (Str × Addr)) (fp : List Addr), DG (X.blk s H scope (compEnvC scope cl L X.env) fp) C.blk js tg t)
    (hb : ∀ (s : Shared) (H : Hp) (L : Addr) (cl : List (Str × Addr)) (fp : List Addr), PTs (X.blk s H scope (compEnvC scope cl L X.env) fp) ifs (tT C.G C.σ0 Wn T B))
    (he : ∀ (s : Shared) (H : Hp) (L : Addr) (cl : List (Str × Addr)) (fp : List Addr), DE (X.blk s H scope (compEnvC scope cl L X.env) fp) C.blk T elt E) (hs : ∀ x, foldedSetIterable iter X.env x = pure x := by intro _; rfl) :
    DE X C T (.ListComp elt [⟨tg, iter, ifs, 0⟩] scope pos) (eLcD i (own.map (·.2)) f t B E) := by
  have h1 := pe_lc (pos := pos) hc hN dw.pi ok hg hb he hs
  have h2 := pe_lock h1
  exact ⟨fun pins s σ H Q I h => (lcD_core (C := C) hj ht dw hf hf2 (fun _ _ _ h => h) σ H Q h).elim (h1.run pins s σ H Q I) (h2.run pins s σ H Q I)⟩
theorem fKeys_exc : ∀ x c, fKeys x ≠ .exc c := fun x c h => by cases x <;> cases h
theorem fVals_exc : ∀ x c, fVals x ≠ .exc c := fun x c h => by cases x <;> cases h
theorem fItems_exc : ∀ x c, fItems x ≠ .exc c := fun x c h => by cases x <;> cases h
end
end BF

set_option maxRecDepth 100000
set_option maxHeartbeats 4000000
namespace BF
open PySem PySem.Spec L2
open PyProof.Rows hiding St
set_option autoImplicit false

section
variable {G : Gm} {X : Cx} {C : Dc} {T : List Nat} {pos : Pos}
theorem Ext.rf {I H : Hp} (h : Same I H) : Ext I H I H := Ext.refl h
/-- a frozen sequence as the rules want it -/
theorem rp_lst {G : Gm} {I H : Hp} (h : Same I H) {xs : List PV} {v : V} (r : Rp G I (.lst xs) v) : ∃ a vs, v = .ref a ∧ H a = some (.lst vs) ∧ RpL G I xs vs := by
  cases r with
  | @lst a vs _ e l => exact ⟨a, vs, rfl, h _ _ e, l⟩
theorem rp_tup {G : Gm} {K : PySem.W.Frag} {I H : Hp} (h : Same I H) {xs : List PV} {v : V} (r : Rp G I (.tup xs) v) : ∃ a vs, v = .ref a ∧ SqT K H a vs ∧ RpL G I xs vs := by
  cases r with
  | @tup a vs _ e l => exact ⟨a, vs, rfl, .inl (rd_same h e), l⟩
theorem rp_scr {G : Gm} {K : PySem.W.Frag} {I H : Hp} (h : Same I H) {ns : List Int} {v : V} (r : Rp G I (.scr ns) v) : ∃ a, v = .ref a ∧ SqL K H a (ns.map V.int) := by
  cases r with
  | @scr a _ e => exact ⟨a, rfl, .inl (rd_same h e)⟩
theorem rpl_ints {G : Gm} {I : Hp} (ns : List Int) : RpL G I (ns.map PV.int) (ns.map V.int) := by
  induction ns with
  | nil => exact .nil
  | cons n ns ih => exact .cons (.int n) ih
def rAdd (K : PySem.W.Frag) : R2 := fun x y H Q => (rI0 fun i j => .int (i + j)) x y H Q ∨ rCat x y H Q ∨ rCatA K x y H Q ∨ (∃ i j, x = .str i ∧ y = .str j ∧ i.length + j.length ≤ sizeLine ∧ Q (.str (i ++ j)) H)
theorem h_add : OpR X (binaryOp .Add) (rAdd X.K) := op_add.or (op_cat.or (op_catA.or op_add_str))
def pAdd : PV → PV → Res Slot
  | .int i, .int j => .ok (.val (.int (i + j)))
  | .lst xs, .lst ys => if xs.length + ys.length ≤ sizeLine then .ok (.own (.lst (xs ++ ys))) else .stuck
  | .tup xs, .tup ys => if xs.length + ys.length ≤ sizeLine then .ok (.val (.tup (xs ++ ys))) else .stuck
  | .str x, .str y => if x.length + y.length ≤ sizeLine then .ok (.val (.str (x ++ y))) else .stuck
  | _, _ => .stuck
theorem o_add {K : PySem.W.Frag} : Op2 G (rAdd K) pAdd := by
  intro I H a b v w h ra rb
  unfold pAdd
  split
  · cases ra; cases rb
    exact fun Q k => .inl ⟨_, _, rfl, rfl, k I H _ (.refl h) (.int _)⟩
  · rename_i xs ys
    split
    · rename_i hl
      obtain ⟨a, vs, rfl, ea, la⟩ := rp_lst h ra
      obtain ⟨b, ws, rfl, eb, lb⟩ := rp_lst h rb
      refine fun Q k => .inr (.inl ⟨a, b, vs, ws, rfl, rfl, ea, eb, by rw [← la.length, ← lb.length]; exact hl, fun p hp => ?_⟩)
      exact k _ _ _ (Ext.new h hp) ⟨p, _, rfl, hp, same_none h hp, upd_same, _, rfl, la.append lb⟩
    · trivial
  · rename_i xs ys
    split
    · rename_i hl
      obtain ⟨a, vs, rfl, ea, la⟩ := rp_tup (K := K) h ra
      obtain ⟨b, ws, rfl, eb, lb⟩ := rp_tup (K := K) h rb
      refine fun Q k => .inr (.inr (.inl ⟨a, b, vs, ws, rfl, rfl, ea, eb, by rw [← la.length, ← lb.length]; exact hl, fun z => ?_, fun _ z => ?_, fun _ _ p hp => ?_⟩))
      · subst z
        cases la
        exact k I H _ (.refl h) rb
      · subst z
        cases lb
        rw [List.append_nil] at k
        exact k I H _ (.refl h) ra
      · have x := Ext.newF (o := .tup (vs ++ ws)) h hp
        exact k _ _ _ x (.tup (.inl upd_same) ((la.append lb).up x.le))
    · trivial
  · split
    · rename_i hl
      cases ra; cases rb
      exact fun Q k => .inr (.inr (.inr ⟨_, _, rfl, rfl, hl, k I H _ (.refl h) (.str _)⟩))
    · trivial
  · trivial
theorem de_add {a b : Expr} {E1 E2 : PX} (ha : DE X C T a E1) (hb : DE X C T b E2) : DE X C T (.BinOp a .Add b pos) (eBin pAdd E1 E2) := de_bin h_add o_add ha hb
/-- ints alone -/
def pI (c : Int → Int → Bool) (g : Int → Int → PV) : PV → PV → Res Slot
  | .int i, .int j => if c i j = true then .ok (.val (g i j)) else .stuck
  | _, _ => .stuck
theorem o_I {C : Int → Int → Prop} {c : Int → Int → Bool} {g : Int → Int → PV} {g' : Int → Int → V} (hc : ∀ i j, c i j = true → C i j) (hg : ∀ I i j, Rp G I (g i j) (g' i j)) : Op2 G (rI C g') (pI c g) := by
  intro I H a b v w h ra rb
  unfold pI
  split
  · split
    · rename_i e
      cases ra; cases rb
      exact fun Q k => ⟨_, _, rfl, rfl, hc _ _ e, k I H _ (.refl h) (hg I _ _)⟩
    · trivial
  · trivial
theorem o_I0 {g : Int → Int → PV} {g' : Int → Int → V} (hg : ∀ I i j, Rp G I (g i j) (g' i j)) : Op2 G (rI0 g') (pI (fun _ _ => true) g) := by
  intro I H a b v w h ra rb
  unfold pI
  split
  · cases ra; cases rb
    exact fun Q k => ⟨_, _, rfl, rfl, k I H _ (.refl h) (hg I _ _)⟩
  · trivial
def pSub := pI (fun _ _ => true) fun i j => .int (i - j)
def pMod := pI (fun _ j => decide (0 < j)) fun i j => .int (i % j)
def pFdiv := pI (fun _ j => decide (0 < j ∧ j.natAbs.log2 < 9000)) fun i j => .int (i / j)
def pPow := pI (fun i j => decide (0 ≤ j ∧ j ≤ 1000000 ∧ i.natAbs < 2 ^ 64)) fun i j => .int (i ^ j.toNat)
theorem de_sub {a b : Expr} {E1 E2 : PX} (ha : DE X C T a E1) (hb : DE X C T b E2) : DE X C T (.BinOp a .Sub b pos) (eBin pSub E1 E2) := de_bin op_sub (o_I0 fun _ _ _ => .int _) ha hb
theorem de_mod {a b : Expr} {E1 E2 : PX} (ha : DE X C T a E1) (hb : DE X C T b E2) : DE X C T (.BinOp a .Mod b pos) (eBin pMod E1 E2) := de_bin op_mod (o_I (fun _ _ h => of_decide_eq_true h) fun _ _ _ => .int _) ha hb
theorem de_fdiv {a b : Expr} {E1 E2 : PX} (ha : DE X C T a E1) (hb : DE X C T b E2) : DE X C T (.BinOp a .FloorDiv b pos) (eBin pFdiv E1 E2) := de_bin op_fdivW (o_I (C := CDivW) (fun _ _ h => (of_decide_eq_true h : _ ∧ _)) fun _ _ _ => .int _) ha hb
theorem de_pow {a b : Expr} {E1 E2 : PX} (ha : DE X C T a E1) (hb : DE X C T b E2) : DE X C T (.BinOp a .Pow b pos) (eBin pPow E1 E2) := de_bin op_pow (o_I (C := CPow) (fun _ _ h => (of_decide_eq_true h : _ ∧ _)) fun _ _ _ => .int _) ha hb
def CMulX (i j : Int) : Prop := CMulW i j ∨ i.natAbs < 2 ^ 64 ∨ j.natAbs < 2 ^ 64
theorem CMulX.ok {i j : Int} (h : CMulX i j) : IntMulOk i j := by
  rcases h with h | h | h
  · exact CMulW.ok h
  · exact CMul.ok (.inl (by omega))
  · exact CMul.ok (.inr (by omega))
theorem op_mulX {X : Cx} : OpR X (binaryOp .Mult) (rI CMulX fun i j => .int (i * j)) := opI fun _ _ _ _ _ _ _ hc q => mul_int q hc.ok
instance (i j : Int) : Decidable (CMulX i j) := by unfold CMulX CMulW; infer_instance
def pMul : PV → PV → Res Slot
  | .int i, .int j => if CMulX i j then .ok (.val (.int (i * j))) else .stuck
  | .lst xs, .int k => if -(2 ^ 63) ≤ k ∧ k < 2 ^ 63 ∧ xs.length * k.toNat ≤ sizeLine then .ok (.own (.lst (List.replicate k.toNat xs).flatten)) else .stuck
  | _, _ => .stuck
theorem rpl_rep {G : Gm} {I : Hp} {xs : List PV} {vs : List V} (l : RpL G I xs vs) : ∀ n : Nat, RpL G I (List.replicate n xs).flatten (List.replicate n vs).flatten
  | 0 => .nil
  | n + 1 => by simp only [List.replicate_succ, List.flatten_cons]; exact l.append (rpl_rep l n)
theorem o_mul : Op2 G (fun x y H Q => (rI CMulX fun i j => .int (i * j)) x y H Q ∨ rRep x y H Q) pMul := by
  intro I H a b v w h ra rb
  unfold pMul
  split
  · split
    · rename_i e
      cases ra; cases rb
      exact fun Q k => .inl ⟨_, _, rfl, rfl, e, k I H _ (.refl h) (.int _)⟩
    · trivial
  · split
    · rename_i e
      obtain ⟨a, vs, rfl, ea, la⟩ := rp_lst h ra
      cases rb
      refine fun Q k => .inr ⟨a, _, vs, rfl, rfl, ea, e.1, e.2.1, by rw [← la.length]; exact e.2.2, fun p hp => ?_⟩
      exact k _ _ _ (Ext.new h hp) ⟨p, _, rfl, hp, same_none h hp, upd_same, _, rfl, rpl_rep la _⟩
    · trivial
  · trivial
theorem de_mul {a b : Expr} {E1 E2 : PX} (ha : DE X C T a E1) (hb : DE X C T b E2) : DE X C T (.BinOp a .Mult b pos) (eBin pMul E1 E2) := de_bin (op_mulX.or op_rep) o_mul ha hb
def pNeg : PV → Res Slot
  | .int i => .ok (.val (.int (-i)))
  | _ => .stuck
theorem o_neg : Op1 G (rU fun i => .int (-i)) pNeg := by
  intro I H a v h ra
  unfold pNeg
  split
  · cases ra
    exact fun Q k => ⟨_, rfl, k I H _ (.refl h) (.int _)⟩
  · trivial
theorem de_neg {a : Expr} {E1 : PX} (ha : DE X C T a E1) : DE X C T (.UnaryOp .USub a pos) (eUn pNeg E1) := de_un un_neg o_neg ha
def pLt := pI (fun _ _ => true) fun i j => .bl (decide (i < j))
def pLe := pI (fun _ _ => true) fun i j => .bl (decide (i ≤ j))
def pGt := pI (fun _ _ => true) fun i j => .bl (decide (j < i))
def pGe := pI (fun _ _ => true) fun i j => .bl (decide (j ≤ i))
theorem h_lt : OpR X (compareOp .Lt) (rI0 fun i j => .bl (decide (i < j))) := op_lt
theorem o_lt : Op2 G (rI0 fun i j => .bl (decide (i < j))) pLt := o_I0 fun _ _ _ => .bl _
theorem o_le : Op2 G (rI0 fun i j => .bl (decide (i ≤ j))) pLe := o_I0 fun _ _ _ => .bl _
theorem o_gt : Op2 G (rI0 fun i j => .bl (decide (j < i))) pGt := o_I0 fun _ _ _ => .bl _
theorem o_ge : Op2 G (rI0 fun i j => .bl (decide (j ≤ i))) pGe := o_I0 fun _ _ _ => .bl _
def PV.isNon : PV → Bool
  | .non => true
  | _ => false
theorem rp_non {I : Hp} {x : PV} {v : V} (r : Rp G I x v) : decide (v = .non) = x.isNon := by cases r <;> simp [PV.isNon]
def pIsN : PV → PV → Res Slot
  | x, .non => .ok (.val (.bl x.isNon))
  | _, _ => .stuck
def pNotN : PV → PV → Res Slot
  | x, .non => .ok (.val (.bl (!x.isNon)))
  | _, _ => .stuck
theorem o_isN : Op2 G (fun x y H Q => y = .non ∧ Q (.bl (decide (x = .non))) H) pIsN := by
  intro I H a b v w h ra rb
  unfold pIsN
  split
  · cases rb
    exact fun Q k => ⟨rfl, by rw [rp_non ra]; exact k I H _ (.refl h) (.bl _)⟩
  · trivial
theorem o_notN : Op2 G (fun x y H Q => y = .non ∧ Q (.bl (!decide (x = .non))) H) pNotN := by
  intro I H a b v w h ra rb
  unfold pNotN
  split
  · cases rb
    exact fun Q k => ⟨rfl, by rw [rp_non ra]; exact k I H _ (.refl h) (.bl _)⟩
  · trivial
mutual
def PV.pd : PV → Option PyData
  | .non => some .none
  | .bl b => some (.bool b)
  | .int i => some (.int i)
  | .str x => some (.str x)
  | .tup xs => (PV.pds xs).map .tuple
  | .lst xs => (PV.pds xs).map .list
  | .scr ns => some (.list (ns.map .int))
  | .ty _ => none
  | .cl _ => none
  | .dct _ => none
  | .ins _ _ => none
def PV.pds : List PV → Option (List PyData)
  | [] => some []
  | x :: xs => match x.pd, PV.pds xs with
    | some d, some ds => some (d :: ds)
    | _, _ => none
end
theorem dp_ints {K : PySem.W.Frag} {H : Hp} : ∀ ns : List Int, DpAll K H (ns.map V.int) (ns.map PyData.int) ∧ PyData.plainAll (ns.map PyData.int) = true
  | [] => ⟨.nil, rfl⟩
  | n :: ns => ⟨.cons (.int n) (dp_ints ns).1, by simp only [List.map_cons, PyData.plainAll, PyData.plain, (dp_ints (K := K) (H := H) ns).2]; rfl⟩
mutual
theorem rp_dp {K : PySem.W.Frag} {I H : Hp} (h : Same I H) : ∀ {x : PV} {v : V} {d : PyData}, Rp G I x v → x.pd = some d → Dp K H v d ∧ d.plain = true
  | _, _, _, .non, e => by simp only [PV.pd, Option.some.injEq] at e; subst e; exact ⟨.non, rfl⟩
  | _, _, _, .bl b, e => by simp only [PV.pd, Option.some.injEq] at e; subst e; exact ⟨.bl b, rfl⟩
  | _, _, _, .int i, e => by simp only [PV.pd, Option.some.injEq] at e; subst e; exact ⟨.int i, rfl⟩
  | _, _, _, .str x, e => by simp only [PV.pd, Option.some.injEq] at e; subst e; exact ⟨.str x, rfl⟩
  | _, _, _, .ty n, e => by simp [PV.pd] at e
  | _, _, _, .cl n, e => by simp [PV.pd] at e
  | _, _, _, @Rp.tup _ _ a vs xs r l, e => by
    simp only [PV.pd, Option.map_eq_some_iff] at e
    obtain ⟨ds, e1, e2⟩ := e
    subst e2
    have q := rpl_dp (K := K) h l e1
    exact ⟨.tup (.inl (rd_same h r)) q.1, by simp only [PyData.plain]; exact q.2⟩
  | _, _, _, @Rp.lst _ _ a vs xs r l, e => by
    simp only [PV.pd, Option.map_eq_some_iff] at e
    obtain ⟨ds, e1, e2⟩ := e
    subst e2
    have q := rpl_dp (K := K) h l e1
    exact ⟨.lst (.inl (.inl (h _ _ r))) q.1, by simp only [PyData.plain]; exact q.2⟩
  | _, _, _, @Rp.scr _ _ a ns r, e => by
    simp only [PV.pd, Option.some.injEq] at e
    subst e
    exact ⟨.lst (.inl (rd_same h r)) (dp_ints ns).1, by simp only [PyData.plain]; exact (dp_ints (K := K) (H := H) ns).2⟩
  | _, _, _, .dct r l, e => by simp [PV.pd] at e
  | _, _, _, .ins r l, e => by simp [PV.pd] at e
theorem rpl_dp {K : PySem.W.Frag} {I H : Hp} (h : Same I H) : ∀ {xs : List PV} {vs : List V} {ds : List PyData}, RpL G I xs vs → PV.pds xs = some ds → DpAll K H vs ds ∧ PyData.plainAll ds = true
  | _, _, _, .nil, e => by simp only [PV.pds, Option.some.injEq] at e; subst e; exact ⟨.nil, rfl⟩
  | _, _, _, @RpL.cons _ _ x v xs vs r l, e => by
    simp only [PV.pds] at e
    split at e
    · rename_i d ds e1 e2
      simp only [Option.some.injEq] at e
      subst e
      have q1 := rp_dp (K := K) h r e1
      have q2 := rpl_dp (K := K) h l e2
      exact ⟨.cons q1.1 q2.1, by simp only [PyData.plainAll, q1.2, q2.2]; rfl⟩
    · cases e
end
def rEqP (K : PySem.W.Frag) (neg : Bool) : R2 := fun x y H Q => ∃ d e, Dp K H x d ∧ Dp K H y e ∧ d.plain = true ∧ e.plain = true ∧ min d.depth e.depth ≤ 64 ∧ Q (.bl (if neg then !PyData.eqv d e else PyData.eqv d e)) H
theorem op_eqP (hu : X.A.units + 64 < cLine) : OpR X (compareOp .Eq) (rEqP X.K false) := by
  intro pins s σ H x y v u Q I rx ry h
  obtain ⟨d, e, hd, he, sd, se, hm, q⟩ := h
  obtain ⟨as, r1⟩ := Dp.reads I d x v hd rx
  obtain ⟨bs, r2⟩ := Dp.reads I e y u he ry
  exact SeqAt.rcAt_plain r1 r2 sd se (by omega) _ _ _ _ ⟨.bl _, H, I, rfl, q⟩
theorem op_neP (hu : X.A.units + 64 < cLine) : OpR X (compareOp .NotEq) (rEqP X.K true) := by
  intro pins s σ H x y v u Q I rx ry h
  obtain ⟨d, e, hd, he, sd, se, hm, q⟩ := h
  obtain ⟨as, r1⟩ := Dp.reads I d x v hd rx
  obtain ⟨bs, r2⟩ := Dp.reads I e y u he ry
  exact SeqAt.rcNe_plain r1 r2 sd se (by omega) _ _ _ _ ⟨.bl _, H, I, rfl, q⟩
/-- a == b, where both are plain data -/
def eqB (a b : PV) : Option Bool := match a.pd, b.pd with
  | some d, some e => if min d.depth e.depth ≤ 64 then some (PyData.eqv d e) else none
  | _, _ => none
def pEq (a b : PV) : Res Slot := match eqB a b with
  | some t => .ok (.val (.bl t))
  | none => .stuck
def pNe (a b : PV) : Res Slot := match eqB a b with
  | some t => .ok (.val (.bl (!t)))
  | none => .stuck
theorem eqB_some {a b : PV} {t : Bool} (h : eqB a b = some t) : ∃ d e, a.pd = some d ∧ b.pd = some e ∧ min d.depth e.depth ≤ 64 ∧ t = PyData.eqv d e := by
  unfold eqB at h
  split at h
  · rename_i d e h1 h2
    split at h
    · rename_i hm
      cases h
      exact ⟨d, e, h1, h2, hm, rfl⟩
    · cases h
  · cases h
theorem o_eq {K : PySem.W.Frag} : Op2 G (rEqP K false) pEq := by
  intro I H a b v w h ra rb
  unfold pEq
  split
  · rename_i t e
    obtain ⟨d, d', e1, e2, hm, rfl⟩ := eqB_some e
    have q1 := rp_dp (K := K) h ra e1
    have q2 := rp_dp (K := K) h rb e2
    exact fun Q k => ⟨d, d', q1.1, q2.1, q1.2, q2.2, hm, k I H _ (.refl h) (.bl _)⟩
  · trivial
theorem o_ne {K : PySem.W.Frag} : Op2 G (rEqP K true) pNe := by
  intro I H a b v w h ra rb
  unfold pNe
  split
  · rename_i t e
    obtain ⟨d, d', e1, e2, hm, rfl⟩ := eqB_some e
    have q1 := rp_dp (K := K) h ra e1
    have q2 := rp_dp (K := K) h rb e2
    exact fun Q k => ⟨d, d', q1.1, q2.1, q1.2, q2.2, hm, k I H _ (.refl h) (.bl _)⟩
  · trivial
end
end BF

set_option maxRecDepth 100000
set_option maxHeartbeats 4000000
namespace BF
open PySem PySem.Spec L2
open PyProof.Rows hiding St
set_option autoImplicit false

section
variable {G : Gm} {X : Cx} {C : Dc} {T : List Nat} {pos : Pos}
theorem atI_get {G : Gm} {I : Hp} {xs : List PV} {vs : List V} {i : Int} {x : PV} (l : RpL G I xs vs) (h : atI xs i = some x) : ∃ v, atI vs i = some v ∧ Rp G I x v := by
  unfold atI at h ⊢
  rw [← l.length]
  obtain ⟨j, e1, e2⟩ := Option.bind_eq_some_iff.mp h
  obtain ⟨v, h1, h2⟩ := l.get e2
  exact ⟨v, by rw [e1]; exact h1, h2⟩
def pAt (xs : List PV) (i : Int) : Res Slot := match atI xs i with
  | some x => .ok (.val x)
  | none => .stuck
def pIx : PV → PV → Res Slot
  | .lst xs, .int i => pAt xs i
  | .tup xs, .int i => pAt xs i
  | .scr ns, .int i => pAt (ns.map .int) i
  | .str z, .int i => if z.length ≤ sizeLine then (match atI z.cps.toList i with
    | some c => .ok (.val (.str ⟨#[c]⟩))
    | none => .stuck) else .stuck
  | _, _ => .stuck
def rIx (K : PySem.W.Frag) : R2 := fun x y H Q => rIxL K x y H Q ∨ rIxT K x y H Q ∨ rIxS x y H Q
theorem h_ix : IxR X (rIx X.K) := ix_list.or (ix_tup.or ix_str)
theorem o_ix {K : PySem.W.Frag} : Op2 G (rIx K) pIx := by
  intro I H a b v w h ra rb
  unfold pIx
  split
  · obtain ⟨a, vs, rfl, ea, la⟩ := rp_lst h ra
    cases rb
    unfold pAt
    split
    · rename_i x e
      obtain ⟨u, e1, r1⟩ := atI_get la e
      exact fun Q k => .inl ⟨a, vs, _, u, rfl, rfl, .inl (.inl ea), e1, k I H _ (.refl h) r1⟩
    · trivial
  · obtain ⟨a, vs, rfl, ea, la⟩ := rp_tup (K := K) h ra
    cases rb
    unfold pAt
    split
    · rename_i x e
      obtain ⟨u, e1, r1⟩ := atI_get la e
      exact fun Q k => .inr (.inl ⟨a, vs, _, u, rfl, rfl, ea, e1, k I H _ (.refl h) r1⟩)
    · trivial
  · obtain ⟨a, rfl, ea⟩ := rp_scr (K := K) h ra
    cases rb
    unfold pAt
    split
    · rename_i x e
      obtain ⟨u, e1, r1⟩ := atI_get (I := I) (G := G) (rpl_ints _) e
      exact fun Q k => .inl ⟨a, _, _, u, rfl, rfl, ea, e1, k I H _ (.refl h) r1⟩
    · trivial
  · split
    · rename_i hz
      cases ra; cases rb
      split
      · rename_i c e
        exact fun Q k => .inr (.inr ⟨_, _, c, rfl, rfl, hz, e, k I H _ (.refl h) (.str _)⟩)
      · trivial
    · trivial
  · trivial
theorem de_ixD {a b : Expr} {E1 E2 : PX} (ha : DE X C T a E1) (hb : DE X C T b E2) (hs : PlainIx b := by exact fun _ _ => rfl) : DE X C T (.Subscript a b pos) (eBin pIx E1 E2) := de_ix h_ix o_ix ha hb hs
abbrev OX := En → Res (Option Int × En)
def tO' (G : Gm) (σ0 : St) (W : WX) (T : List Nat) (σ : St) (I H : Hp) (ρ : En) (Q : Option Int → Hp → Prop) : Res (Option Int × En) → Prop
  | .ok (o, ρ') => ∀ I' H', XE G σ0 T σ I H ρ I' H' ρ' → Q o H'
  | .exc c => ∀ I' H', XX T σ ρ I H I' H' → W (.ref (G.cls c)) none σ H'
  | .stuck => False
def tOo (G : Gm) (σ0 : St) (W : WX) (T : List Nat) (E : OX) : TO := fun σ H Q => ∃ I ρ, SR G σ0 I H σ ρ ∧ tO' G σ0 W T σ I H ρ Q (E ρ)
structure DO' (X : Cx) (C : Dc) (T : List Nat) (e : Option Expr) (E : OX) : Prop where
  ex : ∃ t : TO, PO X e t ∧ ∀ σ H Q, tOo C.G C.σ0 C.W T E σ H Q → t σ H Q
def oN : OX := fun ρ => .ok (none, ρ)
def oS (E : PX) : OX := fun ρ => E ρ >>= fun p => match p.1.pv with
  | .int i => .ok (some i, p.2)
  | _ => .stuck
theorem do_none : DO' X C T none oN := ⟨_, po_none, fun σ H Q ⟨I, ρ, r, k⟩ => k I H (.refl r)⟩
theorem tO.next {σ : St} {I H I1 H1 : Hp} {ρ ρ1 : En} {G : Gm} {σ0 : St} {W : WX} {E1 : PX} {K : Slot × En → Res (Option Int × En)} {Q : Option Int → Hp → Prop} (r : SR G σ0 I H σ ρ) (a : XE G σ0 T σ I H ρ I1 H1 ρ1) (h : tO' G σ0 W T σ I H ρ Q (E1 ρ1 >>= K)) {R : VK}
    (hR : ∀ (s : Slot) (ρ2 : En) (I2 H2 : Hp) (v : V), XE G σ0 T σ I H ρ I2 H2 ρ2 → Same I1 I2 → Rp G I2 s.pv v → tO' G σ0 W T σ I H ρ Q (K (.val s.pv, ρ2)) → R v H2)
    (hK : ∀ (s : Slot) (ρ2 : En), K (s, ρ2) = K (.val s.pv, ρ2)) : tX G σ0 W T E1 σ H1 R := by
  refine ⟨I1, ρ1, a.sr, ?_⟩
  cases e : E1 ρ1 with
  | ok q =>
    obtain ⟨s, ρ2⟩ := q
    rw [e] at h
    intro I2 H2 v x w
    obtain ⟨I3, x3, le, p⟩ := (a.trans x).frz r (w.of1 a)
    have h' : tO' G σ0 W T σ I H ρ Q (K (s, ρ2)) := h
    rw [hK] at h'
    exact hR (.val s.pv) ρ2 I3 H2 v x3 (x.le.trans le) p h'
  | exc c =>
    rw [e] at h
    intro I2 H2 x
    exact h I2 H2 (a.xx x)
  | stuck => rw [e] at h; exact h
theorem do_some {e : Expr} {E : PX} (h : DE X C T e E) : DO' X C T (some e) (oS E) := ⟨_, po_some h, fun σ H Q ⟨I, ρ, r, k⟩ => by
  refine tO.next r (.refl r) k (fun s ρ1 I1 H1 v x1 _ p1 k1 => ?_) fun _ _ => rfl
  revert k1 p1
  simp only [pv_val]
  cases s.pv <;> intro p1 k1 <;> first | exact k1.elim | skip
  rename_i i
  cases p1
  exact ⟨i, rfl, k1 I1 H1 x1⟩⟩
def cutL (xs : List PV) (lo hi : Option Int) : List PV := (xs.drop (HT.sIx xs.length 0 lo)).take (HT.sIx xs.length xs.length hi - HT.sIx xs.length 0 lo)
theorem cutL_rp {I : Hp} {xs : List PV} {vs : List V} (l : RpL G I xs vs) (lo hi : Option Int) : RpL G I (cutL xs lo hi) (cutV vs lo hi) := by
  unfold cutL cutV
  rw [l.length]
  exact (l.drop _).take _
theorem cutL_all {xs : List PV} {lo hi : Option Int} (h1 : HT.sIx xs.length 0 lo = 0) (h2 : HT.sIx xs.length xs.length hi = xs.length) : cutL xs lo hi = xs := by
  unfold cutL
  rw [h1, h2]
  simp
def pSl : PV → Option Int → Option Int → Res Slot
  | .lst xs, lo, hi => .ok (.own (.lst (cutL xs lo hi)))
  | .tup xs, lo, hi => .ok (.val (.tup (cutL xs lo hi)))
  | .str z, lo, hi => if z.length ≤ sizeLine then .ok (.val (.str (cutS z lo hi))) else .stuck
  | _, _, _ => .stuck
def rSl (K : PySem.W.Frag) : V → Option Int → Option Int → Hp → VK → Prop := fun x lo hi H Q => rSlL K x lo hi H Q ∨ rSlA K x lo hi H Q ∨ rSlS x lo hi H Q
theorem o_sl {K : PySem.W.Frag} {I H : Hp} {a : PV} {v : V} (lo hi : Option Int) (h : Same I H) (ra : Rp G I a v) : Sat (pSl a lo hi) fun s => ∀ Q : VK, (∀ I' H' u, Ext I H I' H' → RS G H I' H' s u → Q u H') → rSl K v lo hi H Q := by
  unfold pSl
  split
  · obtain ⟨a, vs, rfl, ea, la⟩ := rp_lst h ra
    refine fun Q k => .inl ⟨a, vs, rfl, .inl (.inl ea), fun p hp => ?_⟩
    exact k _ _ _ (Ext.new h hp) ⟨p, _, rfl, hp, same_none h hp, upd_same, _, rfl, cutL_rp la lo hi⟩
  · obtain ⟨a, vs, rfl, ea, la⟩ := rp_tup (K := K) h ra
    refine fun Q k => .inr (.inl ⟨a, vs, rfl, ea, fun z => ?_, fun _ p hp => ?_⟩)
    · rw [← la.length] at z
      rw [cutL_all z.1 z.2] at k
      exact k I H _ (.refl h) ra
    · have x := Ext.newF (o := .tup (cutV vs lo hi)) h hp
      exact k _ _ _ x (.tup (.inl upd_same) ((cutL_rp la lo hi).up x.le))
  · split
    · rename_i hz
      cases ra
      exact fun Q k => .inr (.inr ⟨_, rfl, hz, k I H _ (.refl h) (.str _)⟩)
    · trivial
  · trivial
def eSl (E : PX) (A B : OX) : PX := fun ρ => E ρ >>= fun p => A p.2 >>= fun a => B a.2 >>= fun b => pSl p.1.pv a.1 b.1 >>= fun s => .ok (s, b.2)
theorem tK.nextO {G : Gm} {σ0 : St} {W : WX} {T : List Nat} {σ : St} {I H I1 H1 : Hp} {ρ ρ1 : En} {Q : VK} {E1 : OX} {K : Option Int × En → Res (Slot × En)} (a : XE G σ0 T σ I H ρ I1 H1 ρ1) (h : tK G σ0 W T σ I H ρ Q (E1 ρ1 >>= K)) {R : Option Int → Hp → Prop}
    (hR : ∀ o ρ2 I2 H2, XE G σ0 T σ I H ρ I2 H2 ρ2 → Same I1 I2 → tK G σ0 W T σ I H ρ Q (K (o, ρ2)) → R o H2) : tOo G σ0 W T E1 σ H1 R := by
  refine ⟨I1, ρ1, a.sr, ?_⟩
  cases e : E1 ρ1 with
  | ok q =>
    obtain ⟨s, ρ2⟩ := q
    rw [e] at h
    intro I2 H2 x
    exact hR s ρ2 I2 H2 (a.trans x) x.le h
  | exc c =>
    rw [e] at h
    intro I2 H2 x
    exact h I2 H2 (a.xx x)
  | stuck => rw [e] at h; exact h
theorem de_slice {e : Expr} {lo hi : Option Expr} {E : PX} {A B : OX} {p2 : Pos} (he : DE X C T e E) (hl : DO' X C T lo A) (hu : DO' X C T hi B) : DE X C T (.Subscript e (.Slice lo hi none p2) pos) (eSl E A B) := by
  obtain ⟨tl, pl, kl⟩ := hl.ex
  obtain ⟨tu, pu, ku⟩ := hu.ex
  refine PE.imp (pe_slice (r := rSl X.K) (sl_list.or (sl_tupA.or sl_str)) he pl pu) fun σ H Q ⟨I, ρ, sr, k⟩ => ?_
  refine tK.next sr (.refl sr) k (fun s ρ1 I1 H1 v x1 _ _ p1 k1 => kl _ _ _ ?_) fun _ _ => rfl
  refine tK.nextO x1 k1 fun o ρ2 I2 H2 x2 le k2 => ku _ _ _ ?_
  refine tK.nextO x2 k2 fun o' ρ3 I3 H3 x3 le3 k3 => ?_
  exact tK.fin (P := fun R => rSl X.K v o o' H3 R) x3 (o_sl (K := X.K) o o' x3.same ((p1.up le).up le3)) k3
/-- xs[::-1] -/
def pRev : PV → Res Slot
  | .lst xs => .ok (.own (.lst xs.reverse))
  | _ => .stuck
theorem de_revL {e : Expr} {E : PX} {k : Nat} {p1 p2 p3 : Pos} (he : DE X C T e E) : DE X C T (.Subscript e (.Slice none none (some (.UnaryOp .USub (.Constant (.int 1) k p1) p2)) p3) pos) (eUn pRev E) := by
  refine PE.imp (pe_revL he) fun σ H Q h => tUn_of (r := fun x H1 Q => ∃ a xs, x = .ref a ∧ SqL X.K H1 a xs ∧ ∀ p, H1 p = none → Q (.ref p) (upd H1 p (.lst xs.reverse))) (fun I H a v h ra => ?_) σ H Q h
  unfold pRev
  split
  · obtain ⟨a, vs, rfl, ea, la⟩ := rp_lst h ra
    refine fun Q k => ⟨a, vs, rfl, .inl (.inl ea), fun p hp => ?_⟩
    exact k _ _ _ (Ext.new h hp) ⟨p, _, rfl, hp, same_none h hp, upd_same, _, rfl, la.reverse⟩
  · trivial
def pLen : List PV → Res Slot
  | [.lst xs] => .ok (.val (.int xs.length))
  | [.tup xs] => .ok (.val (.int xs.length))
  | [.scr ns] => .ok (.val (.int ns.length))
  | [.str z] => if z.length ≤ sizeLine then .ok (.val (.int z.length)) else .stuck
  | _ => .stuck
def rLen (K : PySem.W.Frag) : List V → Hp → VK → Prop := fun xs H Q => (∃ p ys, xs = [.ref p] ∧ (SqL K H p ys ∨ SqT K H p ys) ∧ Q (.int ys.length) H) ∨ (∃ z, xs = [.str z] ∧ z.length ≤ sizeLine ∧ Q (.int z.length) H)
theorem h_len : CallR X (.builtin "len") (rLen X.K) := call_len_seq.or call_len_str
theorem o_len {K : PySem.W.Frag} : OpN G (rLen K) pLen := by
  intro I H xs vs h l
  unfold pLen
  split
  · obtain ⟨v, rfl, r⟩ := rpl1 l
    obtain ⟨a, ws, rfl, ea, la⟩ := rp_lst h r
    exact fun Q k => .inl ⟨a, ws, rfl, .inl (.inl (.inl ea)), by rw [la.length] at k; exact k I H _ (.refl h) (.int _)⟩
  · obtain ⟨v, rfl, r⟩ := rpl1 l
    obtain ⟨a, ws, rfl, ea, la⟩ := rp_tup (K := K) h r
    exact fun Q k => .inl ⟨a, ws, rfl, .inr ea, by rw [la.length] at k; exact k I H _ (.refl h) (.int _)⟩
  · obtain ⟨v, rfl, r⟩ := rpl1 l
    obtain ⟨a, rfl, ea⟩ := rp_scr (K := K) h r
    exact fun Q k => .inl ⟨a, _, rfl, .inl ea, by rw [List.length_map]; exact k I H _ (.refl h) (.int _)⟩
  · split
    · rename_i hz
      obtain ⟨v, rfl, r⟩ := rpl1 l
      cases r
      exact fun Q k => .inr ⟨_, rfl, hz, k I H _ (.refl h) (.int _)⟩
    · trivial
  · trivial
/-- list(x), tuple(x) of a sequence -/
def pList : List PV → Res Slot
  | [.lst xs] => .ok (.own (.lst xs))
  | [.tup xs] => .ok (.own (.lst xs))
  | [.scr ns] => .ok (.own (.lst (ns.map .int)))
  | _ => .stuck
theorem o_list {K : PySem.W.Frag} : OpN G (fun xs H Q => ∃ p ys, xs = [.ref p] ∧ (SqL K H p ys ∨ SqT K H p ys) ∧ ∀ l, H l = none → Q (.ref l) (upd H l (.lst ys))) pList := by
  intro I H xs vs h l
  unfold pList
  split
  · obtain ⟨v, rfl, r⟩ := rpl1 l
    obtain ⟨a, ws, rfl, ea, la⟩ := rp_lst h r
    refine fun Q k => ⟨a, ws, rfl, .inl (.inl (.inl ea)), fun p hp => ?_⟩
    exact k _ _ _ (Ext.new h hp) ⟨p, _, rfl, hp, same_none h hp, upd_same, _, rfl, la⟩
  · obtain ⟨v, rfl, r⟩ := rpl1 l
    obtain ⟨a, ws, rfl, ea, la⟩ := rp_tup (K := K) h r
    refine fun Q k => ⟨a, ws, rfl, .inr ea, fun p hp => ?_⟩
    exact k _ _ _ (Ext.new h hp) ⟨p, _, rfl, hp, same_none h hp, upd_same, _, rfl, la⟩
  · obtain ⟨v, rfl, r⟩ := rpl1 l
    obtain ⟨a, rfl, ea⟩ := rp_scr (K := K) h r
    refine fun Q k => ⟨a, _, rfl, .inl ea, fun p hp => ?_⟩
    exact k _ _ _ (Ext.new h hp) ⟨p, _, rfl, hp, same_none h hp, upd_same, _, rfl, rpl_ints _⟩
  · trivial
def pTuple : List PV → Res Slot
  | [.lst xs] => .ok (.val (.tup xs))
  | [.tup xs] => .ok (.val (.tup xs))
  | _ => .stuck
theorem o_tuple {K : PySem.W.Frag} : OpN G (fun xs H Q => ∃ p ys, xs = [.ref p] ∧ ((SqL K H p ys ∧ ∀ l, H l = none → Q (.ref l) (upd H l (.tup ys))) ∨ (SqT K H p ys ∧ Q (.ref p) H))) pTuple := by
  intro I H xs vs h l
  unfold pTuple
  split
  · obtain ⟨v, rfl, r⟩ := rpl1 l
    obtain ⟨a, ws, rfl, ea, la⟩ := rp_lst h r
    refine fun Q k => ⟨a, ws, rfl, .inl ⟨.inl (.inl ea), fun p hp => ?_⟩⟩
    have x := Ext.newF (o := .tup ws) h hp
    exact k _ _ _ x (.tup (.inl upd_same) (la.up x.le))
  · obtain ⟨v, rfl, r⟩ := rpl1 l
    obtain ⟨a, ws, rfl, ea, la⟩ := rp_tup (K := K) h r
    exact fun Q k => ⟨a, ws, rfl, .inr ⟨ea, k I H _ (.refl h) r⟩⟩
  · trivial
def ints? : List PV → Option (List Int)
  | [] => some []
  | .int i :: xs => (ints? xs).map (i :: ·)
  | _ => none
theorem ints?_eq : ∀ {xs : List PV} {ns : List Int}, ints? xs = some ns → xs = ns.map .int
  | [], ns, h => by simp only [ints?, Option.some.injEq] at h; subst h; rfl
  | .int i :: xs, ns, h => by
    simp only [ints?, Option.map_eq_some_iff] at h
    obtain ⟨ms, e1, e2⟩ := h
    subst e2
    rw [ints?_eq e1]; rfl
@[simp] theorem ints?_map : ∀ ns : List Int, ints? (ns.map PV.int) = some ns
  | [] => rfl
  | n :: ns => by simp [ints?, ints?_map ns]
theorem rpl_ints_eq {I : Hp} : ∀ {ns : List Int} {vs : List V}, RpL G I (ns.map PV.int) vs → vs = ns.map V.int
  | [], _, .nil => rfl
  | n :: ns, _, .cons r l => by cases r; rw [rpl_ints_eq l]; rfl
def intsOf : PV → Option (List Int)
  | .lst xs => ints? xs
  | .scr ns => some ns
  | _ => none
theorem intsOf_rp {K : PySem.W.Frag} {I H : Hp} (h : Same I H) {x : PV} {v : V} {ns : List Int} (r : Rp G I x v) (e : intsOf x = some ns) : ∃ a, v = .ref a ∧ SqL K H a (ns.map V.int) := by
  unfold intsOf at e
  split at e
  · obtain ⟨a, ws, rfl, ea, la⟩ := rp_lst h r
    have e2 := ints?_eq e
    subst e2
    rw [rpl_ints_eq la] at ea
    exact ⟨a, rfl, .inl (.inl ea)⟩
  · cases e
    exact rp_scr h r
  · cases e
def pInts (f : List Int → Option PV) : List PV → Res Slot
  | [x] => match (intsOf x).bind f with
    | some y => .ok (.val y)
    | none => .stuck
  | _ => .stuck
def pSum := pInts fun ns => some (.int ns.sum)
theorem o_sum {K : PySem.W.Frag} : OpN G (rSum K) pSum := by
  intro I H xs vs h l
  unfold pSum pInts
  split
  · split
    · rename_i x y e
      obtain ⟨ns, e1, e2⟩ := Option.bind_eq_some_iff.mp e
      obtain ⟨v, rfl, r⟩ := rpl1 l
      obtain ⟨a, rfl, ea⟩ := intsOf_rp (K := K) h r e1
      cases e2
      exact fun Q k => ⟨a, ns, rfl, ea, k I H _ (.refl h) (.int _)⟩
    · trivial
  · trivial
def maxI : List Int → Int
  | [] => 0
  | [n] => n
  | n :: ns => let m := maxI ns; if m ≤ n then n else m
def minI : List Int → Int
  | [] => 0
  | [n] => n
  | n :: ns => let m := minI ns; if n ≤ m then n else m
theorem maxI_ok : ∀ {ns : List Int}, ns ≠ [] → maxI ns ∈ ns ∧ ∀ y ∈ ns, y ≤ maxI ns
  | [], h => (h rfl).elim
  | [n], _ => by simp [maxI]
  | n :: m :: ns, _ => by
    obtain ⟨h1, h2⟩ := maxI_ok (ns := m :: ns) (by simp)
    simp only [maxI]
    by_cases e : maxI (m :: ns) ≤ n
    · rw [if_pos e]
      refine ⟨by simp, fun y hy => ?_⟩
      rcases List.mem_cons.mp hy with rfl | hy
      · exact Int.le_refl _
      · exact Int.le_trans (h2 y hy) e
    · rw [if_neg e]
      refine ⟨List.mem_cons_of_mem _ h1, fun y hy => ?_⟩
      rcases List.mem_cons.mp hy with rfl | hy
      · have := h2; omega
      · exact h2 y hy
theorem minI_ok : ∀ {ns : List Int}, ns ≠ [] → minI ns ∈ ns ∧ ∀ y ∈ ns, minI ns ≤ y
  | [], h => (h rfl).elim
  | [n], _ => by simp [minI]
  | n :: m :: ns, _ => by
    obtain ⟨h1, h2⟩ := minI_ok (ns := m :: ns) (by simp)
    simp only [minI]
    by_cases e : n ≤ minI (m :: ns)
    · rw [if_pos e]
      refine ⟨by simp, fun y hy => ?_⟩
      rcases List.mem_cons.mp hy with rfl | hy
      · exact Int.le_refl _
      · exact Int.le_trans e (h2 y hy)
    · rw [if_neg e]
      refine ⟨List.mem_cons_of_mem _ h1, fun y hy => ?_⟩
      rcases List.mem_cons.mp hy with rfl | hy
      · have := h2; omega
      · exact h2 y hy
def pMax : List PV → Res Slot
  | [.int i, .int j] => .ok (.val (.int (if j > i then j else i)))
  | [x] => match intsOf x with
    | some ns => if ns = [] then .stuck else .ok (.val (.int (maxI ns)))
    | none => .stuck
  | _ => .stuck
def pMin : List PV → Res Slot
  | [.int i, .int j] => .ok (.val (.int (if j < i then j else i)))
  | [x] => match intsOf x with
    | some ns => if ns = [] then .stuck else .ok (.val (.int (minI ns)))
    | none => .stuck
  | _ => .stuck
theorem o_max {K : PySem.W.Frag} : OpN G (fun xs H Q => (∃ i j, xs = [V.int i, V.int j] ∧ Q (.int (if j > i then j else i)) H) ∨ rMax K xs H Q) pMax := by
  intro I H xs vs h l
  unfold pMax
  split
  · obtain ⟨v, w, rfl, r, q⟩ := rpl2 l
    cases r; cases q
    exact fun Q k => .inl ⟨_, _, rfl, k I H _ (.refl h) (.int _)⟩
  · split
    · split
      · trivial
      · rename_i ns e hn
        obtain ⟨v, rfl, r⟩ := rpl1 l
        obtain ⟨a, rfl, ea⟩ := intsOf_rp (K := K) h r e
        refine fun Q k => .inr ⟨a, ns, rfl, ea, List.length_pos_iff.mpr hn, fun m hm hy => ?_⟩
        have e2 : m = maxI ns := Int.le_antisymm ((maxI_ok hn).2 m hm) (hy _ (maxI_ok hn).1)
        rw [e2]
        exact k I H _ (.refl h) (.int _)
    · trivial
  · trivial
theorem o_min {K : PySem.W.Frag} : OpN G (fun xs H Q => (∃ i j, xs = [V.int i, V.int j] ∧ Q (.int (if j < i then j else i)) H) ∨ rMin K xs H Q) pMin := by
  intro I H xs vs h l
  unfold pMin
  split
  · obtain ⟨v, w, rfl, r, q⟩ := rpl2 l
    cases r; cases q
    exact fun Q k => .inl ⟨_, _, rfl, k I H _ (.refl h) (.int _)⟩
  · split
    · split
      · trivial
      · rename_i ns e hn
        obtain ⟨v, rfl, r⟩ := rpl1 l
        obtain ⟨a, rfl, ea⟩ := intsOf_rp (K := K) h r e
        refine fun Q k => .inr ⟨a, ns, rfl, ea, List.length_pos_iff.mpr hn, fun m hm hy => ?_⟩
        have e2 : m = minI ns := Int.le_antisymm (hy _ (minI_ok hn).1) ((minI_ok hn).2 m hm)
        rw [e2]
        exact k I H _ (.refl h) (.int _)
    · trivial
  · trivial
def bls? : List PV → Option (List Bool)
  | [] => some []
  | .bl i :: xs => (bls? xs).map (i :: ·)
  | _ => none
@[simp] theorem bls?_map : ∀ ns : List Bool, bls? (ns.map PV.bl) = some ns
  | [] => rfl
  | n :: ns => by simp [bls?, bls?_map ns]
theorem bls?_rp {I : Hp} : ∀ {xs : List PV} {ns : List Bool} {vs : List V}, bls? xs = some ns → RpL G I xs vs → vs = ns.map V.bl
  | [], ns, _, h, .nil => by simp only [bls?, Option.some.injEq] at h; subst h; rfl
  | .bl i :: xs, ns, _, h, .cons r l => by
    simp only [bls?, Option.map_eq_some_iff] at h
    obtain ⟨ms, e1, e2⟩ := h
    subst e2
    cases r
    rw [bls?_rp e1 l]; rfl
def pBls (f : List Bool → Bool) : List PV → Res Slot
  | [.lst xs] => match bls? xs with
    | some bs => .ok (.val (.bl (f bs)))
    | none => .stuck
  | _ => .stuck
theorem o_bls {K : PySem.W.Frag} (f : List Bool → Bool) : OpN G (fun vs H Q => ∃ (a : Addr) (bs : List Bool), vs = [V.ref a] ∧ SqL K H a (bs.map V.bl) ∧ Q (.bl (f bs)) H) (pBls f) := by
  intro I H xs vs h l
  unfold pBls
  split
  · split
    · rename_i bs e
      obtain ⟨v, rfl, r⟩ := rpl1 l
      obtain ⟨a, ws, rfl, ea, la⟩ := rp_lst h r
      have e2 := bls?_rp e la
      subst e2
      exact fun Q k => ⟨a, bs, rfl, .inl (.inl ea), k I H _ (.refl h) (.bl _)⟩
    · trivial
  · trivial
def pAbs : List PV → Res Slot
  | [.int i] => .ok (.val (.int (if i < 0 then -i else i)))
  | _ => .stuck
theorem o_abs : OpN G (fun xs H Q => ∃ i, xs = [V.int i] ∧ Q (.int (if i < 0 then -i else i)) H) pAbs := by
  intro I H xs vs h l
  unfold pAbs
  split
  · obtain ⟨v, rfl, r⟩ := rpl1 l
    cases r
    exact fun Q k => ⟨_, rfl, k I H _ (.refl h) (.int _)⟩
  · trivial
def pInt : List PV → Res Slot
  | [.int i] => .ok (.val (.int i))
  | [.bl b] => .ok (.val (.int (if b then 1 else 0)))
  | _ => .stuck
theorem o_int : OpN G (fun xs H Q => (∃ i, xs = [V.int i] ∧ Q (.int i) H) ∨ ∃ k, xs = [V.bl k] ∧ Q (.int (if k then 1 else 0)) H) pInt := by
  intro I H xs vs h l
  unfold pInt
  split
  · obtain ⟨v, rfl, r⟩ := rpl1 l
    cases r
    exact fun Q k => .inl ⟨_, rfl, k I H _ (.refl h) (.int _)⟩
  · obtain ⟨v, rfl, r⟩ := rpl1 l
    cases r
    exact fun Q k => .inr ⟨_, rfl, k I H _ (.refl h) (.int _)⟩
  · trivial
end
end BF

set_option maxRecDepth 100000
set_option maxHeartbeats 4000000
namespace BF
open PySem PySem.Spec L2
open PyProof.Rows hiding St
set_option autoImplicit false

def PV.tyN : PV → Option String
  | .non => some "NoneType"
  | .bl _ => some "bool"
  | .int _ => some "int"
  | .str _ => some "str"
  | .tup _ => some "tuple"
  | .lst _ => some "list"
  | .scr _ => some "list"
  | .dct _ => some "dict"
  | _ => none
def tyNs : List String := ["NoneType", "bool", "int", "str", "tuple", "list", "dict"]
/-- what is known of the own classes among cs -/
structure GK (K : PySem.W.Frag) (G : Gm) (cs : List Str) : Prop where
  ins : ∀ c ∈ cs, C8.InsC K (G.cls c)
  no : ∀ c ∈ cs, ∀ T ∈ tyNs, PySem.W.kitOne K (.type T) (.ref (G.cls c)) = some false
  two : ∀ c ∈ cs, ∀ d ∈ cs, PySem.W.kitOne K (.ref (G.cls c)) (.ref (G.cls d)) = some (decide (c = d))
theorem tyX_of {G : Gm} {K : PySem.W.Frag} {I H : Hp} (h : Same I H) : ∀ {x : PV} {v : V} {n : String}, Rp G I x v → x.tyN = some n → TyX K H v (.type n)
  | _, _, _, .non, e => by cases e; exact .base .non
  | _, _, _, .bl b, e => by cases e; exact .base (.bl b)
  | _, _, _, .int b, e => by cases e; exact .base (.int b)
  | _, _, _, .str b, e => by cases e; exact .base (.str b)
  | _, _, _, .tup r l, e => by
    cases e
    rcases rd_same h r with q | ⟨ob, q⟩
    · exact .base (.tup q)
    · exact .fTuple q
  | _, _, _, .lst r l, e => by cases e; exact .base (.lst (h _ _ r))
  | _, _, _, .scr r, e => by
    cases e
    rcases rd_same h r with q | ⟨ob, q⟩
    · exact .base (.lst q)
    · exact .base (.frz q)
  | _, _, _, .dct r l, e => by
    cases e
    rcases rd_same h r with q | ⟨ob, q⟩
    · exact .base (.dK q)
    · exact .fDict q
theorem tyN_in {x : PV} {n : String} (e : x.tyN = some n) : n ∈ tyNs := by
  cases x <;> simp [PV.tyN] at e <;> subst e <;> decide
/-- isinstance(x, T) -/
def pIsi (cs : List Str) : List PV → Res Slot
  | [x, .ty n] => (match x.tyN with
    | some t => (match kitB t n with
      | some b => .ok (.val (.bl b))
      | none => .stuck)
    | none => .stuck)
  | [x, .cl d] => if cs.contains d = true then (match x with
    | .ins c _ => if cs.contains c = true then .ok (.val (.bl (decide (c = d)))) else .stuck
    | x => (match x.tyN with
      | some _ => .ok (.val (.bl false))
      | none => .stuck)) else .stuck
  | _ => .stuck
theorem has_mem {cs : List Str} {d : Str} (h : cs.contains d = true) : d ∈ cs := by simpa using h
theorem o_isi {G : Gm} {K : PySem.W.Frag} {cs : List Str} (gk : GK K G cs) : OpN G (rIsi K) (pIsi cs) := by
  intro I H xs vs h l
  unfold pIsi
  split
  · rename_i x n
    obtain ⟨v, w, rfl, r, q⟩ := rpl2 l
    cases q
    cases e1 : x.tyN with
    | none => trivial
    | some t =>
      dsimp only
      cases e2 : kitB t n with
      | none => trivial
      | some b => exact fun Q k => ⟨v, .ty n, .type t, .type n, b, rfl, .ty n, tyX_of h r e1, kit_ty e2, k I H _ (.refl h) (.bl _)⟩
  · rename_i x d
    obtain ⟨v, w, rfl, r, q⟩ := rpl2 l
    cases q
    split
    · rename_i hd
      split
      · rename_i x0 c fs
        split
        · rename_i hc
          cases r with
          | @ins _ a dx ws _ ea lf =>
            have i := gk.ins c (has_mem hc)
            exact fun Q k => ⟨_, _, _, _, _, rfl, .own _, .base (TyOf.ins (h _ _ ea) i.cl i.ha i.hn i.htk i.hm), gk.two c (has_mem hc) d (has_mem hd), k I H _ (.refl h) (.bl _)⟩
        · trivial
      · cases e1 : x.tyN with
        | none => trivial
        | some t => exact fun Q k => ⟨_, _, _, _, _, rfl, .own _, tyX_of h r e1, gk.no d (has_mem hd) t (tyN_in e1), k I H _ (.refl h) (.bl _)⟩
    · trivial
  · trivial

section
variable {G : Gm} {X : Cx} {C : Dc} {T : List Nat} {pos : Pos}
theorem PE.or {e : Expr} {t t' : TE} (h : PE X e t) (h' : PE X e t') : PE X e (fun σ H Q => t σ H Q ∨ t' σ H Q) :=
  ⟨fun pins s σ H Q I q => q.elim (h.run pins s σ H Q I) (h'.run pins s σ H Q I)⟩
theorem PT.or {e : Expr} {t t' : TT} (h : PT X e t) (h' : PT X e t') : PT X e (fun σ H Q => t σ H Q ∨ t' σ H Q) :=
  ⟨fun pins s σ H Q I q => q.elim (h.run pins s σ H Q I) (h'.run pins s σ H Q I)⟩
theorem tX_at {G : Gm} {σ0 : St} {W : WX} {E E' : PX} {σ : St} {H : Hp} {Q : VK} {I : Hp} {ρ : En} (r : SR G σ0 I H σ ρ) (k : tK G σ0 W T σ I H ρ Q (E ρ)) (e : E ρ = E' ρ) : tX G σ0 W T E' σ H Q := ⟨I, ρ, r, e ▸ k⟩
theorem tT_at {G : Gm} {σ0 : St} {W : WX} {E E' : BX} {σ : St} {H : Hp} {Q : Bool → Hp → Prop} {I : Hp} {ρ : En} (r : SR G σ0 I H σ ρ) (k : tB' G σ0 W T σ I H ρ Q (E ρ)) (e : E ρ = E' ρ) : tT G σ0 W T E' σ H Q := ⟨I, ρ, r, e ▸ k⟩
/-- a mirror that is, at each environment, one of two -/
theorem DE.split {e : Expr} {E E1 E2 : PX} (h1 : DE X C T e E1) (h2 : DE X C T e E2) (h : ∀ ρ, E ρ = E1 ρ ∨ E ρ = E2 ρ) : DE X C T e E :=
  PE.imp (PE.or h1 h2) fun σ H Q ⟨I, ρ, r, k⟩ => (h ρ).elim (fun e => .inl (tX_at r k e)) fun e => .inr (tX_at r k e)
theorem DT.split {e : Expr} {E E1 E2 : BX} (h1 : DT X C T e E1) (h2 : DT X C T e E2) (h : ∀ ρ, E ρ = E1 ρ ∨ E ρ = E2 ρ) : DT X C T e E :=
  PT.imp (PT.or h1 h2) fun σ H Q ⟨I, ρ, r, k⟩ => (h ρ).elim (fun e => .inl (tT_at r k e)) fun e => .inr (tT_at r k e)
/-- two operations of which one serves, by the operands -/
theorem eBin_split {f f1 f2 : PV → PV → Res Slot} {E1 E2 : PX} (h : ∀ a b, f a b = f1 a b ∨ f a b = f2 a b) (ρ : En) : eBin f E1 E2 ρ = eBin f1 E1 E2 ρ ∨ eBin f E1 E2 ρ = eBin f2 E1 E2 ρ := by
  unfold eBin
  cases e1 : E1 ρ with
  | stuck => exact .inl rfl
  | exc c => exact .inl rfl
  | ok p =>
    simp only [ok_bind]
    cases e2 : E2 p.2 with
    | stuck => exact .inl rfl
    | exc c => exact .inl rfl
    | ok q =>
      simp only [ok_bind]
      rcases h p.1.pv q.1.pv with z | z
      · rw [z]; exact .inl rfl
      · rw [z]; exact .inr rfl
theorem bT_split {E E1 E2 : PX} {f : PV → Res Bool} {ρ : En} (h : E ρ = E1 ρ ∨ E ρ = E2 ρ) : bT E f ρ = bT E1 f ρ ∨ bT E f ρ = bT E2 f ρ := by
  unfold bT
  rcases h with h | h
  · rw [h]; exact .inl rfl
  · rw [h]; exact .inr rfl
/-- x[k] of a list, a tuple, a text, a dict -/
def pIxA (d k : PV) : Res Slot := match d with
  | .dct _ => pGetD d k
  | _ => pIx d k
theorem pIxA_or (a b : PV) : pIxA a b = pIx a b ∨ pIxA a b = pGetD a b := by
  unfold pIxA
  split
  · exact .inr rfl
  · exact .inl rfl
theorem de_ixA {a b : Expr} {E1 E2 : PX} (hu : X.A.units + 1 < cLine) (ha : DE X C T a E1) (hb : DE X C T b E2) (hs : PlainIx b := by exact fun _ _ => rfl) (hs' : NoSl b := by exact fun _ _ => rfl) : DE X C T (.Subscript a b pos) (eBin pIxA E1 E2) :=
  DE.split (de_ixD ha hb hs) (de_getD hu ha hb hs') (eBin_split pIxA_or)
def rInP (K : PySem.W.Frag) (neg : Bool) : R2 := fun x y H Q => ∃ d e, Dp K H x d ∧ Dp K H y e ∧ d.plain = true ∧ (∃ ds, (e = .list ds ∨ e = .tuple ds) ∧ PyData.plainAll ds = true ∧ min (PyData.depthAll ds) d.depth ≤ 64 ∧ Q (.bl (if neg then !ds.any fun z => PyData.eqv z d else ds.any fun z => PyData.eqv z d)) H)
theorem op_inP (hu : X.A.units + 66 < cLine) : OpR X (compareOp .In) (rInP X.K false) := by
  intro pins s σ H x y v u Q I rx ry h
  obtain ⟨d, e, hd, he, sd, ds, ee, sds, hm, q⟩ := h
  obtain ⟨as, r1⟩ := Dp.reads I d x v hd rx
  obtain ⟨bs, r2⟩ := Dp.reads I e y u he ry
  rcases ee with rfl | rfl
  · exact SeqAt.in_list_data r2 r1 sds sd (by omega) ⟨.bl _, H, I, rfl, q⟩
  · exact SeqAt.in_tuple_data r2 r1 sds sd (by omega) ⟨.bl _, H, I, rfl, q⟩
theorem op_notInP (hu : X.A.units + 66 < cLine) : OpR X (compareOp .NotIn) (rInP X.K true) := by
  intro pins s σ H x y v u Q I rx ry h
  obtain ⟨d, e, hd, he, sd, ds, ee, sds, hm, q⟩ := h
  obtain ⟨as, r1⟩ := Dp.reads I d x v hd rx
  obtain ⟨bs, r2⟩ := Dp.reads I e y u he ry
  rcases ee with rfl | rfl
  · exact SeqAt.notIn_list_data r2 r1 sds sd (by omega) ⟨.bl _, H, I, rfl, q⟩
  · exact SeqAt.notIn_tuple_data r2 r1 sds sd (by omega) ⟨.bl _, H, I, rfl, q⟩
/-- x in a list, a tuple (data), a sign in a text -/
def inB (x y : PV) : Option Bool := match y with
  | .str z => (match x with
    | .str ⟨a⟩ => (match a.toList with
      | [c] => some (decide (c ∈ z.cps.toList))
      | _ => none)
    | _ => none)
  | _ => match x.pd, y.pd with
    | some d, some (.list ds) => if min (PyData.depthAll ds) d.depth ≤ 64 then some (ds.any fun z => PyData.eqv z d) else none
    | some d, some (.tuple ds) => if min (PyData.depthAll ds) d.depth ≤ 64 then some (ds.any fun z => PyData.eqv z d) else none
    | _, _ => none
def pInS (neg : Bool) (x y : PV) : Res Slot := match inB x y with
  | some b => .ok (.val (.bl (if neg then !b else b)))
  | none => .stuck
def rInA (K : PySem.W.Frag) (neg : Bool) : R2 := fun x y H Q => rInP K neg x y H Q ∨ (∃ (c : Nat) (z : Str), x = .str ⟨#[c]⟩ ∧ y = .str z ∧ Q (.bl (if neg then !decide (c ∈ z.cps.toList) else decide (c ∈ z.cps.toList))) H)
theorem o_inS {K : PySem.W.Frag} {neg : Bool} : Op2 G (rInA K neg) (pInS neg) := by
  intro I H a b v w h ra rb
  unfold pInS
  split
  · rename_i t e
    unfold inB at e
    split at e
    · split at e
      · split at e
        · rename_i z1 x1 ar c el
          cases e
          cases ra; cases rb
          obtain ⟨ar⟩ := x1
          simp only at el
          subst el
          exact fun Q k => .inr ⟨c, _, rfl, rfl, k I H _ (.refl h) (.bl _)⟩
        · cases e
      · cases e
    · split at e
      · rename_i d ds e1 e2
        split at e
        · rename_i hm
          cases e
          have q1 := rp_dp (K := K) h ra e1
          have q2 := rp_dp (K := K) h rb e2
          exact fun Q k => .inl ⟨d, _, q1.1, q2.1, q1.2, ds, .inl rfl, by simpa [PyData.plain] using q2.2, hm, k I H _ (.refl h) (.bl _)⟩
        · cases e
      · rename_i d ds e1 e2
        split at e
        · rename_i hm
          cases e
          have q1 := rp_dp (K := K) h ra e1
          have q2 := rp_dp (K := K) h rb e2
          exact fun Q k => .inl ⟨d, _, q1.1, q2.1, q1.2, ds, .inr rfl, by simpa [PyData.plain] using q2.2, hm, k I H _ (.refl h) (.bl _)⟩
        · cases e
      · cases e
  · trivial
/-- .. or in a dict -/
def pIn (neg : Bool) (x y : PV) : Res Slot := match y with
  | .dct _ => pInD neg x y
  | _ => pInS neg x y
theorem pIn_or (neg : Bool) (a b : PV) : pIn neg a b = pInS neg a b ∨ pIn neg a b = pInD neg a b := by
  unfold pIn
  split
  · exact .inr rfl
  · exact .inl rfl
theorem h_in (hu : X.A.units + 66 < cLine) : OpR X (compareOp .In) (rInA X.K false) := (op_inP hu).or op_in_sign
theorem h_notIn (hu : X.A.units + 66 < cLine) : OpR X (compareOp .NotIn) (rInA X.K true) := (op_notInP hu).or op_notIn_sign
theorem de_in {k d : Expr} {E1 E2 : PX} (hu : X.A.units + 66 < cLine) (hk : DE X C T k E1) (hd : DE X C T d E2) (hm : behindInMarks .In d = false := by rfl) : DE X C T (.Compare k [.In] [d] pos) (eBin (pIn false) E1 E2) :=
  DE.split (de_cmp (h_in hu) o_inS hk hd hm) (de_inD (by omega) hk hd hm) (eBin_split (pIn_or false))
theorem de_notIn {k d : Expr} {E1 E2 : PX} (hu : X.A.units + 66 < cLine) (hk : DE X C T k E1) (hd : DE X C T d E2) (hm : behindInMarks .NotIn d = false := by rfl) : DE X C T (.Compare k [.NotIn] [d] pos) (eBin (pIn true) E1 E2) :=
  DE.split (de_cmp (h_notIn hu) o_inS hk hd hm) (de_notInD (by omega) hk hd hm) (eBin_split (pIn_or true))
theorem dt_in {k d : Expr} {E1 E2 : PX} (hu : X.A.units + 66 < cLine) (hk : DE X C T k E1) (hd : DE X C T d E2) (hm : behindInMarks .In d = false := by rfl) : DT X C T (.Compare k [.In] [d] pos) (bT (eBin (pIn false) E1 E2) pB) :=
  DT.split (dt_cmp (h_in hu) o_inS hk hd hm) (dt_inD (by omega) hk hd hm) fun ρ => bT_split (eBin_split (pIn_or false) ρ)
theorem dt_notIn {k d : Expr} {E1 E2 : PX} (hu : X.A.units + 66 < cLine) (hk : DE X C T k E1) (hd : DE X C T d E2) (hm : behindInMarks .NotIn d = false := by rfl) : DT X C T (.Compare k [.NotIn] [d] pos) (bT (eBin (pIn true) E1 E2) pB) :=
  DT.split (dt_cmp (h_notIn hu) o_inS hk hd hm) (dt_notInD (by omega) hk hd hm) fun ρ => bT_split (eBin_split (pIn_or true) ρ)
def pTru : PV → Res Bool
  | .non => .ok false
  | .bl b => .ok b
  | .int i => .ok (i != 0)
  | .str z => if z.length ≤ sizeLine then .ok ((z.length : Int) != 0) else .stuck
  | .lst xs => .ok (!xs.isEmpty)
  | .tup xs => .ok (!xs.isEmpty)
  | .scr ns => .ok (!ns.isEmpty)
  | _ => .stuck
theorem pTru_rp {K : PySem.W.Frag} {I H : Hp} (h : Same I H) {x : PV} {v : V} {b : Bool} (r : Rp G I x v) (e : pTru x = .ok b) : TruV K v H b := by
  unfold pTru at e
  split at e
  · cases e; cases r; exact rfl
  · cases e; cases r; exact rfl
  · cases e; cases r; exact rfl
  · split at e
    · rename_i hz; cases e; cases r; exact ⟨hz, rfl⟩
    · cases e
  · cases e
    obtain ⟨a, vs, rfl, ea, la⟩ := rp_lst h r
    exact .inl ⟨vs, .inl (.inl ea), by cases la <;> rfl⟩
  · cases e
    obtain ⟨a, vs, rfl, ea, la⟩ := rp_tup (K := K) h r
    exact .inr (.inl ⟨vs, ea, by cases la <;> rfl⟩)
  · cases e
    obtain ⟨a, rfl, ea⟩ := rp_scr (K := K) h r
    exact .inl ⟨_, ea, by rw [List.isEmpty_map]⟩
  · cases e
theorem dt_tru {e : Expr} {E : PX} (h : DE X C T e E) (he : ∀ whole, isTrue e X.env whole = (do let v ← whole; standAt e.pos; holding [v] (truthy v)) := by intro _; rfl) : DT X C T e (bT E pTru) := by
  refine PT.imp (pt_truth h he) fun σ H Q ⟨I, ρ, sr, k⟩ => ?_
  refine tB.next sr (.refl sr) k (fun s ρ1 I1 H1 v x1 _ p1 k1 => ?_) fun _ _ => rfl
  simp only [pv_val] at k1
  cases e : pTru s.pv with
  | ok b => rw [e] at k1; exact ⟨b, pTru_rp x1.same p1 e, k1 I1 H1 x1⟩
  | exc c => unfold pTru at e; split at e <;> first | cases e | (split at e <;> cases e)
  | stuck => rw [e] at k1; exact k1.elim
/-- x or y, by truth -/
def eOr (E F : PX) : PX := fun ρ => E ρ >>= fun p => pTru p.1.pv >>= fun b => if b = true then .ok (.val p.1.pv, p.2) else F p.2
theorem de_or1 {a : Expr} {E : PX} (h : DE X C T a E) : DE X C T (.BoolOp .Or [a] pos) E := ⟨fun pins s σ H Q I q => h.run pins s σ H Q I q⟩
theorem de_or {a b : Expr} {rest : List Expr} {E F : PX} (ha : DE X C T a E) (hb : DE X C T (.BoolOp .Or (b :: rest) pos) F) : DE X C T (.BoolOp .Or (a :: b :: rest) pos) (eOr E F) := by
  refine PE.imp (pe_orT ha hb) fun σ H Q ⟨I, ρ, sr, k⟩ => ?_
  refine tK.next sr (.refl sr) k (fun s ρ1 I1 H1 v x1 _ w1 p1 k1 => ?_) fun _ _ => rfl
  simp only [pv_val] at k1
  cases e : pTru s.pv with
  | ok b =>
    rw [e] at k1
    refine ⟨b, pTru_rp x1.same p1 e, ?_⟩
    cases b with
    | true => rw [if_pos rfl]; rw [ok_bind, if_pos rfl] at k1; exact k1 I1 H1 v x1 p1
    | false => rw [if_neg Bool.false_ne_true]; rw [ok_bind, if_neg Bool.false_ne_true] at k1; exact tK.go x1 k1
  | exc c => unfold pTru at e; split at e <;> first | cases e | (split at e <;> cases e)
  | stuck => rw [e] at k1; exact k1.elim
def eChain (f g : PV → PV → Res Slot) (E1 E2 E3 : PX) : PX := fun ρ => E1 ρ >>= fun p => E2 p.2 >>= fun q => f p.1.pv q.1.pv >>= fun s => match s with
  | .val (.bl true) => E3 q.2 >>= fun t => g q.1.pv t.1.pv >>= fun s => .ok (s, t.2)
  | .val (.bl false) => .ok (.val (.bl false), q.2)
  | _ => .stuck
theorem tChain_of {r r' : R2} {f g : PV → PV → Res Slot} {E1 E2 E3 : PX} (o : Op2 C.G r f) (o' : Op2 C.G r' g) (σ : St) (H : Hp) (Q : VK) (h : tX C.G C.σ0 C.W T (eChain f g E1 E2 E3) σ H Q) : tChain r r' (tX C.G C.σ0 C.W T E1) (tX C.G C.σ0 C.W T E2) (tX C.G C.σ0 C.W T E3) σ H Q := by
  obtain ⟨I, ρ, sr, k⟩ := h
  refine tK.next sr (.refl sr) k (fun s ρ1 I1 H1 v x1 _ _ p1 k1 => ?_) fun _ _ => rfl
  refine tK.next sr x1 k1 (fun s2 ρ2 I2 H2 w x2 le _ p2 k2 => ?_) fun _ _ => rfl
  simp only [pv_val] at k2
  have oo := o I2 H2 s.pv s2.pv v w x2.same (p1.up le) p2
  cases e : f s.pv s2.pv with
  | stuck => rw [e] at k2; exact k2.elim
  | exc c => rw [e] at oo; exact oo.elim
  | ok t =>
    rw [e] at oo k2
    rw [ok_bind] at k2
    refine oo _ fun I' H' u x w => ?_
    have x3 := x2.ext x
    cases t with
    | val y =>
      cases y with
      | bl b =>
        cases w
        refine ⟨b, rfl, ?_⟩
        cases b with
        | true =>
          rw [if_pos rfl]
          dsimp only at k2
          refine tK.next sr x3 k2 (fun s3 ρ3 I3 H3 z x4 le4 _ p3 k3 => ?_) fun _ _ => rfl
          exact tK.fin (P := fun R => r' _ z H3 R) x4 (o' I3 H3 s2.pv s3.pv _ z x4.same ((p2.up x.le).up le4) p3) k3
        | false =>
          rw [if_neg Bool.false_ne_true]
          exact k2 I' H' _ x3 (.bl _)
      | _ => exact k2.elim
    | _ => exact k2.elim
theorem de_chain {a b c : Expr} {op op' : CmpOp} {r r' : R2} {f g : PV → PV → Res Slot} {E1 E2 E3 : PX} (hr : OpR X (compareOp op) r) (o : Op2 C.G r f) (hr' : OpR X (compareOp op') r') (o' : Op2 C.G r' g) (ha : DE X C T a E1) (hb : DE X C T b E2) (hc : DE X C T c E3)
    (hm : lastMarks [op, op'] [b, c] = false := by with_unfolding_all rfl) : DE X C T (.Compare a [op, op'] [b, c] pos) (eChain f g E1 E2 E3) :=
  PE.imp (pe_chain hr hr' ha hb hc hm) (tChain_of o o')
theorem dt_chain {a b c : Expr} {op op' : CmpOp} {r r' : R2} {f g : PV → PV → Res Slot} {E1 E2 E3 : PX} (hr : OpR X (compareOp op) r) (o : Op2 C.G r f) (hr' : OpR X (compareOp op') r') (o' : Op2 C.G r' g) (ha : DE X C T a E1) (hb : DE X C T b E2) (hc : DE X C T c E3)
    (hm : lastMarks [op, op'] [b, c] = false := by with_unfolding_all rfl) : DT X C T (.Compare a [op, op'] [b, c] pos) (bT (eChain f g E1 E2 E3) pB) := by
  refine PT.imp (pt_chain hr hr' ha hb hc hm) (tB_core (t := tChain r r' (tX C.G C.σ0 C.W T E1) (tX C.G C.σ0 C.W T E2) (tX C.G C.σ0 C.W T E3)) (tChain_of o o'))
/-- len(d) -/
theorem h_lenA : CallR X (.builtin "len") (fun xs H Q => rLen X.K xs H Q ∨ ∃ a kvs, xs = [V.ref a] ∧ Rd H a (.dK kvs) ∧ Q (.int kvs.length) H) := by
  refine h_len.or ?_
  intro pins s σ H xs us Q I r h
  obtain ⟨a, kvs, rfl, ha, q⟩ := h
  obtain ⟨u, rfl, ru⟩ := vals1 r
  cases ru
  exact d_len I ha fun t s' I' => ⟨.int kvs.length, H, I', ⟨t, rfl⟩, q⟩
def pLenA : List PV → Res Slot
  | [.dct kvs] => .ok (.val (.int kvs.length))
  | xs => pLen xs
theorem o_lenA {K : PySem.W.Frag} : OpN G (fun xs H Q => rLen K xs H Q ∨ ∃ a kvs, xs = [V.ref a] ∧ Rd H a (.dK kvs) ∧ Q (.int kvs.length) H) pLenA := by
  intro I H xs vs h l
  have hc : (∃ kvs, xs = [.dct kvs]) ∨ pLenA xs = pLen xs := by
    unfold pLenA
    split
    · exact .inl ⟨_, rfl⟩
    · exact .inr rfl
  rcases hc with ⟨kvs, rfl⟩ | e
  · obtain ⟨v, rfl, r⟩ := rpl1 l
    obtain ⟨a, ws, rfl, rd, lk⟩ := dct_rd h r
    exact fun Q k => .inr ⟨a, ws, rfl, rd, by rw [lk.length] at k; exact k I H _ (.refl h) (.int _)⟩
  · rw [e]
    have := o_len (G := G) (K := K) I H xs vs h l
    revert this
    cases pLen xs with
    | ok s => exact fun q Q k => .inl (q Q k)
    | exc c => exact id
    | stuck => exact id
/-- dict(xs) of a list of pairs -/
def pairs? : List PV → Option (List (Key × PV))
  | [] => some []
  | .tup [k, v] :: r => (match keyOf k with
    | some k => (pairs? r).map ((k, v) :: ·)
    | none => none)
  | _ => none
def dMerge (kvs more : List (Key × PV)) : List (Key × PV) := more.foldl (fun acc kv => dPut acc kv.1 kv.2) kvs
theorem merge_rp {I : Hp} : ∀ {ys : List (Key × PV)} {ws : List (Key × V)} {xs : List (Key × PV)} {vs : List (Key × V)}, RpK G I xs vs → RpK G I ys ws → RpK G I (dMerge xs ys) (mergeK vs ws)
  | _, _, _, _, l, .nil => l
  | _, _, _, _, l, @RpK.cons _ _ k x v ys ws r m => by
    show RpK G I (dMerge (dPut _ k x) ys) (mergeK (putK _ k v) ws)
    exact merge_rp (l.put r) m
def pDict : List PV → Res Slot
  | [.lst xs] => (match pairs? xs with
    | some kvs => .ok (.own (.dct (dMerge [] kvs)))
    | none => .stuck)
  | [.dct kvs] => .ok (.own (.dct kvs))
  | _ => .stuck
theorem pairs?_rp {K : PySem.W.Frag} {I H : Hp} (h : Same I H) : ∀ {xs : List PV} {vs : List V} {kvs : List (Key × PV)}, RpL G I xs vs → pairs? xs = some kvs →
    ∃ (ps : List Addr) (ws : List (Key × V)), vs = ps.map V.ref ∧ Paired (fun p kv => SqT K H p [kV kv.1, kv.2]) ps ws ∧ RpK G I kvs ws
  | _, _, _, .nil, e => by simp only [pairs?, Option.some.injEq] at e; subst e; exact ⟨[], [], rfl, .nil, .nil⟩
  | _, _, _, @RpL.cons _ _ x v xs vs r l, e => by
    unfold pairs? at e
    split at e
    · rename_i heq; cases heq
    · rename_i k y r' heq
      cases heq
      split at e
      · rename_i kk ek
        obtain ⟨kvs', e1, rfl⟩ := Option.map_eq_some_iff.mp e
        obtain ⟨ps, ws, rfl, p2, p3⟩ := pairs?_rp h l e1
        obtain ⟨a, us, rfl, ea, la⟩ := rp_tup (K := K) h r
        obtain ⟨u1, u2, rfl, r1, r2⟩ := rpl2 la
        have := keyOf_rp ek r1
        subst this
        exact ⟨a :: ps, (kk, u2) :: ws, rfl, .cons ea p2, .cons r2 p3⟩
      · cases e
    · cases e
theorem h_dict (hc : X.calm = true) : CallR X (.type "dict") (fun xs H Q => (∃ (a : Addr) (ps : List Addr) (kvs : List (Key × V)), xs = [.ref a] ∧ SqL X.K H a (ps.map V.ref) ∧ Paired (fun p kv => SqT X.K H p [kV kv.1, kv.2]) ps kvs ∧
    ∀ p, H p = none → Q (.ref p) (upd H p (.dK (mergeK [] kvs)))) ∨ (∃ (a : Addr) (kvs : List (Key × V)), xs = [.ref a] ∧ Rd H a (.dK kvs) ∧ ∀ p, H p = none → Q (.ref p) (upd H p (.dK kvs)))) := (call_dictP hc).or call_dictD
theorem o_dict {K : PySem.W.Frag} : OpN G (fun xs H Q => (∃ (a : Addr) (ps : List Addr) (kvs : List (Key × V)), xs = [.ref a] ∧ SqL K H a (ps.map V.ref) ∧ Paired (fun p kv => SqT K H p [kV kv.1, kv.2]) ps kvs ∧
    ∀ p, H p = none → Q (.ref p) (upd H p (.dK (mergeK [] kvs)))) ∨ (∃ (a : Addr) (kvs : List (Key × V)), xs = [.ref a] ∧ Rd H a (.dK kvs) ∧ ∀ p, H p = none → Q (.ref p) (upd H p (.dK kvs)))) pDict := by
  intro I H xs vs h l
  unfold pDict
  split
  · split
    · rename_i kvs e
      obtain ⟨v, rfl, r⟩ := rpl1 l
      obtain ⟨a, us, rfl, ea, la⟩ := rp_lst h r
      obtain ⟨ps, ws, rfl, p2, p3⟩ := pairs?_rp (K := K) h la e
      refine fun Q k => .inl ⟨a, ps, ws, rfl, .inl (.inl ea), p2, fun p hp => ?_⟩
      exact k _ _ _ (Ext.new h hp) ⟨p, _, rfl, hp, same_none h hp, upd_same, _, rfl, merge_rp .nil p3⟩
    · trivial
  · obtain ⟨v, rfl, r⟩ := rpl1 l
    obtain ⟨a, ws, rfl, rd, lk⟩ := dct_rd h r
    refine fun Q k => .inr ⟨a, ws, rfl, rd, fun p hp => ?_⟩
    exact k _ _ _ (Ext.new h hp) ⟨p, _, rfl, hp, same_none h hp, upd_same, _, rfl, lk⟩
  · trivial
end
end BF

set_option maxRecDepth 100000
set_option maxHeartbeats 4000000
namespace BF
open PySem PySem.Spec L2
open PyProof.Rows hiding St
set_option autoImplicit false

/-- data, as the library reads it -/
def PV.enc (x : PV) : PyData := x.pd.getD .none
/-- x ≤ y (rev: x ≥ y) -/
def leP (rev : Bool) (x y : PV) : Bool := PySem.W.dataLe rev PV.enc x y
def sortP (rev : Bool) (xs : List PV) : List PV := xs.mergeSort (leP rev)
def firstOk : PyData → Bool
  | .tuple (_ :: _) => true
  | _ => false
def notTup : PyData → Bool
  | .none => false
  | .tuple _ => false
  | _ => true
/-- what can be sorted -/
def srtOk (xs : List PV) : Bool := xs.all (fun x => x.pd.isSome && decide (x.enc.depth ≤ 64)) && xs.all (fun x => xs.all fun y => PySem.W.alike x.enc y.enc) && (xs.all (fun x => firstOk x.enc) || xs.all (fun x => notTup x.enc))
structure SrtOk (xs : List PV) : Prop where
  pd : ∀ x ∈ xs, x.pd = some x.enc ∧ x.enc.depth ≤ 64
  al : PySem.W.AllAlike (xs.map PV.enc)
  so : PySem.W.Sortable (xs.map PV.enc)
theorem srtOk_of {xs : List PV} (h : srtOk xs = true) : SrtOk xs := by
  unfold srtOk at h
  simp only [Bool.and_eq_true, Bool.or_eq_true, List.all_eq_true, decide_eq_true_eq] at h
  obtain ⟨⟨h1, h2⟩, h3⟩ := h
  refine ⟨fun x hx => ⟨?_, (h1 x hx).2⟩, fun d hd d' hd' => ?_, ?_⟩
  · obtain ⟨d, e⟩ := Option.isSome_iff_exists.mp (h1 x hx).1
    unfold PV.enc
    rw [e]; rfl
  · obtain ⟨x, hx, rfl⟩ := List.mem_map.mp hd
    obtain ⟨y, hy, rfl⟩ := List.mem_map.mp hd'
    exact h2 x hx y hy
  · rcases h3 with h3 | h3
    · refine .inl fun d hd => ?_
      obtain ⟨x, hx, rfl⟩ := List.mem_map.mp hd
      have := h3 x hx
      cases e : x.enc with
      | tuple ys =>
        cases ys with
        | nil => rw [e] at this; cases this
        | cons y ys => exact ⟨y, ys, rfl⟩
      | _ => rw [e] at this; cases this
    · refine .inr fun d hd => ?_
      obtain ⟨x, hx, rfl⟩ := List.mem_map.mp hd
      have := h3 x hx
      refine ⟨fun e => ?_, fun ys e => ?_⟩ <;> rw [e] at this <;> cases this
section
variable {G : Gm} {X : Cx} {C : Dc} {T : List Nat} {pos : Pos}
def rSortP (G : Gm) (K : PySem.W.Frag) (rev : Bool) : List V → Hp → VK → Prop := fun vs H Q => ∃ (a : Addr) (I : Hp) (xs : List PV) (us : List V), vs = [.ref a] ∧ SqL K H a us ∧ Same I H ∧ RpL G I xs us ∧ srtOk xs = true ∧
  ∀ us' p, RpL G I (sortP rev xs) us' → H p = none → Q (.ref p) (upd H p (.lst us'))
theorem each_of {pins : List (Addr × Obj)} {σ : St} {H I : Hp} {s : Shared} (J : L2.Inv X pins σ H s) (h : Same I H) : ∀ {xs : List PV} {us : List V} {its : List Value}, RpL G I xs us → Vals us its → (∀ x ∈ xs, x.pd = some x.enc ∧ x.enc.depth ≤ 64) →
    PySem.W.EachIs (fun v x => ∃ u, RelV u v ∧ Rp G I x u) its xs ∧ PySem.W.EachIs (fun v x => ∃ as, Reads s.heap v (PV.enc x) as) its xs
  | _, _, _, .nil, .nil, _ => ⟨.nil, .nil⟩
  | _, _, _, @RpL.cons _ _ x u xs us r l, .cons rv rs, hp => by
    obtain ⟨h1, h2⟩ := each_of J h l rs fun y hy => hp y (List.mem_cons_of_mem _ hy)
    obtain ⟨as, q⟩ := Dp.reads J _ _ _ (rp_dp (K := X.K) h r (hp x List.mem_cons_self).1).1 rv
    exact ⟨.cons ⟨u, rv, r⟩ h1, .cons ⟨as, q⟩ h2⟩
theorem each_back {I : Hp} : ∀ {out : List Value} {xs : List PV}, PySem.W.EachIs (fun v x => ∃ u, RelV u v ∧ Rp G I x u) out xs → ∃ us, Vals us out ∧ RpL G I xs us
  | _, _, .nil => ⟨[], .nil, .nil⟩
  | _, _, .cons ⟨u, h1, h2⟩ t => by
    obtain ⟨us, h3, h4⟩ := each_back t
    exact ⟨u :: us, .cons h1 h3, .cons h2 h4⟩
theorem h_sorted (hu : X.A.units + 70 < cLine) : CallR X (.builtin "sorted") (rSortP G X.K false) := by
  intro pins s σ H vs us Q J r h
  obtain ⟨a, I, xs, ws, rfl, hs, hI, l, ok, q⟩ := h
  obtain ⟨its, rv, hl, hz⟩ := J.list hs
  rw [Vals.ref1 r]
  have so := srtOk_of ok
  obtain ⟨e1, e2⟩ := each_of J hI l rv so.pd
  have hlen : xs.length ≤ sizeLine := by rw [l.length]; exact hz
  refine PySem.W.sorted_data hl.isList e1 e2 so.al so.so hlen (fun x hx => by have := (so.pd x hx).2; omega) fun out ho ho2 => ?_
  obtain ⟨us', h3, h4⟩ := each_back ho2
  obtain ⟨ep, he'⟩ := PyProof.Rows.sortedAll_at s.heap its out.toArray
  have hl2 : us'.length ≤ sizeLine := by rw [h3.length, ho]; exact hlen
  exact ⟨.ref _, upd H (s.heap.objs.size + 1) (.lst us'), J.laid (t' := s.toks) (fun _ _ => PyProof.Rows.sortedAll_old) (Nat.le_succ _) ⟨hl2, out, ep, h3, he'⟩, rfl, q us' _ h4 (J.hok.fresh (Nat.le_succ _))⟩
theorem h_sortedRev (hu : X.A.units + 70 < cLine) (b : Bool) : CallRK X (.builtin "sorted") [Str.ofString "reverse"] (fun vs zs H Q => zs = [.bl b] ∧ rSortP G X.K b vs H Q) := by
  intro pins s σ H vs zs us ws' Q J r rz h
  obtain ⟨rfl, a, I, xs, ws, rfl, hs, hI, l, ok, q⟩ := h
  obtain ⟨its, rv, hl, hz⟩ := J.list hs
  rw [Vals.ref1 r]
  obtain ⟨w1, rfl, ew⟩ := vals1 rz
  obtain rfl : w1 = Value.bool b := ew
  have so := srtOk_of ok
  obtain ⟨e1, e2⟩ := each_of J hI l rv so.pd
  have hlen : xs.length ≤ sizeLine := by rw [l.length]; exact hz
  refine PySem.W.sorted_rev_data hl.isList e1 e2 so.al so.so hlen (fun x hx => by have := (so.pd x hx).2; omega) fun out ho ho2 => ?_
  obtain ⟨us', h3, h4⟩ := each_back ho2
  obtain ⟨ep, he'⟩ := PyProof.Rows.sortedAll_at s.heap its out.toArray
  have hl2 : us'.length ≤ sizeLine := by rw [h3.length, ho]; exact hlen
  exact ⟨.ref _, upd H (s.heap.objs.size + 1) (.lst us'), J.laid (t' := s.toks) (fun _ _ => PyProof.Rows.sortedAll_old) (Nat.le_succ _) ⟨hl2, out, ep, h3, he'⟩, rfl, q us' _ h4 (J.hok.fresh (Nat.le_succ _))⟩
def pSorted (rev : Bool) : List PV → Res Slot
  | [.lst xs] => if srtOk xs = true then .ok (.own (.lst (sortP rev xs))) else .stuck
  | [.scr ns] => if srtOk (ns.map .int) = true then .ok (.own (.lst (sortP rev (ns.map .int)))) else .stuck
  | _ => .stuck
theorem o_sorted {K : PySem.W.Frag} {rev : Bool} : OpN G (rSortP G K rev) (pSorted rev) := by
  intro I H xs vs h l
  unfold pSorted
  split
  · split
    · rename_i ok
      obtain ⟨v, rfl, r⟩ := rpl1 l
      obtain ⟨a, us, rfl, ea, la⟩ := rp_lst h r
      refine fun Q k => ⟨a, I, _, us, rfl, .inl (.inl ea), h, la, ok, fun us' p hl hp => ?_⟩
      exact k _ _ _ (Ext.new h hp) ⟨p, _, rfl, hp, same_none h hp, upd_same, _, rfl, hl⟩
    · trivial
  · split
    · rename_i ok
      obtain ⟨v, rfl, r⟩ := rpl1 l
      obtain ⟨a, rfl, ea⟩ := rp_scr (K := K) h r
      refine fun Q k => ⟨a, I, _, _, rfl, ea, h, rpl_ints _, ok, fun us' p hl hp => ?_⟩
      exact k _ _ _ (Ext.new h hp) ⟨p, _, rfl, hp, same_none h hp, upd_same, _, rfl, hl⟩
    · trivial
  · trivial
theorem ltc (x y : List Nat) : ltCps x y = decide (x < y) := by
  first | rfl | exact PyProof.Rows.ltCps_eq x y | simp [ltCps]
def strKeys? : List (Key × PV) → Option (List Str)
  | [] => some []
  | (.inr x, _) :: r => (strKeys? r).map (x :: ·)
  | _ => none
theorem strKeys?_rp {I : Hp} : ∀ {kvs : List (Key × PV)} {ws : List (Key × V)} {ks : List Str}, RpK G I kvs ws → strKeys? kvs = some ks → ws.map (·.1) = ks.map Sum.inr
  | _, _, _, .nil, e => by simp only [strKeys?, Option.some.injEq] at e; subst e; rfl
  | _, _, _, @RpK.cons _ _ k x v xs vs r l, e => by
    cases k with
    | inl i => simp [strKeys?] at e
    | inr z =>
      simp only [strKeys?, Option.map_eq_some_iff] at e
      obtain ⟨ks, e1, e2⟩ := e
      subst e2
      rw [List.map_cons, strKeys?_rp l e1]; rfl
theorem pair_of_sortedS : ∀ {ys : List Str}, sortedS ys = true → ys.Pairwise fun a b => ¬ b.cps.toList < a.cps.toList
  | [], _ => .nil
  | [x], _ => List.pairwise_singleton _ _
  | x :: y :: r, h => by
    have h' : (!ltCps y.cps.toList x.cps.toList && risingS y r) = true := h
    rw [Bool.and_eq_true, Bool.not_eq_true', ltc, decide_eq_false_iff_not] at h'
    have ih := pair_of_sortedS (ys := y :: r) h'.2
    refine List.pairwise_cons.mpr ⟨fun z hz => ?_, ih⟩
    rcases List.mem_cons.mp hz with rfl | hz
    · exact h'.1
    · have h2 := (List.pairwise_cons.mp ih).1 z hz
      intro h3
      rcases Classical.em (y.cps.toList < x.cps.toList) with h4 | h4
      · exact h'.1 h4
      · exact h4 (List.lt_of_le_of_lt (List.not_lt.mp h2) h3)
theorem lePs (x y : Str) : leP false (.str x) (.str y) = decide (x.cps.toList ≤ y.cps.toList) := by
  have := congrFun (congrFun (PySem.W.dataLe_str (β := Str) (fun b => b)) x) y
  exact this
theorem sortP_strs {ks ys : List Str} (hp : ys.Perm ks) (hs : sortedS ys = true) : sortP false (ks.map .str) = ys.map .str := by
  have h1 : sortP false (ks.map PV.str) = (ks.mergeSort fun a b => decide (a.cps.toList ≤ b.cps.toList)).map PV.str := by
    unfold sortP
    exact (PySem.W.sort_maps (r := fun a b => decide (a.cps.toList ≤ b.cps.toList)) (s := leP false) PV.str fun a _ b _ => (lePs a b).symm).symm
  rw [h1]
  congr 1
  have hle : ∀ a b : Str, decide (a.cps.toList ≤ b.cps.toList) = true ↔ a.cps.toList ≤ b.cps.toList := fun a b => decide_eq_true_iff
  have m1 : (ks.mergeSort fun a b => decide (a.cps.toList ≤ b.cps.toList)).Perm ks := List.mergeSort_perm _ _
  have m2 : (ks.mergeSort fun a b => decide (a.cps.toList ≤ b.cps.toList)).Pairwise fun a b => a.cps.toList ≤ b.cps.toList := by
    have := List.pairwise_mergeSort (le := fun a b : Str => decide (a.cps.toList ≤ b.cps.toList)) (fun a b c h1 h2 => by rw [hle] at *; exact List.le_trans h1 h2) (fun a b => by simp only [Bool.or_eq_true, hle]; exact List.le_total _ _) ks
    exact this.imp fun h => (hle _ _).mp h
  have m3 : ys.Pairwise fun a b => a.cps.toList ≤ b.cps.toList := (pair_of_sortedS hs).imp fun h => List.not_lt.mp h
  exact (List.Perm.eq_of_pairwise (le := fun a b : Str => a.cps.toList ≤ b.cps.toList) (fun a b _ _ h1 h2 => PySem.W.str_of_cps (List.le_antisymm h1 h2)) m2 m3 (m1.trans hp.symm))
def pSortedA (rev : Bool) : List PV → Res Slot
  | [.dct kvs] => (match strKeys? kvs with
    | some ks => if ks.length < 64 ∧ rev = false then .ok (.own (.lst (sortP false (ks.map .str)))) else .stuck
    | none => .stuck)
  | xs => pSorted rev xs
def rSortA (G : Gm) (K : PySem.W.Frag) (rev : Bool) : List V → Hp → VK → Prop := fun xs H Q => rSortP G K rev xs H Q ∨ (∃ (a : Addr) (kvs : List (Key × V)) (ks : List Str), xs = [.ref a] ∧ Rd H a (.dK kvs) ∧ kvs.map (·.1) = ks.map Sum.inr ∧ ks.length < 64 ∧
    ∀ ys p, ys.Perm ks → sortedS ys = true → H p = none → Q (.ref p) (upd H p (.lst (ys.map V.str))))
theorem h_sortedA (hc : X.calm = true) (hu : X.A.units + 70 < cLine) : CallR X (.builtin "sorted") (rSortA G X.K false) := (h_sorted hu).or (call_sortedD hc)
theorem rpl_strs {I : Hp} : ∀ ys : List Str, RpL G I (ys.map PV.str) (ys.map V.str)
  | [] => .nil
  | y :: ys => .cons (.str y) (rpl_strs ys)
theorem o_sortedA {K : PySem.W.Frag} : OpN G (rSortA G K false) (pSortedA false) := by
  intro I H xs vs h l
  have hc : (∃ kvs, xs = [.dct kvs]) ∨ pSortedA false xs = pSorted false xs := by
    unfold pSortedA
    split
    · exact .inl ⟨_, rfl⟩
    · exact .inr rfl
  rcases hc with ⟨kvs, rfl⟩ | e
  · unfold pSortedA
    dsimp only
    split
    · rename_i ks e
      split
      · rename_i h64
        obtain ⟨v, rfl, r⟩ := rpl1 l
        obtain ⟨a, ws, rfl, rd, lk⟩ := dct_rd h r
        refine fun Q k => .inr ⟨a, ws, ks, rfl, rd, strKeys?_rp lk e, h64.1, fun ys p h1 h2 hp => ?_⟩
        have e3 := sortP_strs h1 h2
        refine k _ _ _ (Ext.new h hp) ⟨p, _, rfl, hp, same_none h hp, upd_same, _, rfl, ?_⟩
        rw [e3]
        exact rpl_strs ys
      · trivial
    · trivial
  · rw [e]
    have := o_sorted (G := G) (K := K) (rev := false) I H xs vs h l
    revert this
    cases pSorted false xs with
    | ok s => exact fun q Q k => .inl (q Q k)
    | exc c => exact id
    | stuck => exact id
end
end BF

set_option maxRecDepth 100000
set_option maxHeartbeats 4000000
namespace BF
open PySem PySem.Spec L2
open PyProof.Rows hiding St
set_option autoImplicit false

section
variable {G : Gm} {X : Cx} {C : Dc} {T : List Nat} {pos : Pos} {tg : Expr}
theorem PI.or {e : Expr} {t t' : TI} (h : PI X tg e t) (h' : PI X tg e t') : PI X tg e (fun σ H R => t σ H R ∨ t' σ H R) :=
  ⟨fun pins s σ H R I q => q.elim (h.run pins s σ H R I) (h'.run pins s σ H R I)⟩
theorem DI.split {e : Expr} {F F1 F2 : AX} (h1 : DI X C T tg e F1) (h2 : DI X C T tg e F2) (h : ∀ ρ, F ρ = F1 ρ ∨ F ρ = F2 ρ) : DI X C T tg e F :=
  PI.imp (PI.or h1 h2) fun σ H R ⟨I, ρ, r, k⟩ => (h ρ).elim (fun e => .inl ⟨I, ρ, r, e ▸ k⟩) fun e => .inr ⟨I, ρ, r, e ▸ k⟩
def fSeq2 : PV → Res (List PV)
  | .tup xs => .ok xs
  | x => fLst x
def fSeq : PV → Res (List PV)
  | .str z => fStr (.str z)
  | x => fSeq2 x
theorem iX_split {f f1 f2 : PV → Res (List PV)} {E : PX} (h : ∀ x, f x = f1 x ∨ f x = f2 x) (ρ : En) : iX f E ρ = iX f1 E ρ ∨ iX f E ρ = iX f2 E ρ := by
  unfold iX
  cases e : E ρ with
  | stuck => exact .inl rfl
  | exc c => exact .inl rfl
  | ok p =>
    simp only [ok_bind]
    rcases h p.1.pv with z | z
    · rw [z]; exact .inl rfl
    · rw [z]; exact .inr rfl
theorem fSeq2_or (x : PV) : fSeq2 x = fTup x ∨ fSeq2 x = fLst x := by cases x <;> first | exact .inl rfl | exact .inr rfl
theorem fSeq_or (x : PV) : fSeq x = fStr x ∨ fSeq x = fSeq2 x := by cases x <;> first | exact .inr rfl | exact .inl rfl
theorem di_seq {e : Expr} {E : PX} (he : DE X C T e E) : DI X C T tg e (iX fSeq E) :=
  DI.split (di_str he) (DI.split (di_tup he) (di_list he) (iX_split fSeq2_or)) (iX_split fSeq_or)
def eIxO (i : Nat) (Ek : PX) : PX := fun ρ => ownAt i ρ >>= fun _ => Ek ρ >>= fun q => ownAt i q.2 >>= fun x => (match x, q.1.pv with
  | .lst xs, .int j => (match atI xs j with
    | some y => .ok (.val y, q.2)
    | none => .stuck)
  | _, _ => .stuck)
theorem de_ixO {i : Nat} {a b : Expr} {Ek : PX} (ha : PE X a (tVar i)) (hb : DE X C T b Ek) (hs : PlainIx b := by exact fun _ _ => rfl) : DE X C T (.Subscript a b pos) (eIxO i Ek) := by
  refine PE.imp (pe_ix (r := rIxL X.K) ix_list ha hb hs) fun σ H Q ⟨I, ρ, sr, k⟩ => ?_
  unfold eIxO at k
  cases e0 : ownAt i ρ with
  | stuck => rw [e0] at k; exact k.elim
  | exc c => exact (ownAt_exc e0).elim
  | ok x0 =>
    rw [e0, ok_bind] at k
    obtain ⟨a0, o0, g1, _⟩ := sr.own i _ (ownAt_ok e0)
    refine ⟨.ref a0, g1, ?_⟩
    refine tK.next sr (.refl sr) k (fun s ρ1 I1 H1 v x1 _ _ p1 k1 => ?_) fun _ _ => rfl
    simp only [pv_val] at k1
    cases e1 : ownAt i ρ1 with
    | stuck => rw [e1] at k1; exact k1.elim
    | exc c => exact (ownAt_exc e1).elim
    | ok x =>
      rw [e1, ok_bind] at k1
      obtain ⟨a1, o1, q1, q2, q3, q4⟩ := x1.sr.own i _ (ownAt_ok e1)
      have ea : a1 = a0 := by rw [g1] at q1; cases q1; rfl
      subst ea
      cases x with
      | lst xs =>
        obtain ⟨vs, rfl, l⟩ := q4
        cases e2 : s.pv with
        | int j =>
          rw [e2] at k1 p1
          cases p1
          dsimp only at k1
          cases e3 : atI xs j with
          | none => rw [e3] at k1; exact k1.elim
          | some y =>
            rw [e3] at k1
            obtain ⟨u, h1, h2⟩ := atI_get l e3
            exact ⟨a1, vs, j, u, rfl, rfl, .inl (.inl q3), h1, k1 I1 H1 u x1 h2⟩
        | _ => rw [e2] at k1; exact k1.elim
      | _ => exact k1.elim
def eGetO (i : Nat) (Ek : PX) : PX := fun ρ => ownAt i ρ >>= fun _ => Ek ρ >>= fun q => ownAt i q.2 >>= fun x => (match x, keyOf q.1.pv with
  | .dct kvs, some k => (match dLook kvs k with
    | some y => .ok (.val y, q.2)
    | none => .stuck)
  | _, _ => .stuck)
theorem de_getO {i : Nat} {a b : Expr} {Ek : PX} (hu : X.A.units + 1 < cLine) (ha : PE X a (tVar i)) (hb : DE X C T b Ek) (hs : NoSl b := by exact fun _ _ => rfl) : DE X C T (.Subscript a b pos) (eGetO i Ek) := by
  refine PE.imp (pe_dget hu ha hb hs) fun σ H Q ⟨I, ρ, sr, k⟩ => ?_
  unfold eGetO at k
  cases e0 : ownAt i ρ with
  | stuck => rw [e0] at k; exact k.elim
  | exc c => exact (ownAt_exc e0).elim
  | ok x0 =>
    rw [e0, ok_bind] at k
    obtain ⟨a0, o0, g1, _⟩ := sr.own i _ (ownAt_ok e0)
    refine ⟨.ref a0, g1, ?_⟩
    refine tK.next sr (.refl sr) k (fun s ρ1 I1 H1 v x1 _ _ p1 k1 => ?_) fun _ _ => rfl
    simp only [pv_val] at k1
    cases e1 : ownAt i ρ1 with
    | stuck => rw [e1] at k1; exact k1.elim
    | exc c => exact (ownAt_exc e1).elim
    | ok x =>
      rw [e1, ok_bind] at k1
      obtain ⟨a1, o1, q1, q2, q3, q4⟩ := x1.sr.own i _ (ownAt_ok e1)
      have ea : a1 = a0 := by rw [g1] at q1; cases q1; rfl
      subst ea
      cases x with
      | dct kvs =>
        obtain ⟨ws, rfl, l⟩ := q4
        cases e2 : keyOf s.pv with
        | none => rw [e2] at k1; exact k1.elim
        | some kk =>
          rw [e2] at k1
          dsimp only at k1
          cases e3 : dLook kvs kk with
          | none => rw [e3] at k1; exact k1.elim
          | some y =>
            rw [e3] at k1
            have lk := l.look (k := kk)
            rw [e3] at lk
            obtain ⟨u, h1, h2⟩ := lk
            exact ⟨a1, u, rfl, .inl ⟨ws, kk, .inl q3, keyOf_rp e2 p1, h1.symm⟩, k1 I1 H1 u x1 h2⟩
      | _ => exact k1.elim
structure DEx (X : Cx) (C : Dc) (c : Str) : Prop where
  q : PySem.W.excIn X.K (C.G.cls c) He.veBase "ValueError.__new__" = true
  g : X.mg c = some (.ref (C.G.cls c))
  k : PySem.W.keepIn X.K (.ref (C.G.cls c)) = true
  s : PySem.W.subIn X.K (.ref (C.G.cls c)) (.type "BaseException") = some true
  t : PySem.W.typeIn X.K (.ref (C.G.cls c)) = some (.type "type")
def sRaise (c : Str) : SX := fun _ => .exc c
theorem ds_raise {c m : Str} {j : Nat} {p p2 p3 : Pos} (F : DEx X C c) (hc : X.calm = true) (tk : L2.Takes X C.W) (hg : Gl X c := by rfl) (hdb : (c == ("__debug__" : Str)) = false := by decide) :
    DS X C (.Raise (some (.Call (.Name c p) [.Constant (.str m) j p2] [] p3)) none pos) (sRaise c) :=
  PS.imp (L2.ps_raise hc tk (L2.pmk_own PySem.F.excBase_ValueError F.q F.g F.k (L2.raises_own F.s F.t) hg hdb)) fun D σ H ⟨I, ρ, r, k⟩ => k I H σ ⟨Same.refl _, r.same, fun _ h => h, fun _ _ _ e n _ _ => ⟨e, n⟩, TabsE.refl _ _⟩
theorem de_gInt {x : Str} {i : Int} (h : ∃ t, X.mg x = some (.int i t)) (hg : Gl X x := by rfl) (hd : (x == ("__debug__" : Str)) = false := by decide) : DE X C T (.Name x pos) (eC (.int i)) := by
  obtain ⟨t, h⟩ := h
  exact de_c (v := .int i) (pe_glob hg h ⟨t, rfl⟩ hd) fun _ => .int i
theorem de_gStr {x z : Str} (h : ∃ t, X.mg x = some (.str z t)) (hg : Gl X x := by rfl) (hd : (x == ("__debug__" : Str)) = false := by decide) : DE X C T (.Name x pos) (eC (.str z)) := by
  obtain ⟨t, h⟩ := h
  exact de_c (v := .str z) (pe_glob hg h ⟨t, rfl⟩ hd) fun _ => .str z
theorem de_gCls {c : Str} (h : X.mg c = some (.ref (C.G.cls c))) (hg : Gl X c := by rfl) (hd : (c == ("__debug__" : Str)) = false := by decide) : DE X C T (.Name c pos) (eC (.cl c)) :=
  de_c (v := .ref (C.G.cls c)) (pe_glob hg h rfl hd) fun _ => .cl c
theorem de_ty {x : Str} {n : String} (hm : X.mg x = none) (hv : bootBuiltins x = some (.type n)) (hg : Gl X x := by rfl) (hn : x ≠ "__name__" := by decide) (hd : (x == ("__debug__" : Str)) = false := by decide) : DE X C T (.Name x pos) (eC (.ty n)) :=
  de_c (v := .ty n) ⟨fun pins s σ H Q I h => ld_blt I hg hm hv ⟨.ty n, H, I, rfl, h⟩ hn hd⟩ fun _ => .ty n
end
structure FG (P : Program) (w : World) (K : PySem.W.Frag) (mg : Str → Option Value) (base : Heap) (G : Gm) (k n : Nat) (x : Str) (dvs : List V) (m : FM) : Prop where
  ex : ∃ (f : Addr) (fd : FuncData) (ps : List Str) (ds : List Value), FnOk P w K mg base (L2.CX P w) k f fd ps (spF G n m) ∧ mg x = some (.ref f) ∧ PySem.W.keepIn K (.ref f) = true ∧ Binds K fd ps ds ∧ Vals dvs ds
theorem FG.d {X : Cx} {C : Dc} {k n : Nat} {x : Str} {dvs : List V} {m : FM} (h : FG X.prog X.w X.K X.mg X.base C.G k n x dvs m) : DFn X C k n x dvs m := ⟨h.ex⟩
theorem FG.mono {P : Program} {w : World} {K : PySem.W.Frag} {mg : Str → Option Value} {base : Heap} {G : Gm} {k k' n : Nat} {x : Str} {dvs : List V} {m : FM} (h : FG P w K mg base G k n x dvs m) (hk : k ≤ k') : FG P w K mg base G k' n x dvs m := by
  obtain ⟨f, fd, ps, ds, F, r⟩ := h.ex
  exact ⟨f, fd, ps, ds, F.mono hk, r⟩
theorem L2_mono2 {k k' : Nat} {A : Around} (h : Room k A) (hk : k' ≤ k) : Room k' A := h.mono hk
theorem room_u {k : Nat} {A : Around} (h : L2.Room k A) (n : Nat) (hn : n ≤ 190 := by decide) : A.units + n < cLine := by have := h.un; omega
end BF

set_option maxRecDepth 100000
set_option maxHeartbeats 4000000
namespace BF
open PySem PySem.Spec L2
open PyProof.Rows hiding St
set_option autoImplicit false
section
variable {X : Cx} {C : Dc} {T : List Nat} {pos p : Pos} {e : Expr} {es : List Expr} {A : AX}
/-- a built-in function, a built-in class by its name -/
theorem de_b {x : Str} {id : String} {r : List V → Hp → VK → Prop} {f : List PV → Res Slot} (hc : CallR X (.builtin id) r) (o : OpN C.G r f) (hm : X.mg x = none) (hv : bootBuiltins x = some (.builtin id)) (ha : DA X C T (e :: es) A) (hg : Gl X x := by rfl) (hn : x ≠ "__name__" := by decide)
    (hd : (x == ("__debug__" : Str)) = false := by decide) (he : starEach (e :: es) X.env = (false, eval e X.env) :: starEach es X.env := by rfl) (hp : (backTo pos (starEach es X.env)).any (·.1) = false := by rfl) : DE X C T (.Call (.Name x p) (e :: es) [] pos) (eN f A) :=
  PE.imp (pe_callB hc hg hm hv ha hn hd he hp) (tCB_of o)
theorem de_bt {x : Str} {id : String} {r : List V → Hp → VK → Prop} {f : List PV → Res Slot} (hc : CallR X (.type id) r) (o : OpN C.G r f) (hm : X.mg x = none) (hv : bootBuiltins x = some (.type id)) (ha : DA X C T (e :: es) A) (hg : Gl X x := by rfl) (hn : x ≠ "__name__" := by decide)
    (hd : (x == ("__debug__" : Str)) = false := by decide) (he : starEach (e :: es) X.env = (false, eval e X.env) :: starEach es X.env := by rfl) (hp : (backTo pos (starEach es X.env)).any (·.1) = false := by rfl) : DE X C T (.Call (.Name x p) (e :: es) [] pos) (eN f A) :=
  PE.imp (pe_callTy hc hg hm hv ha hn hd he hp) (tCB_of o)
end
theorem bb_len : bootBuiltins "len" = some (.builtin "len") := by decide +kernel
theorem bb_sum : bootBuiltins "sum" = some (.builtin "sum") := by decide +kernel
theorem bb_min : bootBuiltins "min" = some (.builtin "min") := by decide +kernel
theorem bb_max : bootBuiltins "max" = some (.builtin "max") := by decide +kernel
theorem bb_all : bootBuiltins "all" = some (.builtin "all") := by decide +kernel
theorem bb_any : bootBuiltins "any" = some (.builtin "any") := by decide +kernel
theorem bb_abs : bootBuiltins "abs" = some (.builtin "abs") := by decide +kernel
theorem bb_sorted : bootBuiltins "sorted" = some (.builtin "sorted") := by decide +kernel
theorem bb_isi : bootBuiltins "isinstance" = some (.builtin "isinstance") := by decide +kernel
theorem bt_list : bootBuiltins "list" = some (.type "list") := by decide +kernel
theorem bt_tuple : bootBuiltins "tuple" = some (.type "tuple") := by decide +kernel
theorem bt_dict : bootBuiltins "dict" = some (.type "dict") := by decide +kernel
theorem bt_int : bootBuiltins "int" = some (.type "int") := by decide +kernel
theorem bt_str : bootBuiltins "str" = some (.type "str") := by decide +kernel
theorem bt_bool : bootBuiltins "bool" = some (.type "bool") := by decide +kernel
section
variable {X : Cx} {C : Dc} {T : List Nat} {pos p : Pos} {e : Expr} {es : List Expr} {A : AX}
theorem de_len (hm : X.mg "len" = none) (ha : DA X C T [e] A) (hg : Gl X "len" := by rfl) (he : starEach [e] X.env = [(false, eval e X.env)] := by rfl) : DE X C T (.Call (.Name "len" p) [e] [] pos) (eN pLenA A) := de_b h_lenA o_lenA hm bb_len ha hg (he := he)
theorem de_sum (hc : X.calm = true) (hm : X.mg "sum" = none) (ha : DA X C T [e] A) (hg : Gl X "sum" := by rfl) (he : starEach [e] X.env = [(false, eval e X.env)] := by rfl) : DE X C T (.Call (.Name "sum" p) [e] [] pos) (eN pSum A) := de_b (cr_sum hc) o_sum hm bb_sum ha hg (he := he)
theorem de_all (hc : X.calm = true) (hm : X.mg "all" = none) (ha : DA X C T [e] A) (hg : Gl X "all" := by rfl) (he : starEach [e] X.env = [(false, eval e X.env)] := by rfl) : DE X C T (.Call (.Name "all" p) [e] [] pos) (eN (pBls fun bs => bs.all id) A) := de_b (cr_all hc) (o_bls _) hm bb_all ha hg (he := he)
theorem de_any (hc : X.calm = true) (hm : X.mg "any" = none) (ha : DA X C T [e] A) (hg : Gl X "any" := by rfl) (he : starEach [e] X.env = [(false, eval e X.env)] := by rfl) : DE X C T (.Call (.Name "any" p) [e] [] pos) (eN (pBls fun bs => bs.any id) A) := de_b (cr_any hc) (o_bls _) hm bb_any ha hg (he := he)
theorem de_abs (hm : X.mg "abs" = none) (ha : DA X C T [e] A) (hg : Gl X "abs" := by rfl) (he : starEach [e] X.env = [(false, eval e X.env)] := by rfl) : DE X C T (.Call (.Name "abs" p) [e] [] pos) (eN pAbs A) := de_b call_abs o_abs hm bb_abs ha hg (he := he)
theorem de_min (hc : X.calm = true) (hm : X.mg "min" = none) (ha : DA X C T (e :: es) A) (hg : Gl X "min" := by rfl) (he : starEach (e :: es) X.env = (false, eval e X.env) :: starEach es X.env := by rfl) (hp : (backTo pos (starEach es X.env)).any (·.1) = false := by rfl) : DE X C T (.Call (.Name "min" p) (e :: es) [] pos) (eN pMin A) :=
  de_b ((call_min2 hc).or (cr_min hc)) o_min hm bb_min ha hg (he := he) (hp := hp)
theorem de_max (hc : X.calm = true) (hm : X.mg "max" = none) (ha : DA X C T (e :: es) A) (hg : Gl X "max" := by rfl) (he : starEach (e :: es) X.env = (false, eval e X.env) :: starEach es X.env := by rfl) (hp : (backTo pos (starEach es X.env)).any (·.1) = false := by rfl) : DE X C T (.Call (.Name "max" p) (e :: es) [] pos) (eN pMax A) :=
  de_b ((call_max2 hc).or (cr_max hc)) o_max hm bb_max ha hg (he := he) (hp := hp)
theorem de_sorted (hc : X.calm = true) (hu : X.A.units + 70 < cLine) (hm : X.mg "sorted" = none) (ha : DA X C T [e] A) (hg : Gl X "sorted" := by rfl) (he : starEach [e] X.env = [(false, eval e X.env)] := by rfl) : DE X C T (.Call (.Name "sorted" p) [e] [] pos) (eN (pSortedA false) A) :=
  de_b (h_sortedA (G := C.G) hc hu) o_sortedA hm bb_sorted ha hg (he := he)
theorem de_isi {cs : List Str} {e2 : Expr} (gk : GK X.K C.G cs) (hm : X.mg "isinstance" = none) (ha : DA X C T [e, e2] A) (hg : Gl X "isinstance" := by rfl) (he : starEach [e, e2] X.env = (false, eval e X.env) :: starEach [e2] X.env := by rfl) (hp : (backTo pos (starEach [e2] X.env)).any (·.1) = false := by rfl) : DE X C T (.Call (.Name "isinstance" p) [e, e2] [] pos) (eN (pIsi cs) A) :=
  de_b call_isi (o_isi gk) hm bb_isi ha hg (he := he) (hp := hp)
theorem de_list (hm : X.mg "list" = none) (ha : DA X C T [e] A) (hg : Gl X "list" := by rfl) (he : starEach [e] X.env = [(false, eval e X.env)] := by rfl) : DE X C T (.Call (.Name "list" p) [e] [] pos) (eN pList A) := de_bt call_list_of o_list hm bt_list ha hg (he := he)
theorem de_tuple (hm : X.mg "tuple" = none) (ha : DA X C T [e] A) (hg : Gl X "tuple" := by rfl) (he : starEach [e] X.env = [(false, eval e X.env)] := by rfl) : DE X C T (.Call (.Name "tuple" p) [e] [] pos) (eN pTuple A) := de_bt call_tuple_of o_tuple hm bt_tuple ha hg (he := he)
theorem de_intc (hm : X.mg "int" = none) (ha : DA X C T [e] A) (hg : Gl X "int" := by rfl) (he : starEach [e] X.env = [(false, eval e X.env)] := by rfl) : DE X C T (.Call (.Name "int" p) [e] [] pos) (eN pInt A) := de_bt call_int1 o_int hm bt_int ha hg (he := he)
theorem de_dict (hc : X.calm = true) (hm : X.mg "dict" = none) (ha : DA X C T [e] A) (hg : Gl X "dict" := by rfl) (he : starEach [e] X.env = [(false, eval e X.env)] := by rfl) : DE X C T (.Call (.Name "dict" p) [e] [] pos) (eN pDict A) := de_bt (h_dict hc) o_dict hm bt_dict ha hg (he := he)
def eAnd (E F : PX) : PX := fun ρ => E ρ >>= fun p => pTru p.1.pv >>= fun b => if b = true then F p.2 else .ok (.val p.1.pv, p.2)
theorem de_and1 {a : Expr} {E : PX} (h : DE X C T a E) : DE X C T (.BoolOp .And [a] pos) E := ⟨fun pins s σ H Q I q => h.run pins s σ H Q I q⟩
theorem pTru_exc {x : PV} {c : Str} (e : pTru x = .exc c) : False := by unfold pTru at e; split at e <;> first | cases e | (split at e <;> cases e)
theorem de_and {a b : Expr} {rest : List Expr} {E F : PX} (ha : DE X C T a E) (hb : DE X C T (.BoolOp .And (b :: rest) pos) F) : DE X C T (.BoolOp .And (a :: b :: rest) pos) (eAnd E F) := by
  refine PE.imp (pe_andT ha hb) fun σ H Q ⟨I, ρ, sr, k⟩ => ?_
  refine tK.next sr (.refl sr) k (fun s ρ1 I1 H1 v x1 _ w1 p1 k1 => ?_) fun _ _ => rfl
  simp only [pv_val] at k1
  cases e : pTru s.pv with
  | ok b =>
    rw [e] at k1
    refine ⟨b, pTru_rp x1.same p1 e, ?_⟩
    cases b with
    | true => rw [if_pos rfl]; rw [ok_bind, if_pos rfl] at k1; exact tK.go x1 k1
    | false => rw [if_neg Bool.false_ne_true]; rw [ok_bind, if_neg Bool.false_ne_true] at k1; exact k1 I1 H1 v x1 p1
  | exc c => exact (pTru_exc e).elim
  | stuck => rw [e] at k1; exact k1.elim
def eNot (E : PX) : PX := fun ρ => E ρ >>= fun p => pTru p.1.pv >>= fun b => .ok (.val (.bl (!b)), p.2)
theorem de_not {a : Expr} {E : PX} (ha : DE X C T a E) : DE X C T (.UnaryOp .Not a pos) (eNot E) := by
  refine PE.imp (pe_notT ha) fun σ H Q ⟨I, ρ, sr, k⟩ => ?_
  refine tK.next sr (.refl sr) k (fun s ρ1 I1 H1 v x1 _ w1 p1 k1 => ?_) fun _ _ => rfl
  simp only [pv_val] at k1
  cases e : pTru s.pv with
  | ok b => rw [e] at k1; exact ⟨b, pTru_rp x1.same p1 e, k1 I1 H1 _ x1 (.bl _)⟩
  | exc c => exact (pTru_exc e).elim
  | stuck => rw [e] at k1; exact k1.elim
/-- a test of several words -/
theorem dt_w {e : Expr} {E : BX} (h : DW X C T e E) : DT X C T e E := PW.pt h
theorem de_lt {a b : Expr} {E1 E2 : PX} (ha : DE X C T a E1) (hb : DE X C T b E2) (hm : behindInMarks .Lt b = false := by rfl) : DE X C T (.Compare a [.Lt] [b] pos) (eBin pLt E1 E2) := de_cmp op_lt o_lt ha hb hm
theorem de_le {a b : Expr} {E1 E2 : PX} (ha : DE X C T a E1) (hb : DE X C T b E2) (hm : behindInMarks .LtE b = false := by rfl) : DE X C T (.Compare a [.LtE] [b] pos) (eBin pLe E1 E2) := de_cmp op_le o_le ha hb hm
theorem de_gt {a b : Expr} {E1 E2 : PX} (ha : DE X C T a E1) (hb : DE X C T b E2) (hm : behindInMarks .Gt b = false := by rfl) : DE X C T (.Compare a [.Gt] [b] pos) (eBin pGt E1 E2) := de_cmp op_gt o_gt ha hb hm
theorem de_ge {a b : Expr} {E1 E2 : PX} (ha : DE X C T a E1) (hb : DE X C T b E2) (hm : behindInMarks .GtE b = false := by rfl) : DE X C T (.Compare a [.GtE] [b] pos) (eBin pGe E1 E2) := de_cmp op_ge o_ge ha hb hm
theorem de_is {a b : Expr} {E1 E2 : PX} (ha : DE X C T a E1) (hb : DE X C T b E2) (hm : behindInMarks .Is b = false := by rfl) : DE X C T (.Compare a [.Is] [b] pos) (eBin pIsN E1 E2) := de_cmp op_isN o_isN ha hb hm
theorem de_isnot {a b : Expr} {E1 E2 : PX} (ha : DE X C T a E1) (hb : DE X C T b E2) (hm : behindInMarks .IsNot b = false := by rfl) : DE X C T (.Compare a [.IsNot] [b] pos) (eBin pNotN E1 E2) := de_cmp op_notN o_notN ha hb hm
theorem de_eq {a b : Expr} {E1 E2 : PX} (hu : X.A.units + 64 < cLine) (ha : DE X C T a E1) (hb : DE X C T b E2) (hm : behindInMarks .Eq b = false := by rfl) : DE X C T (.Compare a [.Eq] [b] pos) (eBin pEq E1 E2) := de_cmp (op_eqP hu) o_eq ha hb hm
theorem de_ne {a b : Expr} {E1 E2 : PX} (hu : X.A.units + 64 < cLine) (ha : DE X C T a E1) (hb : DE X C T b E2) (hm : behindInMarks .NotEq b = false := by rfl) : DE X C T (.Compare a [.NotEq] [b] pos) (eBin pNe E1 E2) := de_cmp (op_neP hu) o_ne ha hb hm
theorem dt_lt {a b : Expr} {E1 E2 : PX} (ha : DE X C T a E1) (hb : DE X C T b E2) (hm : behindInMarks .Lt b = false := by rfl) : DT X C T (.Compare a [.Lt] [b] pos) (bT (eBin pLt E1 E2) pB) := dt_cmp op_lt o_lt ha hb hm
theorem dt_le {a b : Expr} {E1 E2 : PX} (ha : DE X C T a E1) (hb : DE X C T b E2) (hm : behindInMarks .LtE b = false := by rfl) : DT X C T (.Compare a [.LtE] [b] pos) (bT (eBin pLe E1 E2) pB) := dt_cmp op_le o_le ha hb hm
theorem dt_gt {a b : Expr} {E1 E2 : PX} (ha : DE X C T a E1) (hb : DE X C T b E2) (hm : behindInMarks .Gt b = false := by rfl) : DT X C T (.Compare a [.Gt] [b] pos) (bT (eBin pGt E1 E2) pB) := dt_cmp op_gt o_gt ha hb hm
theorem dt_ge {a b : Expr} {E1 E2 : PX} (ha : DE X C T a E1) (hb : DE X C T b E2) (hm : behindInMarks .GtE b = false := by rfl) : DT X C T (.Compare a [.GtE] [b] pos) (bT (eBin pGe E1 E2) pB) := dt_cmp op_ge o_ge ha hb hm
theorem dt_is {a b : Expr} {E1 E2 : PX} (ha : DE X C T a E1) (hb : DE X C T b E2) (hm : behindInMarks .Is b = false := by rfl) : DT X C T (.Compare a [.Is] [b] pos) (bT (eBin pIsN E1 E2) pB) := dt_cmp op_isN o_isN ha hb hm
theorem dt_isnot {a b : Expr} {E1 E2 : PX} (ha : DE X C T a E1) (hb : DE X C T b E2) (hm : behindInMarks .IsNot b = false := by rfl) : DT X C T (.Compare a [.IsNot] [b] pos) (bT (eBin pNotN E1 E2) pB) := dt_cmp op_notN o_notN ha hb hm
theorem dt_eq {a b : Expr} {E1 E2 : PX} (hu : X.A.units + 64 < cLine) (ha : DE X C T a E1) (hb : DE X C T b E2) (hm : behindInMarks .Eq b = false := by rfl) : DT X C T (.Compare a [.Eq] [b] pos) (bT (eBin pEq E1 E2) pB) := dt_cmp (op_eqP hu) o_eq ha hb hm
theorem dt_ne {a b : Expr} {E1 E2 : PX} (hu : X.A.units + 64 < cLine) (ha : DE X C T a E1) (hb : DE X C T b E2) (hm : behindInMarks .NotEq b = false := by rfl) : DT X C T (.Compare a [.NotEq] [b] pos) (bT (eBin pNe E1 E2) pB) := dt_cmp (op_neP hu) o_ne ha hb hm
end
end BF

set_option maxRecDepth 100000
set_option maxHeartbeats 4000000
namespace BF
open PySem PySem.Spec L2
open PyProof.Rows hiding St
set_option autoImplicit false
section
variable {P : Program} {w : World} {K : PySem.W.Frag} {mg : Str → Option Value} {base : Heap} {N : List Str} {qual : Str} {scope : Scope} {f : Addr} {cdv : Value} {A : Around} {outer : List Env} {s : Shared} {H : Hp} {E : XK}
theorem takes_own : Takes (cxOf (L2.CX P w) P w K mg base N qual scope f cdv A outer s H E) (fun c d _ H' => E c d H') := L2.takes_of rfl rfl rfl rfl
theorem pass_own : PassesOwn (model (cxOf (L2.CX P w) P w K mg base N qual scope f cdv A outer s H E).prog (cxOf (L2.CX P w) P w K mg base N qual scope f cdv A outer s H E).w) (cxOf (L2.CX P w) P w K mg base N qual scope f cdv A outer s H E).A (cxOf (L2.CX P w) P w K mg base N qual scope f cdv A outer s H E).env (cxOf (L2.CX P w) P w K mg base N qual scope f cdv A outer s H E).xe := L2.passes_of rfl
end
/-- an own exception class -/
structure XF (K : PySem.W.Frag) (mg : Str → Option Value) (G : Gm) (c : Str) : Prop where
  q : PySem.W.excIn K (G.cls c) He.veBase "ValueError.__new__" = true
  g : mg c = some (.ref (G.cls c))
  k : PySem.W.keepIn K (.ref (G.cls c)) = true
  s : PySem.W.subIn K (.ref (G.cls c)) (.type "BaseException") = some true
  t : PySem.W.typeIn K (.ref (G.cls c)) = some (.type "type")
theorem XF.d {X : Cx} {C : Dc} {c : Str} (h : XF X.K X.mg C.G c) : DEx X C c := ⟨h.q, h.g, h.k, h.s, h.t⟩
section
variable {X : Cx} {C : Dc} {T : List Nat} {pos : Pos}
theorem tk0 {X : Cx} : Takes X Wn := L2.takes0
/-- a test that reads an own name -/
def bBor (i : Nat) (B : BX) : BX := fun ρ => ownAt i ρ >>= fun x => B (ρ.set i (.val x)) >>= fun p => .ok (p.1, ρ)
theorem dt_bor {i : Nat} {e : Expr} {B : BX} (h : DT X C [] e B) : DT X C T e (bBor i B) := by
  refine PT.imp h fun σ H Q ⟨I, ρ, r, k⟩ => ?_
  unfold bBor at k
  cases eo : ownAt i ρ with
  | stuck => rw [eo] at k; exact k.elim
  | exc c => exact (ownAt_exc eo).elim
  | ok x =>
    rw [eo] at k
    obtain ⟨a, o, h1, h2, h3, h4, r1⟩ := r.lend (ownAt_ok eo)
    refine ⟨upd I a o, ρ.set i (.val x), r1, ?_⟩
    have k : tB' C.G C.σ0 C.W T σ I H ρ Q (B (ρ.set i (.val x)) >>= fun p => .ok (p.1, ρ)) := k
    cases ee : B (ρ.set i (.val x)) with
    | stuck => rw [ee] at k; exact k
    | exc c =>
      rw [ee] at k
      intro I2 H2 xx
      exact k _ _ (XX.ofExt r.same (ext_cut r.same h2 h3 h4.nt xx.pure_ext))
    | ok p =>
      obtain ⟨b, ρ'⟩ := p
      rw [ee] at k
      intro I2 H2 xx
      exact k _ _ (XE.ofExt r (ext_cut r.same h2 h3 h4.nt xx.pure_ext))
theorem de_callN {x : Str} {p : Pos} {e : Expr} {es : List Expr} {k n n0 : Nat} {m : FM} {A : AX}
    (F : DFn X C k n x [] m) (hr : Room k X.A) (tk : Takes X C.W) (hlen : n0 = n) (ha : DA X C T (e :: es) A) (hg : Gl X x := by rfl)
    (hdb : (x == ("__debug__" : Str)) = false := by decide) (he : starEach (e :: es) X.env = (false, eval e X.env) :: starEach es X.env := by rfl) (hpl : (backTo pos (starEach es X.env)).any (·.1) = false := by rfl) :
    DE X C T (.Call (.Name x p) (e :: es) [] pos) (eCall n0 m A) := by
  have h := de_call (T := T) (p := p) (dxs := []) (n0 := n0) F hr tk (fun _ => .nil) (by simpa using hlen) ha hg hdb he hpl
  have e1 : (fun ss => m (ss ++ List.map Slot.val [])) = m := by funext ss; simp
  rw [e1] at h
  exact h
end
/-- a method; how instances are made: without a context -/
structure MG (P : Program) (w : World) (K : PySem.W.Frag) (mg : Str → Option Value) (base : Heap) (G : Gm) (k n : Nat) (c x : Str) (dvs : List V) (m : FM) : Prop where
  ex : ∃ (f : Addr) (fd : FuncData) (ps : List Str) (ds : List Value), FnOk P w K mg base (L2.CX P w) k f fd ps (spF G n m) ∧ Cls K (G.cls c) ∧ Meth K (G.cls c) x f ∧ Binds K fd ps ds ∧ Vals dvs ds
theorem MG.d {X : Cx} {C : Dc} {k n : Nat} {c x : Str} {dvs : List V} {m : FM} (h : MG X.prog X.w X.K X.mg X.base C.G k n c x dvs m) : DMt X C k n c x dvs m := ⟨h.ex⟩
theorem MG.mono {P : Program} {w : World} {K : PySem.W.Frag} {mg : Str → Option Value} {base : Heap} {G : Gm} {k k' n : Nat} {c x : Str} {dvs : List V} {m : FM} (h : MG P w K mg base G k n c x dvs m) (hk : k ≤ k') : MG P w K mg base G k' n c x dvs m := by
  obtain ⟨f, fd, ps, ds, F, r⟩ := h.ex
  exact ⟨f, fd, ps, ds, F.mono hk, r⟩
structure MkG (P : Program) (w : World) (K : PySem.W.Frag) (mg : Str → Option Value) (base : Heap) (G : Gm) (k n : Nat) (c x : Str) (ks : List Str) (n0 : Nat) (gp : List PV → List PV → List PV) (m : FM) : Prop where
  ex : ∃ (f : Addr) (fd : FuncData) (ps : List Str) (g : List Value → List Value → List Value) (gV : List V → List V → List V), Mk K (G.cls c) f ∧ FnOk P w K mg base (L2.CX P w) k f fd ps (spF G n m) ∧ mg x = some (.ref (G.cls c)) ∧
    KBn K fd ps (n0 + 1) ks g gV ∧ ∀ (I : Hp) (v : V) (xs ys : List PV) (vs zs : List V), RpL G I xs vs → RpL G I ys zs → vs.length = n0 → zs.length = ks.length → ∃ r, gV (v :: vs) zs = v :: r ∧ RpL G I (gp xs ys) r ∧ r.length + 1 = n
theorem MkG.d {X : Cx} {C : Dc} {k n : Nat} {c x : Str} {ks : List Str} {n0 : Nat} {gp : List PV → List PV → List PV} {m : FM} (h : MkG X.prog X.w X.K X.mg X.base C.G k n c x ks n0 gp m) : DMk X C k n c x ks n0 gp m := ⟨h.ex⟩
theorem MkG.mono {P : Program} {w : World} {K : PySem.W.Frag} {mg : Str → Option Value} {base : Heap} {G : Gm} {k k' n : Nat} {c x : Str} {ks : List Str} {n0 : Nat} {gp : List PV → List PV → List PV} {m : FM} (h : MkG P w K mg base G k n c x ks n0 gp m) (hk : k ≤ k') : MkG P w K mg base G k' n c x ks n0 gp m := by
  obtain ⟨f, fd, ps, g, gV, M, F, r⟩ := h.ex
  exact ⟨f, fd, ps, g, gV, M, F.mono hk, r⟩
end BF

set_option maxRecDepth 100000
set_option maxHeartbeats 4000000
namespace BF
open PySem PySem.Spec L2
open PyProof.Rows hiding St
set_option autoImplicit false
section
variable {X : Cx} {C : Dc} {T : List Nat} {pos : Pos}
def sAsg (E : PX) (t : GX) : SX := fun ρ => E ρ >>= fun p => match t p.1.pv p.2 with
  | .ok ρ' => .ok (.nx ρ')
  | _ => .stuck
theorem ds_asg {tg e : Expr} {E : PX} {t : GX} {js : List Nat} (he : DE X C T e E) (hg : DG X C js tg t) (hs : swapsWithSole [tg] e pos.line X.env = pure false := by rfl) (hw : swappedStores [tg] e X.env = pure none := by rfl)
    (h1 : (assignEach [tg] X.env).map (·.2) = [assign tg X.env] := by rfl) : DS X C (.Assign [tg] e pos) (sAsg E t) := by
  refine PS.imp (ps_asg he hg hs hw h1) fun D σ H ⟨I, ρ, r, k⟩ => ?_
  refine tO.exprF (T := T) .refl r k (fun _ _ => rfl) fun s ρ1 I1 H1 v x1 p k1 => ?_
  simp only [pv_val] at k1
  refine ⟨I1, ρ1, s.pv, x1.sr, p, ?_⟩
  cases e : t s.pv ρ1 with
  | ok ρ' => rw [e] at k1; exact fun σ' r' s' _ => k1 I1 H1 σ' r' (x1.stp.trans s')
  | exc c => rw [e] at k1; exact k1.elim
  | stuck => rw [e] at k1; exact k1.elim
/-- n targets, the one at place i starred: n - 1 - i behind it -/
def gStarL (K : PySem.W.Frag) (n i : Nat) (t : TGs) : TG := fun v σ H Q => ∃ a xs, v = .ref a ∧ SqL K H a xs ∧ n ≤ xs.length + 1 ∧ xs.length ≤ 16384 ∧
  ∀ d, H d = none → t (xs.take i ++ (.ref d :: (xs.drop i).drop (xs.length + 1 - n))) σ (upd H d (.lst ((xs.drop i).take (xs.length + 1 - n)))) Q
theorem vals_take : ∀ {xs : List V} {us : List Value} (k : Nat), Vals xs us → Vals (xs.take k) (us.take k)
  | _, _, 0, _ => by simpa using (Paired.nil : Vals [] [])
  | _, _, _ + 1, .nil => by simpa using (Paired.nil : Vals [] [])
  | _, _, k + 1, .cons a b => by simpa using Paired.cons a (vals_take k b)
theorem vals_drop : ∀ {xs : List V} {us : List Value} (k : Nat), Vals xs us → Vals (xs.drop k) (us.drop k)
  | _, _, 0, h => by simpa using h
  | _, _, _ + 1, .nil => by simpa using (Paired.nil : Vals [] [])
  | _, _, k + 1, .cons _ b => by simpa using vals_drop k b
/-- the items of a list, parted for n targets, the one at i starred: over the heap -/
theorem star_items {P : Program} {w : World} {B : Around} {Ex : Value → Shared → Prop} {u : Shared} {p : Addr} {vs : Array Value} {n i : Nat} {R : List Value → Shared → Prop} (pl : u.heap.IsList p vs) (hh : B.handled = none) (hi : i < n) (hn : n ≤ vs.size + 1) (hz : vs.size ≤ 16384)
    (k : ∀ (g : Heap) (tk : Tok), (∀ b o, b ≠ u.heap.objs.size → u.heap.get? b = some o → g.get? b = some o) →
      R (vs.toList.take i ++ [Value.ref g.objs.size] ++ (vs.toList.drop i).drop (vs.size + 1 - n)) { u with heap := g.push (seqObj "list" ((vs.toList.drop i).take (vs.size + 1 - n)).toArray 0), toks := tk }) :
    wpAny (model P w) B (unpackItems (.ref p) n (some i)) R Ex u := by
  have lt1 : p < u.heap.objs.size := by
    obtain ⟨ob, e, _⟩ := pl
    exact Heap.lt_size e
  have ne1 : p ≠ u.heap.objs.size := Nat.ne_of_lt lt1
  unfold unpackItems notIterableAtAll
  refine wpAny_bind (wpAny_bind (wpAny_specialOf pl.typeIs
    slot_list_iter.lookup (wpAny_pure ?_)))
  simp only [Bool.false_eq_true, if_false]
  refine wpAny_bind (wpAny_holding
    (wpAny_pyIter_list pl ?_))
  refine wpAny_bind (wpAny_holding (PySem.W.kun_draw ne1 i 0 _ _
    ⟨_, Heap.get?_push_size _ rfl, rfl, rfl⟩ (pl.push _) (by omega) fun g1 it1 sb1 => ?_))
  have pl1 : g1.IsList p vs :=
    (pl.push _).extBut sb1.extBut ne1
  rw [Nat.zero_add] at it1
  obtain ⟨oi, ei, _⟩ := id it1
  obtain ⟨ol, el, _⟩ := id pl1
  have len1 : (vs.toList.take i).length = i := by simp; omega
  have len2 : (vs.toList.drop i).length = vs.size - i := by simp
  rw [List.drop_zero, if_neg (by rw [len1]; omega : ¬ (vs.toList.take i).length < i)]
  refine wpAny_bind (wpAny_holding (PySem.W.kun_collect (s := { u with heap := g1 }) (T := "list_iterator")
    (.inr (.inr (.inl rfl))) (Walks.list (A := B.in1) hh u.heap.objs.size p ne1 vs) (fun _ _ st => st.1.typeIs)
    (k := i) (by omega) ⟨it1, pl1⟩ (Heap.lt_size ei) (Heap.lt_size el) (fun g2 tk hk => ?_) (by rw [sizeLine_eq]; omega)))
  have em : (vs.toList.drop i).length - (n - 1 - i) = vs.size + 1 - n := by omega
  show wpAny _ _ (if (vs.toList.drop i).length < n - 1 - i then _ else _) _ _ _
  rw [if_neg (by omega : ¬ (vs.toList.drop i).length < n - 1 - i)]
  have old : ∀ b o, b ≠ u.heap.objs.size → u.heap.get? b = some o → g2.get? b = some o :=
    fun b o nb e => hk b o nb (sb1.extBut b o nb (Heap.get?_push_of_some _ e))
  rw [em]
  refine wpAny_bind (wpAny_newList (wpAny_pure (k g2 tk old)) (by rw [List.length_take, len2, sizeLine_eq]; omega))
theorem pg_starL {es : List Expr} {j : Nat} {t : TGs} {n i : Nat} (hc : X.calm = true) (h : PGs X es t) (hn : (assignEach es X.env).length = n := by rfl) (hst : (assignEach es X.env).findIdx? (·.1) = some i := by rfl) (hi : i < n := by decide) :
    PG X (.Tuple es j pos) (gStarL X.K n i t) := by
  refine ⟨fun pins s σ H v u Q I r hw => ?_⟩
  obtain ⟨a, xs, ev, hq, h1, h2, hw⟩ := hw
  subst ev
  cases r
  obtain ⟨its, rv, pl, hz⟩ := I.list hq
  have el : its.toArray.size = xs.length := by simp [rv.length]
  rw [PyProof.Rows.assign_Tuple]
  refine wpAny_bind (wpAny_standAt ?_)
  unfold unpack
  rw [hn, hst]
  refine wpAny_bind (wpAny_holding (star_items pl.isList (I.ok.hd hc) hi (by omega) (by omega) fun g tk old => ?_))
  have I1 : Inv X pins σ H { s with heap := g, toks := tk } := I.kept (t' := tk) fun b o e => old b o (Nat.ne_of_lt (Heap.lt_size e)) e
  have hd : H g.objs.size = none := I1.hok.fresh (Nat.le_refl _)
  have rd : Vals ((xs.drop i).take (xs.length + 1 - n)) ((its.drop i).take (xs.length + 1 - n)) := vals_take _ (vals_drop _ rv)
  have q := hw _ hd
  have I2 := I1.laid (a := g.objs.size) (o := .lst ((xs.drop i).take (xs.length + 1 - n))) (h' := g.push (seqObj "list" ((its.drop i).take (xs.length + 1 - n)).toArray 0)) (t' := tk) (fun _ _ e => Heap.get?_push_of_some _ e) (Nat.le_refl _)
    ⟨by rw [List.length_take, List.length_drop, sizeLine_eq]; omega, _, 0, rd, Heap.get?_push_size _ rfl⟩
  have e1 : its.toArray.size + 1 - n = xs.length + 1 - n := by rw [el]
  simp only [e1]
  refine h.run pins _ σ _ _ _ Q I2 ?_ q
  rw [List.append_assoc]
  exact (vals_take _ rv).append (.cons rfl (vals_drop _ (vals_drop _ rv)))
/-- the same for a starred name -/
theorem pgs_star {e : Expr} {es : List Expr} {p : Pos} {t : TG} {u : TGs} (h1 : PG X e t) (h2 : PGs X es u) (hs : (assignEach (.Starred e p :: es) X.env).map (·.2) = assign e X.env :: (assignEach es X.env).map (·.2) := by rfl) : PGs X (.Starred e p :: es) (gCons t u) := by
  refine ⟨fun pins s σ H vs us Q I r h => ?_⟩
  obtain ⟨v, vr, ev, h⟩ := h
  subst ev
  cases r with
  | cons ra rb =>
    rw [hs]
    exact assignInOrder_cons (thn (h1.run pins s σ H _ _ _ I ra h) fun _ s1 ⟨σ1, H1, I1, q1⟩ => h2.run pins s1 σ1 H1 _ _ Q I1 rb q1)
theorem PGs.imp' {tg : List Expr} {t t' : TGs} (h : PGs X tg t) (k : ∀ v σ H Q, t' v σ H Q → t v σ H Q) : PGs X tg t' := ⟨fun pins s σ H v u Q I r q => h.run pins s σ H v u Q I r (k v σ H Q q)⟩
theorem gsD_cons {G : Gm} {σ0 : St} {t : GX} {u : GXs} {js ks : List Nat} {vs : List V} {σ : St} {H : Hp} {Q : St → Hp → Prop} (h : gsD G σ0 (js ++ ks) (gsCons t u) vs σ H Q) : gCons (gD G σ0 js t) (gsD G σ0 ks u) vs σ H Q := by
  obtain ⟨I, ρ, xs, r, l, k⟩ := h
  cases l with
  | nil => exact k.elim
  | @cons x v xs vs rx l =>
    refine ⟨v, vs, rfl, I, ρ, x, r, rx, ?_⟩
    unfold gsCons at k
    dsimp only at k
    cases e : t x ρ with
    | exc c => rw [e] at k; exact k
    | stuck => rw [e] at k; exact k
    | ok ρ1 =>
      rw [e] at k
      intro σ1 r1 s1 o1
      refine ⟨I, ρ1, xs, r1, l, ?_⟩
      have k' : match u xs ρ1 with
        | .ok ρ' => ∀ σ', SR G σ0 I H σ' ρ' → Stp I H σ ρ I H σ' ρ' → Off (js ++ ks) σ σ' → Q σ' H
        | _ => False := k
      cases e2 : u xs ρ1 with
      | exc c => rw [e2] at k'; exact k'
      | stuck => rw [e2] at k'; exact k'
      | ok ρ2 =>
        rw [e2] at k'
        exact fun σ2 r2 s2 o2 => k' σ2 r2 (s1.trans s2) ((o1.mono fun i hi => List.mem_append_left _ hi).trans (o2.mono fun i hi => List.mem_append_right _ hi))
theorem dgs_star {e : Expr} {es : List Expr} {p : Pos} {t : GX} {u : GXs} {js ks : List Nat} (h1 : DG X C js e t) (h2 : DGs X C ks es u) (hs : (assignEach (.Starred e p :: es) X.env).map (·.2) = assign e X.env :: (assignEach es X.env).map (·.2) := by rfl) : DGs X C (js ++ ks) (.Starred e p :: es) (gsCons t u) :=
  PGs.imp' (pgs_star h1 h2 hs) fun _ _ _ _ h => gsD_cons h
def starP (n i : Nat) (xs : List PV) : List PV := xs.take i ++ (.lst ((xs.drop i).take (xs.length + 1 - n)) :: (xs.drop i).drop (xs.length + 1 - n))
def sStar (n i : Nat) (E : PX) (t : GXs) : SX := fun ρ => E ρ >>= fun p => match p.1.pv with
  | .lst xs => if n ≤ xs.length + 1 ∧ xs.length ≤ 16384 then (match t (starP n i xs) p.2 with
    | .ok ρ' => .ok (.nx ρ')
    | _ => .stuck) else .stuck
  | _ => .stuck
theorem ds_star {es : List Expr} {e : Expr} {j : Nat} {p : Pos} {E : PX} {t : GXs} {js : List Nat} {n i : Nat} (hc : X.calm = true) (he : DE X C T e E) (hg : DGs X C js es t) (hi : i < n := by decide) (hn : (assignEach es X.env).length = n := by rfl) (hst : (assignEach es X.env).findIdx? (·.1) = some i := by rfl)
    (hs : swapsWithSole [.Tuple es j p] e pos.line X.env = pure false := by rfl) (hw : swappedStores [.Tuple es j p] e X.env = pure none := by rfl) (h1 : (assignEach [.Tuple es j p] X.env).map (·.2) = [assign (.Tuple es j p) X.env] := by rfl) : DS X C (.Assign [.Tuple es j p] e pos) (sStar n i E t) := by
  refine PS.imp (ps_asg he (pg_starL hc hg hn hst hi) hs hw h1) fun D σ H ⟨I, ρ, r, k⟩ => ?_
  refine tO.exprF (T := T) .refl r k (fun _ _ => rfl) fun s ρ1 I1 H1 v x1 p1 k1 => ?_
  simp only [pv_val] at k1
  cases ev : s.pv with
  | lst xs =>
    rw [ev] at k1 p1
    dsimp only at k1
    split at k1
    · rename_i hl
      obtain ⟨a, vs, rfl, ea, la⟩ := rp_lst x1.sr.same p1
      have len := la.length
      refine ⟨a, vs, rfl, .inl (.inl ea), by omega, by omega, fun d hd => ?_⟩
      have x := Ext.newF (o := .lst ((vs.drop i).take (vs.length + 1 - n))) x1.sr.same hd
      have l2 := la.up x.le
      have lm : RpL C.G (upd I1 d (.lst ((vs.drop i).take (vs.length + 1 - n)))) (starP n i xs) (vs.take i ++ (.ref d :: (vs.drop i).drop (vs.length + 1 - n))) := by
        unfold starP
        rw [len]
        exact (l2.take _).append (.cons (.lst upd_same ((l2.drop _).take _)) ((l2.drop _).drop _))
      refine ⟨_, ρ1, _, x1.sr.ext x, lm, ?_⟩
      cases et : t (starP n i xs) ρ1 with
      | ok ρ' => rw [et] at k1; exact fun σ' r' s' _ => k1 _ _ σ' r' ((x1.stp.trans (Stp.ext x1.sr.same x)).trans s')
      | exc c => rw [et] at k1; exact k1.elim
      | stuck => rw [et] at k1; exact k1.elim
    · exact k1.elim
  | _ => rw [ev] at k1; exact k1.elim
end
end BF

set_option maxRecDepth 100000
set_option maxHeartbeats 4000000
namespace BF
open PySem PySem.Spec L2
open PyProof.Rows hiding St
set_option autoImplicit false
section
variable {X : Cx} {C : Dc} {T : List Nat} {pos : Pos}
/-- a new dict, locked as it comes out -/
def tLk (te : TE) : TE := fun σ H Q => te σ H fun v H1 => ∃ d ws, v = .ref d ∧ H1 d = some (.dK ws) ∧ ∀ od, Q v (upd H1 d (.frz od (.dK ws)))
theorem pe_lk {e : Expr} {te : TE} (h : PE X e te) : PE X e (tLk te) := by
  refine ⟨fun pins s σ H Q I q => thn (h.run pins s σ H _ I q) fun u s1 ⟨v, H1, I1, r1, d, ws, ev, hd, k⟩ => ?_⟩
  obtain ⟨od, I2⟩ := I1.lock hd (show Mut (some (.dK ws)) from trivial)
  exact ⟨v, _, I2, r1, k od⟩
theorem SR.frzD {G : Gm} {σ0 : St} {σ : St} {I H : Hp} {ρ : En} {d : Addr} {ws : List (Key × V)} (od : Obj) (r : SR G σ0 I H σ ρ) (n : I d = none) (q : H d = some (.dK ws)) (hc : ∀ (j : Nat) (y : PV), ρ[j]? = some (.own y) ∨ ρ[j]? = some (.prm y) → σ[j]? ≠ some (some (.ref d))) :
    SR G σ0 (upd I d (.frz od (.dK ws))) (upd H d (.frz od (.dK ws))) σ ρ where
  same := same_upd2 r.same
  len := r.len
  val := fun j x e => by obtain ⟨v, h1, h2⟩ := r.val j x e; exact ⟨v, h1, h2.up (same_upd n)⟩
  own := fun j x e => by
    obtain ⟨a, u, h1, h2, h3, h4⟩ := r.own j x e
    have nd : a ≠ d := fun z => hc j x e (by rw [h1, z])
    exact ⟨a, u, h1, by rw [upd_ne nd]; exact h2, by rw [upd_ne nd]; exact h3, h4.up (same_upd n)⟩
  prm := r.prm
  sep := r.sep
  tab := (dk_put2 q nt_frz).tabs r.tab
/-- over the items of a new dict -/
def iXo (f : PV → Res (List PV)) (E : PX) : AX := fun ρ => E ρ >>= fun p => match p.1 with
  | .own x => f x >>= fun xs => .ok (xs, p.2)
  | _ => .stuck
theorem tI_new {E : PX} {f : PV → Res (List PV)} (hf : ∀ x, (∃ kvs, x = .dct kvs) ∨ f x = .stuck) (σ : St) (H : Hp) (R : It → Hp → Prop) (h : tI C.G C.σ0 C.W T (iXo f E) σ H R)
    {t : (It → Hp → Prop) → V → Hp → Prop} (ht : ∀ (I' H' : Hp) (kvs : List (Key × PV)) (d : Addr) (o : Obj) (ws : List (Key × V)), Same I' H' → I' d = some (.frz o (.dK ws)) → RpK C.G I' kvs ws → ∃ xs J, f (.dct kvs) = .ok xs ∧ ItD C.G I' J xs ∧ ∀ R, R J H' → t R (.ref d) H') :
    tLk (tX C.G C.σ0 C.W T E) σ H (fun v H' => t R v H') := by
  obtain ⟨I, ρ, r, k⟩ := h
  refine ⟨I, ρ, r, ?_⟩
  unfold iXo at k
  cases e : E ρ with
  | exc c => rw [e] at k; exact k
  | stuck => rw [e] at k; exact k
  | ok p =>
    obtain ⟨s, ρ1⟩ := p
    rw [e] at k
    simp only [ok_bind] at k
    intro I1 H1 v x w
    cases s with
    | own y =>
      dsimp only at k
      rcases hf y with ⟨kvs, rfl⟩ | z
      · obtain ⟨a, o, ev, h0, n, q, ws, rfl, l⟩ := w
        refine ⟨a, ws, ev, q, fun od => ?_⟩
        subst ev
        have nA : ∀ (j : Nat) (y : PV), ρ1[j]? = some (.own y) ∨ ρ1[j]? = some (.prm y) → σ[j]? ≠ some (some (.ref a)) := x.slots r h0
        have r2 := x.sr.frzD od n q nA
        obtain ⟨xs, J, e1, e2, e3⟩ := ht (upd I1 a (.frz od (.dK ws))) (upd H1 a (.frz od (.dK ws))) kvs a od ws r2.same upd_same (l.up (same_upd n))
        rw [e1] at k
        refine e3 R (k _ _ J ⟨x.le.trans (same_upd n), r2, fun b hb => x.dom b ?_, fun b u nt e m h => ?_, x.tab.trans (dk_put2 q nt_frz), x.eq, x.own, x.prm⟩ e2)
        · unfold upd at hb
          split at hb
          · cases hb
          · exact hb
        · have nb : b ≠ a := ne_of_none e h0
          obtain ⟨k1, k2⟩ := x.keep b u nt e m h
          exact ⟨by rw [upd_ne nb]; exact k1, by rw [upd_ne nb]; exact k2⟩
      · rw [z] at k; exact k.elim
    | _ => exact k.elim
theorem di_itemsE {e : Expr} {apos cpos tpos : Pos} {elts : List Expr} {kk : Nat} {E : PX} (he : DE X C T e E) (h1 : attributeBase e "items" X.env (eval e X.env) = eval e X.env := by rfl) (h2 : (apos.endLine == cpos.line) = true := by rfl) :
    DI X C T (.Tuple elts kk tpos) (.Call (.Attribute e "items" apos) [] [] cpos) (iXo fItems E) :=
  PI.imp (pi_items (pe_lk he) h1 h2) fun σ H R h => tI_new fItems_dct σ H R h (t := fun R v H1 => ∃ d o kvs, v = .ref d ∧ H1 d = some (.frz o (.dK kvs)) ∧ R (Iti d o kvs) H1)
    fun I' H' kvs d o ws hs hd l => ⟨_, _, rfl, its_items hd l, fun R k => ⟨d, o, ws, rfl, hs _ _ hd, k⟩⟩
theorem di_valuesE {tg e : Expr} {apos cpos : Pos} {E : PX} (he : DE X C T e E) (h1 : attributeBase e "values" X.env (eval e X.env) = eval e X.env := by rfl) (h2 : (apos.endLine == cpos.line) = true := by rfl) :
    DI X C T tg (.Call (.Attribute e "values" apos) [] [] cpos) (iXo fVals E) :=
  PI.imp (pi_values (pe_lk he) h1 h2) fun σ H R h => tI_new fVals_dct σ H R h (t := fun R v H1 => ∃ d o kvs, v = .ref d ∧ H1 d = some (.frz o (.dK kvs)) ∧ R (Itd d o kvs) H1)
    fun I' H' kvs d o ws hs hd l => ⟨_, _, rfl, its_vals hd l, fun R k => ⟨d, o, ws, rfl, hs _ _ hd, k⟩⟩
end
end BF

set_option maxRecDepth 100000
set_option maxHeartbeats 4000000
namespace BF
open PySem PySem.Spec L2
open PyProof.Rows hiding St
set_option autoImplicit false
section
variable {P : Program} {w : World} {K : PySem.W.Frag} {mg : Str → Option Value} {base : Heap}
/-- FnOk, promised for calls where no guard is set -/
structure FnB (P : Program) (w : World) (K : PySem.W.Frag) (mg : Str → Option Value) (base : Heap) (CX : CXT) (k : Nat) (f : Addr) (fd : FuncData) (ps : List Str) (sp : Sp) : Prop where
  len : ∀ vs H Q E, sp vs H Q E → vs.length = ps.length
  run : ∀ (B : Around) (out : List Env) (t : Shared) (J : Hp) (al : Args) (xs : List Value) (ys : List V) (R : VK) (Ex : XK), Room k B → B.guards = some [] → Env0 P w K mg base B out t J →
    BindsTo t fd al (ps.zip xs) → Vals ys xs → sp ys J R Ex →
    codeAny (model P w) B (.call (.ref f) al) (CR CX out P w J t R Ex) t
theorem FnB.of {CX : CXT} {k : Nat} {f : Addr} {fd : FuncData} {ps : List Str} {sp : Sp} (F : FnOk P w K mg base CX k f fd ps sp) : FnB P w K mg base CX k f fd ps sp :=
  ⟨F.len, fun B out t J al xs ys R Ex r _ => F.run B out t J al xs ys R Ex r⟩
theorem FnB.mono {CX : CXT} {j k : Nat} {f : Addr} {fd : FuncData} {ps : List Str} {sp : Sp} (F : FnB P w K mg base CX j f fd ps sp) (h : j ≤ k) : FnB P w K mg base CX k f fd ps sp :=
  ⟨F.len, fun B out t J al xs ys R Ex r => F.run B out t J al xs ys R Ex (r.mono h)⟩
/-- the rule for such a def -/
theorem fnB_of {CX : CXT} {k : Nat} {f : Addr} {x qual : Str} {params : Arguments} {body : List Stmt} {scope : Scope} {dvs : List V} {kws : List (Str × V)} {fd : FuncData} {N ps : List Str} {sp : Sp} (F : FunD K x qual params body scope dvs kws f fd) (Sc : FnScope N ps scope)
    (hl : ∀ ys J R Ex, sp ys J R Ex → ys.length = ps.length)
    (hb : ∀ (cdv : Value) (B : Around) (out : List Env) (t : Shared) (J : Hp) (ys : List V) (R : VK) (Ex : XK), Room k (B.deeper (envOfC qual scope t.heap.objs.size f cdv)) → (B.deeper (envOfC qual scope t.heap.objs.size f cdv)).guards = some [] → sp ys J R Ex →
      ∃ q, PSs (cxOf CX P w K mg base N qual scope f cdv B out t J Ex) body q ∧ q { nx := fun _ J' => R .non J', rt := R } (L2.start N ys) J) : FnB P w K mg base CX (k + 1) f fd ps sp := by
  obtain ⟨oc, od, dV, kV, doc, pm, an, cdv, ct, osl, rfl, look, hcode, _, _⟩ := F.ex
  refine ⟨hl, fun B out t J al xs ys R Ex room gd env bd rel hsp => ?_⟩
  have leny := hl _ _ _ _ hsp
  have kin := env.mod.kin.keeps fun b o e => (env.bs b o e).1
  have noli := env.mod.nolimit.keeps fun b o e => (env.bs b o e).1
  have kinds : ∀ z ∈ ps.zip xs, scope.names.lookup z.1 = some .local ∨
      (scope.names.lookup z.1 = some .cell ∧ ((cellsFrom (t.heap.objs.size + 1) scope.names []).lookup z.1).isSome = true) := by
    rintro ⟨z, v⟩ hz
    exact (Sc.par z (List.of_mem_zip hz).1).imp id fun q =>
      ⟨q, PySem.W.cellsFrom_some _ _ _ (.inl q)⟩
  refine codeAny_call_function room.depth (kin _ _ look) rfl
    Sc.co Sc.gen rfl (PySem.W.codeRec_of kin hcode) (bd _ _ _ _ ?_)
  refine wpAny_newFunctionEnv_cells Sc.kind kinds
    fun en he t1 x1 => ?_
  subst he
  refine ⟨noli.keeps x1.toInCall.keep, codeAny_func ?_⟩
  obtain ⟨q, hq, go⟩ := hb cdv B out t J ys R Ex
    (room.deeper _) gd hsp
  have I0 : L2.Inv (cxOf CX P w K mg base N qual scope f cdv B out t J Ex) [] (L2.start N ys) J t1 :=
    inv_start Sc room.hd env leny rel x1
  refine wpAny_mono (hq.run [] t1 _ J _ I0 go) ?_
    fun _ _ z => z
  intro fl t2 z
  have done : ∀ {σ' : St} {J' : Hp} {v : V} {u : Value}, L2.Inv (cxOf CX P w K mg base N qual scope f cdv B out t J Ex) [] σ' J' t2 → RelV v u → R v J' → CE out P w J t R u t2 := by
    intro σ' J' v u I2 rv r
    exact ⟨v, J', I2.os, I2.bare, I2.base, I2.hok, rv, r⟩
  match fl, z with
  | .ret u, ⟨v, σ', J', I2, rv, r⟩ => exact done I2 rv r
  | .next, ⟨σ', J', I2, r⟩ => exact done (v := V.non) (u := Value.none) I2 rfl r
  | .brk, ⟨_, _, _, r⟩ => exact r.elim
  | .cont, ⟨_, _, _, r⟩ => exact r.elim
end
section
variable {X : Cx}
/-- the call -/
theorem run_fnB {CX : CXT} {k : Nat} {f : Addr} {fd : FuncData} {ps : List Str} {sp : Sp} {E : L2.St → XK} {ds : List Value} {dvs : List V} {pins : List (Addr × Obj)} {σ : St} {H : Hp} {s : Shared} {Q : VK} {us : List Value} {vs : List V}
    (F : FnB X.prog X.w X.K X.mg X.base CX k f fd ps sp) (gd : X.A.guards = some []) (hr : Room k X.A) (hb : Binds X.K fd ps ds) (hd : Vals dvs ds) (hx : PassesAt CX X σ (E σ))
    (I : L2.Inv X pins σ H s) (r : Vals vs us) (h : sp (vs ++ dvs) H Q (E σ)) : wpAny (model X.prog X.w) X.A (call (.ref f) us) (EP X pins σ Q) X.xe s := by
  have rr : Vals (vs ++ dvs) (us ++ ds) := r.append hd
  have ll : (us ++ ds).length = ps.length := rr.length.symm.trans (F.len _ _ _ _ h)
  refine wpAny_call (codeAny_mono (F.run X.A X.stack s H
    ⟨us, []⟩ (us ++ ds) (vs ++ dvs) Q (E σ) hr gd I.env0 (hb s us I.kIn ll) rr h) ?_)
  intro res t hq
  match res, hq with
  | .error e, hq => exact hx pins H s e t I hq
  | .ok (.ret u), hq => exact I.after hq
  | .ok .next, hq => exact hq.elim
  | .ok .brk, hq => exact hq.elim
  | .ok .cont, hq => exact hq.elim
end
/-- THE RULE for a def that is called where no guard is set -/
theorem dfnB {P : Program} {w : World} {K : PySem.W.Frag} {mg : Str → Option Value} {base : Heap} {x qual : Str} {params : Arguments} {body : List Stmt} {scope : Scope} {dvs : List V} {kws : List (Str × V)} {f : Addr} {fd : FuncData}
    {N ps : List Str} {k n : Nat} {G : Gm} {S : SX} (F : FunD K x qual params body scope dvs kws f fd) (Sc : FnScope N ps scope) (hn : N.length - ps.length = n)
    (hb : ∀ (cdv : Value) (A : Around) (outer : List Env) (s : Shared) (H : Hp) (vs : List V) (E : XK), Room k (A.deeper (envOfC qual scope s.heap.objs.size f cdv)) → (A.deeper (envOfC qual scope s.heap.objs.size f cdv)).guards = some [] →
      DSs (cxOf (L2.CX P w) P w K mg base N qual scope f cdv A outer s H E) ⟨G, L2.start N vs, fun c d _ H => E c d H⟩ body S) : FnB P w K mg base (L2.CX P w) (k + 1) f fd ps (spF G ps.length (fnM n S)) :=
  fnB_of F Sc (fun vs H Q E h => h.1) fun cdv A outer s H vs Q E hr gd h => ⟨_, hb cdv A outer s H vs E hr gd, spF_st hn h⟩
/-- such a def by its name -/
structure FBG (P : Program) (w : World) (K : PySem.W.Frag) (mg : Str → Option Value) (base : Heap) (G : Gm) (k n : Nat) (x : Str) (dvs : List V) (m : FM) : Prop where
  ex : ∃ (f : Addr) (fd : FuncData) (ps : List Str) (ds : List Value), FnB P w K mg base (L2.CX P w) k f fd ps (spF G n m) ∧ mg x = some (.ref f) ∧ PySem.W.keepIn K (.ref f) = true ∧ Binds K fd ps ds ∧ Vals dvs ds
theorem FBG.mono {P : Program} {w : World} {K : PySem.W.Frag} {mg : Str → Option Value} {base : Heap} {G : Gm} {k k' n : Nat} {x : Str} {dvs : List V} {m : FM} (h : FBG P w K mg base G k n x dvs m) (hk : k ≤ k') : FBG P w K mg base G k' n x dvs m := by
  obtain ⟨f, fd, ps, ds, F, r⟩ := h.ex
  exact ⟨f, fd, ps, ds, F.mono hk, r⟩
section
variable {X : Cx} {C : Dc} {T : List Nat} {pos : Pos}
theorem pe_callB' {k : Nat} {f : Addr} {fd : FuncData} {ps : List Str} {sp : Sp} {E : L2.St → XK} {ds : List Value} {dvs : List V} {x : Str} {p : Pos} {e : Expr} {es : List Expr} {t : TA}
    (F : FnB X.prog X.w X.K X.mg X.base (L2.CX X.prog X.w) k f fd ps sp) (gd : X.A.guards = some []) (hr : Room k X.A) (hg : Gl X x) (hm : X.mg x = some (.ref f)) (hk : PySem.W.keepIn X.K (.ref f) = true) (hb : Binds X.K fd ps ds) (hd : Vals dvs ds) (hx : ∀ σ, PassesAt (L2.CX X.prog X.w) X σ (E σ)) (ha : PA X (e :: es) t)
    (hdb : (x == ("__debug__" : Str)) = false) (he : starEach (e :: es) X.env = (false, eval e X.env) :: starEach es X.env) (hp : (backTo pos (starEach es X.env)).any (·.1) = false) :
    PE X (.Call (.Name x p) (e :: es) [] pos) (tCallSD sp dvs E t) :=
  ⟨fun pins s σ H Q I h => wpAny_Call_Name_kw (ld_glob I hg hm
    (PySem.W.callWith_K (h₀ := X.base) I.ok.mod.kin hk (thn (ha.run pos pins s σ H _ I h) fun us s1 ⟨vs, H1, I1, r, q⟩ =>
      ⟨I1.kIn, run_fnB F gd hr hb hd (hx σ) I1 r q⟩) he hp) hdb)⟩
theorem de_callB {x : Str} {p : Pos} {e : Expr} {es : List Expr} {k n n0 : Nat} {m : FM} {A : AX} (F : FBG X.prog X.w X.K X.mg X.base C.G k n x [] m) (gd : X.A.guards = some []) (hr : Room k X.A) (tk : Takes X C.W) (hlen : n0 = n) (ha : DA X C T (e :: es) A) (hg : Gl X x := by rfl)
    (hdb : (x == ("__debug__" : Str)) = false := by decide) (he : starEach (e :: es) X.env = (false, eval e X.env) :: starEach es X.env := by rfl) (hpl : (backTo pos (starEach es X.env)).any (·.1) = false := by rfl) :
    DE X C T (.Call (.Name x p) (e :: es) [] pos) (eCall n0 m A) := by
  obtain ⟨f, fd, ps, ds, F, hm, hk, hb, hd⟩ := F.ex
  cases hd
  refine PE.imp (pe_callB' (E := fun σ c d H => C.W c d σ H) F gd hr hg hm hk hb .nil (fun σ => passAt tk σ) ha hdb he hpl) fun σ H Q ⟨I, ρ, sr, k⟩ => ?_
  refine tK.nextA (.refl sr) k fun xs ρ1 I1 H1 vs x1 _ l k1 => ?_
  dsimp only at k1
  split at k1
  · rename_i hl
    show spF C.G n m (vs ++ []) H1 Q _
    rw [List.append_nil]
    refine sp_of sr x1 l ?_ k1
    have h1 := l.length
    omega
  · exact k1.elim
def pStr : List PV → Res Slot
  | [.str z] => .ok (.val (.str z))
  | [.tup xs] => (match (PV.tup xs).pd with
    | some d => if d.showable = true ∧ d.depth ≤ 64 ∧ d.shown.length ≤ sizeLine then .ok (.val (.str d.shown)) else .stuck
    | none => .stuck)
  | [.lst xs] => (match (PV.lst xs).pd with
    | some d => if d.showable = true ∧ d.depth ≤ 64 ∧ d.shown.length ≤ sizeLine then .ok (.val (.str d.shown)) else .stuck
    | none => .stuck)
  | _ => .stuck
def rStr (K : PySem.W.Frag) : List V → Hp → VK → Prop := fun xs H Q => (∃ a, xs = [V.str a] ∧ Q (.str a) H) ∨ ∃ a d, xs = [V.ref a] ∧ Dp K H (.ref a) d ∧ d.plain = true ∧ d.showable = true ∧ d.depth ≤ 64 ∧ d.shown.length ≤ sizeLine ∧ Q (.str d.shown) H
mutual
theorem plain_noDict : ∀ d : PyData, d.plain = true → d.hasDict = false
  | .none, _ => by simp only [PyData.hasDict]
  | .bool _, _ => by simp only [PyData.hasDict]
  | .int _, _ => by simp only [PyData.hasDict]
  | .str _, _ => by simp only [PyData.hasDict]
  | .list xs, h => by simp only [PyData.hasDict]; exact plain_noDicts xs (by simpa only [PyData.plain] using h)
  | .tuple xs, h => by simp only [PyData.hasDict]; exact plain_noDicts xs (by simpa only [PyData.plain] using h)
  | .dict _, h => by simp [PyData.plain] at h
theorem plain_noDicts : ∀ ds : List PyData, PyData.plainAll ds = true → PyData.hasDictAll ds = false
  | [], _ => by simp only [PyData.hasDictAll]
  | d :: ds, h => by
    simp only [PyData.plainAll, Bool.and_eq_true] at h
    simp only [PyData.hasDictAll, plain_noDict d h.1, plain_noDicts ds h.2, Bool.or_self]
end
theorem h_str (gd : X.A.guards = some []) (hu : X.A.units + 70 < cLine) : CallR X (.type "str") (rStr X.K) := by
  intro pins s σ H xs us Q I r h
  rcases h with h | ⟨a, d, rfl, hd, hp, hs, hm, hl, q⟩
  · exact SkE.call_str_str pins s σ H xs us Q I r h
  · obtain ⟨as, rr⟩ := Dp.reads I d (.ref a) (.ref a) hd rfl
    rw [Vals.ref1 r]
    refine str_of_reads (h₀ := s.heap) rr hs (fun z => ?_) gd (by omega) (fun _ _ e => e) (fun h' u tk k => ?_) hl
    · rw [plain_noDict d hp] at z; cases z
    · exact ⟨.str d.shown, H, I.kept (t' := tk) k, ⟨u, rfl⟩, q⟩
theorem o_str {G : Gm} {K : PySem.W.Frag} : OpN G (rStr K) pStr := by
  intro I H xs vs h l
  unfold pStr
  split
  · obtain ⟨v, rfl, r⟩ := rpl1 l
    cases r
    exact fun Q k => .inl ⟨_, rfl, k I H _ (.refl h) (.str _)⟩
  · split
    · rename_i d e
      split
      · rename_i hh
        obtain ⟨v, rfl, r⟩ := rpl1 l
        have q := rp_dp (K := K) h r e
        obtain ⟨a, us, rfl, _, _⟩ := rp_tup (K := K) h r
        exact fun Q k => .inr ⟨a, d, rfl, q.1, q.2, hh.1, hh.2.1, hh.2.2, k I H _ (.refl h) (.str _)⟩
      · trivial
    · trivial
  · split
    · rename_i d e
      split
      · rename_i hh
        obtain ⟨v, rfl, r⟩ := rpl1 l
        have q := rp_dp (K := K) h r e
        obtain ⟨a, us, rfl, _, _⟩ := rp_lst h r
        exact fun Q k => .inr ⟨a, d, rfl, q.1, q.2, hh.1, hh.2.1, hh.2.2, k I H _ (.refl h) (.str _)⟩
      · trivial
    · trivial
  · trivial
theorem de_strf {e : Expr} {A : AX} {p : Pos} (gd : X.A.guards = some []) (hu : X.A.units + 70 < cLine) (hm : X.mg "str" = none) (ha : DA X C T [e] A) (hg : Gl X "str" := by rfl) (he : starEach [e] X.env = [(false, eval e X.env)] := by rfl) : DE X C T (.Call (.Name "str" p) [e] [] pos) (eN pStr A) :=
  de_bt (h_str gd hu) o_str hm bt_str ha hg (he := he)
end
end BF

set_option maxRecDepth 100000
set_option maxHeartbeats 4000000
namespace BF
open PySem PySem.Spec L2
open PyProof.Rows hiding St
set_option autoImplicit false
theorem top_call {P : Program} {w : World} {K : PySem.W.Frag} {mg mb : Str → Option Value} {CX : CXT} {k : Nat} {fa p : Addr} {fd : FuncData} {x : Str} {sp : Sp} {t : Shared} {us : List Value} {js : List Int}
    (kin : K.In t.heap) (glo : t.heap.Ns mainGlobals mg) (blt : t.heap.Ns builtinsNs mb) (bb : ∀ y : Str, y ≠ "__name__" → mb y = bootBuiltins y) (lim : t.heap.NoLimit) (gens : t.gens = #[])
    (hp : t.heap.get? p = some { cls := .type "list", data := .seq us.toArray }) (hj : IntsAre us js) (short : js.length ≤ sizeLine) (room : Room k callerA)
    (F : ∀ b0 : Heap, K.In b0 → b0.Ns mainGlobals mg → FnB P w K mg b0 CX k fa fd [x] sp) (bnd : ∀ (r : Shared) (u : Value), BindsTo r fd ⟨[u], []⟩ [(x, u)])
    (hsp : ∀ H : Hp, Only H → SqL K H p (js.map V.int) → sp [.ref p] H (fun v _ => v = .bl true) fun _ _ _ => False)
    (noX : ∀ H e t', CX [] H t (fun _ _ _ => False) e t' → False) :
    codeAny (model P w) callerA (.call (.ref fa) ⟨[.ref p], []⟩)
      (fun r t' => r = .ok (.ret (.bool true)) ∧ OldK t.heap t'.heap ∧ t'.os = t.os ∧ AllBare t'.gens) t := by
  have vals := vals_ints hj
  have lenU := hj.length
  -- whatever heap of the layer is chosen in which the script alone may stand
  have main : ∀ H : Hp, Only H → SqL K H p (js.map V.int) → HOk P w H t.heap →
      (∀ c, H c ≠ none → c = p) → (H p ≠ none → K.lookup p = none) →
      codeAny (model P w) callerA (.call (.ref fa) ⟨[.ref p], []⟩)
        (fun r t' => r = .ok (.ret (.bool true)) ∧ OldK t.heap t'.heap ∧ t'.os = t.os ∧ AllBare t'.gens) t := by
    intro H only seq hok alone free
    have hid : ∀ {c : Addr} {o : Obj}, t.heap.get? c = some o → H c = none →
        (hidT t.heap H).get? c = some o := fun e z => hidT_get e z
    have notD : ∀ {c : Addr} {o : Obj} {en : Array DictEntry} {ep : Nat},
        t.heap.get? c = some o → o.data = .dict en ep → H c = none := by
      intro c o en ep e dd
      by_cases z : H c = none
      · exact z
      · have ec := alone c z
        subst ec
        rw [hp] at e
        cases e
        cases (show Data.seq us.toArray _ = Data.dict en ep from dd)
    have ns : ∀ {c : Addr} {m : Str → Option Value}, t.heap.Ns c m → (hidT t.heap H).Ns c m := by
      rintro c m ⟨o, en, ep, e, dd, r⟩
      exact ⟨o, en, ep, hid e (notD e dd), dd, r⟩
    have kin' : K.In (hidT t.heap H) := by
      intro c o e
      refine hid (kin c o e) ?_
      by_cases z : H c = none
      · exact z
      · have ec := alone c z
        subst ec
        rw [free z] at e
        cases e
    have lim' : (hidT t.heap H).NoLimit := by
      obtain ⟨mc, l1, l2⟩ := lim
      exact ⟨mc, ns l1, l2⟩
    have md : Mod K mg (hidT t.heap H) :=
      ⟨kin', ns glo, ⟨mb, ns blt, bb⟩, lim'⟩
    have env : Env0 P w K mg (hidT t.heap H) callerA [] t H := by
      refine ⟨rfl, md, fun c o e => of_hidT e, Nat.le_of_eq (hidT_size _ _), trivial, ?_, hok, .of_eq gens⟩
      intro c hc
      cases hc
    have go := (F _ kin' (ns glo)).run callerA [] t H
      ⟨[.ref p], []⟩ [.ref p] [.ref p] _ _ room rfl env
      (bnd t (.ref p)) (.cons rfl .nil) (hsp H only seq)
    refine codeAny_mono go ?_
    intro r t' z
    match r, z with
    | .error e, z => exact (noX H e t' z).elim
    | .ok .next, z => exact z.elim
    | .ok .brk, z => exact z.elim
    | .ok .cont, z => exact z.elim
    | .ok (.ret u), ⟨v, H', os, bare, un, hok', rv, q⟩ =>
      have ev : v = .bl true := q
      subst ev
      have eu : u = Value.bool true := rv
      subst eu
      refine ⟨rfl, OldK.of_keep ?_, os, bare⟩
      intro c o e
      by_cases z : H c = none
      · exact un.keep c o e z (fun m => by cases m) (by simp)
      · obtain ⟨ob, xs, q2⟩ := (only c).resolve_left z
        have q3 := un.frzs c ob _ q2
        obtain ⟨e1, _⟩ := hok c _ q2
        obtain ⟨e2, _⟩ := hok' c _ q3
        rw [e] at e1
        cases e1
        exact e2
  cases lk : K.lookup p with
  | some o =>
    have e := kin p o lk
    rw [hp] at e
    cases e
    refine main (fun _ => none) (fun _ => .inl rfl)
      (.inr ⟨_, us.toArray, _, lk, rfl, rfl, rfl, ?_, by simpa using vals⟩)
      (fun c u z => nomatch z) (fun c z => absurd rfl z) (fun z => absurd rfl z)
    rw [List.size_toArray, lenU]
    exact short
  | none =>
    let ob : Obj := { cls := .type "list", data := .seq us.toArray }
    have at_ : (upd (fun _ => none) p (.frz ob (.lst (js.map V.int))) : Hp) p = some (.frz ob (.lst (js.map V.int))) := upd_same
    have off : ∀ c, c ≠ p → (upd (fun _ => none) p (.frz ob (.lst (js.map V.int))) : Hp) c = none :=
      fun c n => upd_ne n
    refine main (upd (fun _ => none) p (.frz ob (.lst (js.map V.int)))) ?_ (.inl (.inr ⟨ob, at_⟩)) ?_ ?_ (fun _ => lk)
    · intro c
      by_cases n : c = p
      · subst n; exact .inr ⟨_, _, at_⟩
      · exact .inl (off c n)
    · intro c u z
      by_cases n : c = p
      · subst n
        rw [at_] at z
        cases z
        exact ⟨hp, by rw [List.length_map]; exact short, us, _, vals, hp⟩
      · rw [off c n] at z
        cases z
    · intro c z
      by_cases n : c = p
      · exact n
      · exact absurd (off c n) z
/-- a law: the written part, the function object, the promise over every base; of the script: how many numbers, how many bits -/
theorem walk_B {l : PySem.W.OpenLaw} {n k : Nat} {q : Program} {loose : List Str} {XP : (Str → Option Value) → Heap → Prop} {YP : World → Heap → Prop} {d : DefRec} {CX : World → CXT} {x : Str}
    (hn : l.most = some n) (hn2 : n ≤ sizeLine) (hdf : d.params.defaults = []) (room : Room k callerA)
    (F : ∀ (w : World) (mg : Str → Option Value) (fa : Addr) (h : Heap), YP w h → h.Ns mainGlobals mg → mg d.name = some (.ref fa) →
      ∃ (K : PySem.W.Frag) (fd : FuncData) (sp : Sp), K.In h ∧ (∀ (s : Shared) (u : Value), BindsTo s fd ⟨[u], []⟩ [(x, u)]) ∧
        (∀ (H : Hp) (a : Addr) (js : List Int), js.length ≤ n → (∀ j ∈ js, Builtin.Int.intBits j ≤ 1048576) → Only H → SqL K H a (js.map V.int) → sp [.ref a] H (fun v _ => v = .bl true) fun _ _ _ => False) ∧
        ∀ b0 : Heap, K.In b0 → b0.Ns mainGlobals mg → FnB l.prog w K mg b0 (CX w) k fa fd [x] sp)
    (noX : ∀ (w : World) (H : Hp) (s : Shared) (e : Value) (s' : Shared), CX w [] H s (fun _ _ _ => False) e s' → False) :
    PySem.W.WalkO q loose XP YP l.row.toRowW d [] (fun f vs => PySem.call f vs) := by
  refine Att.attach_callB hn hdf ?_
  intro w s₀ t mg mb fa o pm cd doc p us js G Y ho hd hcd hmg hobj hints hlen bits hg
  obtain ⟨K, fd, sp, kin, bnd, hsp, hF⟩ := F w mg fa _ Y G.T.g hmg
  exact top_call kin G.T.g G.T.b G.T.builtins G.T.nolimit hg hobj hints (Nat.le_trans hlen hn2) room hF bnd (fun H hO hS => hsp H p js hlen bits hO hS) fun H e t' => noX w H t e t'
end BF

set_option maxRecDepth 100000
set_option maxHeartbeats 4000000
namespace BF
open PySem PySem.Spec L2
open PyProof.Rows hiding St
set_option autoImplicit false
section
variable {X : Cx} {C : Dc} {T : List Nat} {pos : Pos}
def eMutT (E : PX) (kd : PV → Bool) (f : MF) (A : AX) : PX := fun ρ => E ρ >>= fun p => match p.1 with
  | .own x => if kd x = true then (A p.2 >>= fun q => f x q.1 >>= fun r => .ok (.val r.2, q.2)) else .stuck
  | _ => .stuck
theorem tMutT_of {E : PX} {kd : PV → Bool} {f : MF} {A : AX} {r : V → List V → Hp → VK → Prop} {K : PySem.W.Frag} {Ty : String} (o : MtD C.G r f)
    (hty : ∀ (I H : Hp) (a : Addr) (ob : HO) (x : PV), Same I H → H a = some ob → OwnO C.G I x ob → kd x = true → tyV K Ty (.ref a) H)
    (σ : St) (H : Hp) (Q : VK) (h : tX C.G C.σ0 C.W T (eMutT E kd f A) σ H Q) : tBM K Ty r (tX C.G C.σ0 C.W T E) (tAs C.G C.σ0 C.W T A) σ H Q := by
  obtain ⟨I, ρ, r0, k⟩ := h
  refine ⟨I, ρ, r0, ?_⟩
  unfold eMutT at k
  cases e : E ρ with
  | exc c => rw [e] at k; exact k
  | stuck => rw [e] at k; exact k
  | ok p =>
    obtain ⟨s, ρ1⟩ := p
    rw [e] at k
    simp only [ok_bind] at k
    intro I1 H1 v x w
    cases s with
    | own y =>
      dsimp only at k
      by_cases hk : kd y = true
      · rw [if_pos hk] at k
        obtain ⟨a, ob, ev, h0, n, q, ow⟩ := w
        subst ev
        refine ⟨hty I1 H1 a ob y x.same q ow hk, I1, ρ1, x.sr, ?_⟩
        have nA : ∀ (j : Nat) (y : PV), ρ1[j]? = some (.own y) ∨ ρ1[j]? = some (.prm y) → σ[j]? ≠ some (some (.ref a)) := x.slots r0 h0
        cases e2 : A ρ1 with
        | exc c => rw [e2] at k; exact fun I' H' xx => k I' H' (x.xx xx)
        | stuck => rw [e2] at k; exact k
        | ok q2 =>
          obtain ⟨ys, ρ2⟩ := q2
          rw [e2] at k
          simp only [ok_bind] at k
          intro I2 H2 vs x2 l
          obtain ⟨k1, k2⟩ := x2.keep a ob ow.nt q n fun i _ y z => nA i y z
          have nA2 : ∀ (j : Nat) (y : PV), ρ2[j]? = some (.own y) ∨ ρ2[j]? = some (.prm y) → σ[j]? ≠ some (some (.ref a)) := fun j y z => by
            have e' : ∃ y, ρ1[j]? = some (.own y) ∨ ρ1[j]? = some (.prm y) := by
              rcases z with z | z
              · obtain ⟨y, h⟩ := x2.own j y z; exact ⟨y, .inl h⟩
              · obtain ⟨y, h⟩ := x2.prm j y z; exact ⟨y, .inr h⟩
            obtain ⟨y, e'⟩ := e'
            exact nA j y e'
          have s := o I2 H2 a ob y ys vs x2.same k2 k1 (ow.up x2.le) l
          cases e3 : f y ys with
          | stuck => rw [e3] at k; exact k.elim
          | exc c => rw [e3] at s; exact s.elim
          | ok z =>
            rw [e3] at k s
            have x12 := x.trans x2
            refine s Q fun o' v w p => k I2 (upd H2 a o') v ⟨x12.le, x12.sr.off k2 nA2 (ow.pl.put k1), fun b hb => x12.dom b ?_, fun b u nt eb nb ap => ?_, x12.tab.trans (ow.pl.put k1), x12.eq, x12.own, x12.prm⟩ p
            · unfold upd at hb
              split at hb
              · cases hb
              · exact hb
            · obtain ⟨g1, g2⟩ := x12.keep b u nt eb nb ap
              exact ⟨by rw [upd_ne (ne_of_none eb h0)]; exact g1, g2⟩
      · rw [if_neg hk] at k; exact k.elim
    | _ => exact k.elim
theorem de_appendT {o e : Expr} {apos : Pos} {E : PX} {A : AX} (ho : DE X C T o E) (ha : DA X C T [e] A) (h1 : attributeBase o "append" X.env (eval o X.env) = eval o X.env := by rfl)
    (h2 : (apos.endLine == pos.line) = true := by rfl) (h3 : starEach [e] X.env = (false, eval e X.env) :: starEach [] X.env := by rfl) : DE X C T (.Call (.Attribute o "append" apos) [e] [] pos) (eMutT E isLst mAppend A) :=
  PE.imp (pe_bm PySem.F.plainAttrs_list PySem.F.slot_list_append PySem.F.type_list_append mt_append ho ha h1 (by rw [h3]; rfl) h2 h3) (tMutT_of md_append ty_lst)
end
end BF

set_option maxRecDepth 100000
set_option maxHeartbeats 4000000
namespace BF
open PySem PySem.Spec L2
open PyProof.Rows hiding St
set_option autoImplicit false
/-- what is tracked between two turns -/
structure Tr (G : Gm) (T vs : List Nat) (σ : St) (I1 H1 : Hp) (ρ1 : En) (D : Addr) (acc : List PV) (I H : Hp) (ρ : En) : Prop where
  len : ρ.length = ρ1.length
  le : Same I1 I
  list : ∃ us, H D = some (.lst us) ∧ RpL G I acc us
  free : I D = none
  dom : ∀ a, H a = none → H1 a = none
  keep : ∀ a o, NT o → H1 a = some o → I1 a = none → Apart T σ ρ1 a → H a = some o ∧ I a = none
  tab : TabsE I1 H1 I H
  eq : ∀ i, i ∉ T → i ∉ vs → ρ[i]? = ρ1[i]?
  own : ∀ (i : Nat) (x : PV), i ∉ vs → ρ[i]? = some (.own x) → ∃ y, ρ1[i]? = some (.own y)
  prm : ∀ (i : Nat) (x : PV), i ∉ vs → ρ[i]? = some (.prm x) → ∃ y, ρ1[i]? = some (.prm y)
  nov : ∀ i ∈ vs, ∀ x, ρ[i]? ≠ some (.own x) ∧ ρ[i]? ≠ some (.prm x)
section
variable {G : Gm} {σ0 : St} {T vs : List Nat} {σ σ' : St} {I1 H1 I H I' H' : Hp} {ρ1 ρ ρ' : En} {D : Addr} {acc : List PV}
theorem Tr.apart (s : Tr G T vs σ I1 H1 ρ1 D acc I H ρ) (hσ : ∀ i, i ∉ vs → σ'[i]? = σ[i]?) {a : Addr} (h : Apart T σ ρ1 a) : Apart T σ' ρ a := fun i hi y e q => by
  have ni : i ∉ vs := fun z => by rcases e with e | e; exact (s.nov i z y).1 e; exact (s.nov i z y).2 e
  rw [hσ i ni] at q
  rcases e with e | e
  · obtain ⟨z, hz⟩ := s.own i y ni e; exact h i hi z (.inl hz) q
  · obtain ⟨z, hz⟩ := s.prm i y ni e; exact h i hi z (.inr hz) q
theorem Tr.step (s : Tr G T vs σ I1 H1 ρ1 D acc I H ρ) (r : SR G σ0 I H σ' ρ) (x : XE G σ0 T σ' I H ρ I' H' ρ') (hσ : ∀ i, i ∉ vs → σ'[i]? = σ[i]?) (hD : Apart T σ ρ1 D) : Tr G T vs σ I1 H1 ρ1 D acc I' H' ρ' := by
  obtain ⟨us, h1, h2⟩ := s.list
  obtain ⟨k1, k2⟩ := x.keep D _ nt_lst h1 s.free (s.apart hσ hD)
  exact ⟨by rw [← x.sr.len, r.len, s.len], s.le.trans x.le, ⟨us, k1, h2.up x.le⟩, k2, fun a h => s.dom a (x.dom a h), fun a o nt e n h => by
      obtain ⟨e1, n1⟩ := s.keep a o nt e n h
      exact x.keep a o nt e1 n1 (s.apart hσ h), s.tab.trans x.tab, fun i h1 h2 => by rw [x.eq i h1]; exact s.eq i h1 h2, fun i y h e => by
      obtain ⟨z, e⟩ := x.own i y e; exact s.own i z h e, fun i y h e => by
      obtain ⟨z, e⟩ := x.prm i y e; exact s.prm i z h e, fun i h y => ⟨fun e => by
      obtain ⟨z, e⟩ := x.own i y e; exact (s.nov i h z).1 e, fun e => by
      obtain ⟨z, e⟩ := x.prm i y e; exact (s.nov i h z).2 e⟩⟩
theorem Tr.ext (s : Tr G T vs σ I1 H1 ρ1 D acc I H ρ) (hs : Same I H) (x : Ext I H I' H') : Tr G T vs σ I1 H1 ρ1 D acc I' H' ρ := by
  obtain ⟨us, h1, h2⟩ := s.list
  obtain ⟨k1, k2⟩ := x.keep D _ nt_lst h1 s.free
  exact ⟨s.len, s.le.trans x.le, ⟨us, k1, h2.up x.le⟩, k2, fun a h => s.dom a (x.dom hs h), fun a o nt e n h => by
      obtain ⟨e1, n1⟩ := s.keep a o nt e n h
      exact x.keep a o nt e1 n1, s.tab.trans x.tab, s.eq, s.own, s.prm, s.nov⟩
theorem Tr.tgt {vsb js : List Nat} {t : GX} {x : PV} (s : Tr G T vs σ I1 H1 ρ1 D acc I H ρ) (hsub : ∀ i ∈ vsb, i ∈ vs) (hj : ∀ i ∈ js, i ∈ vsb) (ht : Tg js t) (e : t x (killE vsb ρ) = .ok ρ') : Tr G T vs σ I1 H1 ρ1 D acc I H ρ' := by
  have off : ∀ i, i ∉ vs → ρ'[i]? = ρ[i]? := fun i hi => by
    rw [ht.off _ _ _ e i fun z => hi (hsub i (hj i z)), killE_get, if_neg fun z => hi (hsub i z)]
  refine ⟨by rw [ht.len _ _ _ e, killE_len, s.len], s.le, s.list, s.free, s.dom, s.keep, s.tab, fun i h1 h2 => by rw [off i h2]; exact s.eq i h1 h2, fun i y h e => by rw [off i h] at e; exact s.own i y h e, fun i y h e => by rw [off i h] at e; exact s.prm i y h e, fun i h y => ?_⟩
  by_cases hij : i ∈ js
  · refine ⟨fun q => ?_, fun q => ?_⟩ <;> obtain ⟨z, hz⟩ := ht.val _ _ _ e i hij _ q <;> cases hz
  · have e0 := ht.off _ _ _ e i hij
    rw [killE_get] at e0
    by_cases hib : i ∈ vsb
    · rw [if_pos hib] at e0
      refine ⟨fun q => ?_, fun q => ?_⟩ <;> rw [e0] at q <;> cases q2 : ρ[i]? <;> rw [q2] at q <;> cases q
    · rw [if_neg hib] at e0
      rw [e0]
      exact s.nov i h y
end
/-- the general loop -/
def loopG (vsb : List Nat) (t : GX) (B : BX) (K : List PV → En → Res (List PV × En)) : List PV → List PV → En → Res (List PV × En)
  | [], acc, ρ => .ok (acc, ρ)
  | x :: xs, acc, ρ => match t x (killE vsb ρ) with
    | .ok ρ' => noX (B ρ') >>= fun p => if p.1 = true then K acc p.2 >>= fun q => loopG vsb t B K xs q.1 q.2 else loopG vsb t B K xs acc p.2
    | _ => .stuck
/-- at a turn's beginning -/
structure LS (G : Gm) (σ0 : St) (T vs : List Nat) (σ : St) (I1 H1 : Hp) (ρ1 : En) (D : Addr) (σb : St) (vsb : List Nat) (Ij : Hp) (acc : List PV) (I H : Hp) (ρ : En) : Prop where
  sr : SR G σ0 I H (wipe σb vsb) (killE vsb ρ)
  tr : Tr G T vs σ I1 H1 ρ1 D acc I H ρ
  ij : Same Ij I
def kR (S : List PV → Hp → Hp → En → Prop) (Fin : Hp → Prop) : Res (List PV × En) → Prop
  | .ok (acc, ρ) => ∀ I H, S acc I H ρ → Fin H
  | _ => False
section
variable {G : Gm} {σ0 : St} {T vs : List Nat} {σ : St} {I1 H1 : Hp} {ρ1 : En} {D : Addr}
theorem wipe_off2 {σb σ2 : St} {vsb js : List Nat} (h : Off js (wipe σb vsb) σ2) (hj : ∀ i ∈ js, i ∈ vsb) (hsub : ∀ i ∈ vsb, i ∈ vs) (hσ : ∀ i, i ∉ vs → σb[i]? = σ[i]?) : ∀ i, i ∉ vs → σ2[i]? = σ[i]? := fun i hi => by
  rw [h.2 i fun z => hi (hsub i (hj i z)), wipe_get, if_neg fun z => hi (hsub i z)]
  exact hσ i hi
theorem lcG {σb : St} {vsb js : List Nat} {t : GX} {B : BX} {K : List PV → En → Res (List PV × En)} {J : It} {xs : List PV} {Ij : Hp} {BODY : St → Hp → (Hp → Prop) → Prop} {Fin : Hp → Prop} {acc0 : List PV} {I0 H0 : Hp} {ρ0 : En}
    (hsub : ∀ i ∈ vsb, i ∈ vs) (hj : ∀ i ∈ js, i ∈ vsb) (ht : Tg js t) (hσ : ∀ i, i ∉ vs → σb[i]? = σ[i]?) (its : ItD G Ij J xs) (hD : Apart T σ ρ1 D)
    (hbody : ∀ (σ2 : St) (ρ4 : En) (acc : List PV) (I4 H4 : Hp) (Nx : Hp → Prop), wipe σ2 vsb = wipe σb vsb → (∀ i, i ∉ vs → σ2[i]? = σ[i]?) → SR G σ0 I4 H4 σ2 ρ4 → Tr G T vs σ I1 H1 ρ1 D acc I4 H4 ρ4 → Same Ij I4 →
      kR (LS G σ0 T vs σ I1 H1 ρ1 D σb vsb Ij) Nx (K acc ρ4) → BODY σ2 H4 Nx)
    (s0 : LS G σ0 T vs σ I1 H1 ρ1 D σb vsb Ij acc0 I0 H0 ρ0) (k0 : kR (LS G σ0 T vs σ I1 H1 ρ1 D σb vsb Ij) Fin (loopG vsb t B K xs acc0 ρ0)) :
    ∃ W : Nat → Nat → Hp → Prop, (∃ m, W 0 m H0) ∧ ∀ i m H, W i m H → (J.stop i H ∧ Fin H) ∨ (J.go i H ∧ ∃ Nx : Hp → Prop, (∀ H', Nx H' → ∃ m', m' < m ∧ W (i + 1) m' H') ∧ ∀ v H', J.yld i H v H' →
      gD G σ0 js t v (wipe σb vsb) H' fun σ2 H2 => wipe σ2 vsb = wipe σb vsb ∧ tT G σ0 Wn T B σ2 H2 fun b H3 => if b = true then BODY σ2 H3 Nx else Nx H3) := by
  let Wd : Nat → Hp → Prop := fun i H => ∃ I ρ acc, LS G σ0 T vs σ I1 H1 ρ1 D σb vsb Ij acc I H ρ ∧ kR (LS G σ0 T vs σ I1 H1 ρ1 D σb vsb Ij) Fin (loopG vsb t B K (xs.drop i) acc ρ)
  refine ⟨fun i m H => m = xs.length - i ∧ i ≤ xs.length ∧ Wd i H, ⟨xs.length, by simp, Nat.zero_le _, I0, ρ0, acc0, s0, k0⟩, ?_⟩
  rintro i m H ⟨rfl, hi, I, ρ, acc, s, k⟩
  by_cases hl : i < xs.length
  · refine .inr ⟨its.go i I H hl s.ij s.sr.same, Wd (i + 1), fun H' q => ⟨xs.length - (i + 1), by omega, rfl, hl, q⟩, fun v H2 y => ?_⟩
    obtain ⟨I2, x, x2, ex, p⟩ := its.yld i I H v H2 hl s.ij s.sr.same y
    have ed : xs.drop i = x :: xs.drop (i + 1) := by
      rw [List.drop_eq_getElem_cons hl]
      rw [List.getElem?_eq_getElem hl] at ex
      cases ex; rfl
    rw [ed] at k
    unfold loopG at k
    refine ⟨I2, killE vsb ρ, x, s.sr.ext x2, p, ?_⟩
    cases et : t x (killE vsb ρ) with
    | exc c => rw [et] at k; exact k.elim
    | stuck => rw [et] at k; exact k.elim
    | ok ρ3 =>
      rw [et] at k
      intro σ3 r3 _ of3
      have ew := wipe_off of3 hj
      have hσ3 := wipe_off2 of3 hj hsub hσ
      have tr3 := (s.tr.ext s.sr.same x2).tgt hsub hj ht et
      refine ⟨ew, I2, ρ3, r3, ?_⟩
      dsimp only at k
      cases eB : B ρ3 with
      | exc c => rw [eB] at k; exact k.elim
      | stuck => rw [eB] at k; exact k.elim
      | ok q =>
        obtain ⟨b, ρ4⟩ := q
        rw [eB] at k
        intro I4 H4 x4
        have tr4 := tr3.step r3 x4 hσ3 hD
        have ij4 : Same Ij I4 := s.ij.trans (x2.le.trans x4.le)
        have sw : SR G σ0 I4 H4 (wipe σb vsb) (killE vsb ρ4) := by
          have := x4.sr.wipe vsb
          rw [ew] at this; exact this
        cases b with
        | false =>
          rw [if_neg Bool.false_ne_true]
          have k2 : kR (LS G σ0 T vs σ I1 H1 ρ1 D σb vsb Ij) Fin (loopG vsb t B K (xs.drop (i + 1)) acc ρ4) := by simpa [noX] using k
          exact ⟨I4, ρ4, acc, ⟨sw, tr4, ij4⟩, k2⟩
        | true =>
          rw [if_pos rfl]
          have k2 : kR (LS G σ0 T vs σ I1 H1 ρ1 D σb vsb Ij) Fin (K acc ρ4 >>= fun q => loopG vsb t B K (xs.drop (i + 1)) q.1 q.2) := by simpa [noX] using k
          refine hbody σ3 ρ4 acc I4 H4 _ ew hσ3 x4.sr tr4 ij4 ?_
          cases eK : K acc ρ4 with
          | exc c => rw [eK] at k2; exact k2.elim
          | stuck => rw [eK] at k2; exact k2.elim
          | ok q =>
            obtain ⟨acc5, ρ5⟩ := q
            rw [eK] at k2
            exact fun I5 H5 s5 => ⟨I5, ρ5, acc5, s5, k2⟩
  · refine .inl ⟨its.stop i I H (by omega) s.ij s.sr.same, ?_⟩
    rw [List.drop_eq_nil_of_le (by omega)] at k
    exact k I H s
end
section
variable {G : Gm} {σ0 : St} {T vs : List Nat} {σ : St} {I H I1 H1 I2 H2 : Hp} {ρ ρ1 ρ2 : En} {D : Addr} {acc : List PV}
theorem LcSt.fin (x1 : XE G σ0 T σ I H ρ I1 H1 ρ1) (no : noOwn vs ρ1 = true) (hD : H1 D = none) (s : LcSt G σ0 T vs σ I1 H1 ρ1 D acc I2 H2 ρ2) : XE G σ0 T σ I H ρ I2 H2 (mergeE vs ρ1 ρ2) ∧ RS G H I2 H2 (.own (.lst acc)) (.ref D) := by
  obtain ⟨us, hus, lus⟩ := s.list
  have mg : ∀ i, (mergeE vs ρ1 ρ2)[i]? = if i ∈ vs then ρ1[i]? else ρ2[i]? := fun i => mergeE_get s.len
  have inner : ∀ {i : Nat} {sl : Slot}, i ∉ vs → ρ2[i]? = some sl → (killE vs ρ2)[i]? = some sl ∧ (wipe σ vs)[i]? = σ[i]? := fun {i sl} h e => ⟨by rw [killE_get, if_neg h]; exact e, by rw [wipe_get, if_neg h]⟩
  have owns : ∀ {i : Nat} {x : PV}, ((mergeE vs ρ1 ρ2)[i]? = some (.own x) ∨ (mergeE vs ρ1 ρ2)[i]? = some (.prm x)) → i ∉ vs ∧ (ρ2[i]? = some (.own x) ∨ ρ2[i]? = some (.prm x)) := fun {i x} e => by
    rw [mg i] at e
    by_cases h : i ∈ vs
    · rw [if_pos h] at e
      rcases e with e | e
      · exact ((noOwn_at no h).1 e).elim
      · exact ((noOwn_at no h).2 e).elim
    · rw [if_neg h] at e; exact ⟨h, e⟩
  refine ⟨x1.trans ⟨s.le, ⟨s.sr.same, ?_, fun i x e => ?_, fun i x e => ?_, fun i x e => ?_, fun i j x y a ei ej h1 h2 => ?_, s.sr.tab⟩, s.dom, s.keep, s.tab, fun i h => ?_, fun i x e => ?_, fun i x e => ?_⟩, ⟨D, _, rfl, x1.dom D hD, s.free, hus, us, rfl, lus⟩⟩
  · rw [mergeE_len, s.len]; exact x1.sr.len
  · rw [mg i] at e
    by_cases h : i ∈ vs
    · rw [if_pos h] at e
      obtain ⟨v, h1, h2⟩ := x1.sr.val i x e
      exact ⟨v, h1, h2.up s.le⟩
    · rw [if_neg h] at e
      obtain ⟨e1, e2⟩ := inner h e
      rw [← e2]; exact s.sr.val i x e1
  · obtain ⟨h, e⟩ := owns e
    have hw : (wipe σ vs)[i]? = σ[i]? := by rw [wipe_get, if_neg h]
    rw [← hw]
    rcases e with e | e
    · exact s.sr.own i x (.inl (inner h e).1)
    · exact s.sr.own i x (.inr (inner h e).1)
  · obtain ⟨h, _⟩ := owns (.inr e)
    rw [mg i, if_neg h] at e
    obtain ⟨e1, e2⟩ := inner h e
    rw [← e2]; exact s.sr.prm i x e1
  · obtain ⟨n1, q1⟩ := owns ei
    obtain ⟨n2, q2⟩ := owns ej
    have w1 : (wipe σ vs)[i]? = σ[i]? := by rw [wipe_get, if_neg n1]
    have w2 : (wipe σ vs)[j]? = σ[j]? := by rw [wipe_get, if_neg n2]
    refine s.sr.sep i j x y a ?_ ?_ (by rw [w1]; exact h1) (by rw [w2]; exact h2)
    · rcases q1 with q | q
      · exact .inl (inner n1 q).1
      · exact .inr (inner n1 q).1
    · rcases q2 with q | q
      · exact .inl (inner n2 q).1
      · exact .inr (inner n2 q).1
  · rw [mg i]
    by_cases hv : i ∈ vs
    · rw [if_pos hv]
    · rw [if_neg hv]; exact s.eq i h hv
  · obtain ⟨h, _⟩ := owns (.inl e)
    rw [mg i, if_neg h] at e
    exact s.own i x h e
  · obtain ⟨h, _⟩ := owns (.inr e)
    rw [mg i, if_neg h] at e
    exact s.prm i x h e
end
section
variable {X : Cx} {C : Dc} {T : List Nat} {pos : Pos}
def K1 (E : PX) (acc : List PV) (ρ : En) : Res (List PV × En) := noX (E ρ) >>= fun q => if acc.length < sizeLine then .ok (acc ++ [q.1.pv], q.2) else .stuck
def K2 (vs1 : List Nat) (F1 : AX) (t1 : GX) (B1 : BX) (E : PX) (acc : List PV) (ρ : En) : Res (List PV × En) := noX (F1 ρ) >>= fun p => loopG vs1 t1 B1 (K1 E) p.1 acc p.2
def eLc2 (vs vs1 : List Nat) (F : AX) (t : GX) (B : BX) (F1 : AX) (t1 : GX) (B1 : BX) (E : PX) : PX := fun ρ => F ρ >>= fun p => if noOwn vs p.2 = true then loopG vs t B (K2 vs1 F1 t1 B1 E) p.1 [] p.2 >>= fun q => .ok (.own (.lst q.1), mergeE vs p.2 q.2) else .stuck
/-- an item is put behind -/
theorem body1 {G : Gm} {σ0 : St} {vs : List Nat} {σ : St} {I1 H1 : Hp} {ρ1 : En} {D : Addr} {σb : St} {vsb : List Nat} {Ij : Hp} {E : PX} {σ2 : St} {ρ4 : En} {acc : List PV} {I4 H4 : Hp} {Nx : Hp → Prop} (hD : Apart T σ ρ1 D) (hD1 : H1 D = none)
    (hin : ∀ i ∈ vsb, i ∈ vs) (slots : ∀ (j : Nat) (y : PV), ρ1[j]? = some (.own y) ∨ ρ1[j]? = some (.prm y) → σ[j]? ≠ some (some (.ref D)))
    (ew : wipe σ2 vsb = wipe σb vsb) (hσ : ∀ i, i ∉ vs → σ2[i]? = σ[i]?) (r : SR G σ0 I4 H4 σ2 ρ4) (s : Tr G T vs σ I1 H1 ρ1 D acc I4 H4 ρ4) (ij : Same Ij I4)
    (k : kR (LS G σ0 T vs σ I1 H1 ρ1 D σb vsb Ij) Nx (K1 E acc ρ4)) : tX G σ0 Wn T E σ2 H4 fun y H5 => ∃ acc, H5 D = some (.lst acc) ∧ acc.length < sizeLine ∧ Nx (upd H5 D (.lst (acc ++ [y]))) := by
  unfold K1 at k
  refine ⟨I4, ρ4, r, ?_⟩
  cases eE : E ρ4 with
  | exc c => rw [eE] at k; exact k.elim
  | stuck => rw [eE] at k; exact k.elim
  | ok q =>
    obtain ⟨sl, ρ5⟩ := q
    rw [eE] at k
    intro I5 H5 y5 x5 w5
    obtain ⟨I6, x6, le6, p6⟩ := x5.frz r w5
    have k2 : kR (LS G σ0 T vs σ I1 H1 ρ1 D σb vsb Ij) Nx (if acc.length < sizeLine then .ok (acc ++ [sl.pv], ρ5) else .stuck) := by simpa [noX] using k
    by_cases hz : acc.length < sizeLine
    · rw [if_pos hz] at k2
      have tr := s.step r x6 hσ hD
      obtain ⟨us, g1, g2⟩ := tr.list
      have sw : SR G σ0 I6 H5 (wipe σb vsb) (killE vsb ρ5) := by
        have := x6.sr.wipe vsb
        rw [ew] at this; exact this
      have nD : ∀ (j : Nat) (y : PV), (killE vsb ρ5)[j]? = some (.own y) ∨ (killE vsb ρ5)[j]? = some (.prm y) → (wipe σb vsb)[j]? ≠ some (some (.ref D)) := fun j y e q => by
        have hjb : j ∉ vsb := fun z => by
          rw [killE_get, if_pos z] at e
          rcases e with e | e <;> cases q : ρ5[j]? <;> rw [q] at e <;> cases e
        rw [killE_get, if_neg hjb] at e
        have hjv : j ∉ vs := fun z => by rcases e with e | e; exact (tr.nov j z y).1 e; exact (tr.nov j z y).2 e
        have e2 : (wipe σb vsb)[j]? = σ[j]? := by rw [← ew, wipe_get, if_neg hjb]; exact hσ j hjv
        rw [e2] at q
        have e' : ∃ y, ρ1[j]? = some (.own y) ∨ ρ1[j]? = some (.prm y) := by
          rcases e with e | e
          · obtain ⟨z, e⟩ := tr.own j y hjv e; exact ⟨z, .inl e⟩
          · obtain ⟨z, e⟩ := tr.prm j y hjv e; exact ⟨z, .inr e⟩
        obtain ⟨z, e'⟩ := e'
        exact slots j z e' q
      refine ⟨us, g1, by rw [← g2.length]; exact hz, k2 I6 _ ⟨sw.off tr.free nD (Pl.put (.inl ⟨_, rfl⟩) g1), ⟨tr.len, tr.le, ⟨_, upd_same, g2.append (.one p6)⟩, tr.free, fun a e => ?_, fun a o nt e n h => ?_, tr.tab.trans (Pl.put (.inl ⟨_, rfl⟩) g1), tr.eq, tr.own, tr.prm, tr.nov⟩, ij.trans x6.le⟩⟩
      · unfold upd at e
        split at e
        · cases e
        · exact tr.dom a e
      · obtain ⟨e1, n1⟩ := tr.keep a o nt e n h
        exact ⟨by rw [upd_ne (ne_of_none e hD1)]; exact e1, n1⟩
    · rw [if_neg hz] at k2; exact k2.elim
end
end BF

set_option maxRecDepth 100000
set_option maxHeartbeats 4000000
namespace BF
open PySem PySem.Spec L2
open PyProof.Rows hiding St
set_option autoImplicit false
theorem wipe_wipe {σ2 σb : St} {vsb vs1 : List Nat} (ew : wipe σ2 vsb = wipe σb vsb) (h1 : ∀ i ∈ vs1, i ∈ vsb) : wipe (wipe σ2 vs1) vsb = wipe σb vsb := by
  rw [← ew]
  refine List.ext_getElem? fun i => ?_
  have e1 := wipe_get (σ := wipe σ2 vs1) (vs := vsb) (i := i)
  have e2 := wipe_get (σ := σ2) (vs := vsb) (i := i)
  have e3 := wipe_get (σ := σ2) (vs := vs1) (i := i)
  rw [e1, e2, e3]
  by_cases h : i ∈ vsb
  · rw [if_pos h, if_pos h]
    by_cases g : i ∈ vs1
    · rw [if_pos g]; cases σ2[i]? <;> rfl
    · rw [if_neg g]
  · rw [if_neg h, if_neg h, if_neg fun z => h (h1 i z)]
theorem killE_killE {ρ : En} {vsb vs1 : List Nat} (h1 : ∀ i ∈ vs1, i ∈ vsb) : killE vsb (killE vs1 ρ) = killE vsb ρ := by
  refine List.ext_getElem? fun i => ?_
  have e1 := killE_get (ρ := killE vs1 ρ) (vs := vsb) (i := i)
  have e2 := killE_get (ρ := ρ) (vs := vsb) (i := i)
  have e3 := killE_get (ρ := ρ) (vs := vs1) (i := i)
  rw [e1, e2, e3]
  by_cases h : i ∈ vsb
  · rw [if_pos h, if_pos h]
    by_cases g : i ∈ vs1
    · rw [if_pos g]; cases ρ[i]? <;> rfl
    · rw [if_neg g]
  · rw [if_neg h, if_neg h, if_neg fun z => h (h1 i z)]
section
variable {X : Cx} {C : Dc} {T : List Nat} {pos : Pos}
/-- a second for -/
theorem body2 {G : Gm} {σ0 : St} {vs : List Nat} {σ : St} {I1 H1 : Hp} {ρ1 : En} {D : Addr} {σb : St} {vsb : List Nat} {Ij : Hp} {F1 : AX} {t1 : GX} {B1 : BX} {E : PX} {vs1 js1 : List Nat} {σ2 : St} {ρ4 : En} {acc : List PV} {I4 H4 : Hp} {Nx : Hp → Prop} (hD : Apart T σ ρ1 D) (hD1 : H1 D = none)
    (hin : ∀ i ∈ vsb, i ∈ vs) (slots : ∀ (j : Nat) (y : PV), ρ1[j]? = some (.own y) ∨ ρ1[j]? = some (.prm y) → σ[j]? ≠ some (some (.ref D))) (h1 : ∀ i ∈ vs1, i ∈ vsb) (hj1 : ∀ i ∈ js1, i ∈ vs1) (ht1 : Tg js1 t1)
    (ew : wipe σ2 vsb = wipe σb vsb) (hσ : ∀ i, i ∉ vs → σ2[i]? = σ[i]?) (r : SR G σ0 I4 H4 σ2 ρ4) (s : Tr G T vs σ I1 H1 ρ1 D acc I4 H4 ρ4) (ij : Same Ij I4)
    (k : kR (LS G σ0 T vs σ I1 H1 ρ1 D σb vsb Ij) Nx (K2 vs1 F1 t1 B1 E acc ρ4)) :
    tI G σ0 Wn T F1 σ2 H4 fun J1 H5 => ∃ W1 : Nat → Nat → Hp → Prop, (∃ m, W1 0 m H5) ∧ ∀ j k H, W1 j k H →
      (J1.stop j H ∧ Nx H) ∨ (J1.go j H ∧ ∃ Nx1 : Hp → Prop, (∀ H', Nx1 H' → ∃ k', k' < k ∧ W1 (j + 1) k' H') ∧ ∀ x H', J1.yld j H x H' → gD G σ0 js1 t1 x (wipe σ2 vs1) H' fun σ3 H6 => wipe σ3 vs1 = wipe σ2 vs1 ∧ tT G σ0 Wn T B1 σ3 H6 fun b H7 =>
        if b = true then tX G σ0 Wn T E σ3 H7 fun y H8 => ∃ acc, H8 D = some (.lst acc) ∧ acc.length < sizeLine ∧ Nx1 (upd H8 D (.lst (acc ++ [y]))) else Nx1 H7) := by
  unfold K2 at k
  refine ⟨I4, ρ4, r, ?_⟩
  cases eF : F1 ρ4 with
  | exc c => rw [eF] at k; exact k.elim
  | stuck => rw [eF] at k; exact k.elim
  | ok q =>
    obtain ⟨xs1, ρ5⟩ := q
    rw [eF] at k
    intro I5 H5 J1 x5 its1
    have tr5 := s.step r x5 hσ hD
    have k2 : kR (LS G σ0 T vs σ I1 H1 ρ1 D σb vsb Ij) Nx (loopG vs1 t1 B1 (K1 E) xs1 acc ρ5) := by simpa [noX] using k
    refine lcG (vs := vs) (BODY := fun σ3 H7 Nx1 => tX G σ0 Wn T E σ3 H7 fun y H8 => ∃ acc, H8 D = some (.lst acc) ∧ acc.length < sizeLine ∧ Nx1 (upd H8 D (.lst (acc ++ [y]))))
      (fun i hi => hin i (h1 i hi)) hj1 ht1 hσ its1 hD (fun σ3 ρ6 acc6 I6 H6 Nx1 e1 e2 r6 s6 ij6 k6 => body1 hD hD1 (fun i hi => hin i (h1 i hi)) slots e1 e2 r6 s6 ij6 k6) ⟨x5.sr.wipe vs1, tr5, Same.refl _⟩ ?_
    cases eL : loopG vs1 t1 B1 (K1 E) xs1 acc ρ5 with
    | exc c => rw [eL] at k2; exact k2.elim
    | stuck => rw [eL] at k2; exact k2.elim
    | ok q =>
      obtain ⟨acc7, ρ7⟩ := q
      rw [eL] at k2
      intro I7 H7 s7
      refine k2 I7 H7 ⟨?_, s7.tr, ij.trans (x5.le.trans s7.ij)⟩
      have := s7.sr.wipe vsb
      rw [wipe_wipe ew h1, killE_killE h1] at this
      exact this
theorem tLc2_of {vs vs1 js js1 : List Nat} {F F1 : AX} {t t1 : GX} {B B1 : BX} {E : PX} (hj : ∀ i ∈ js, i ∈ vs) (ht : Tg js t) (h1 : ∀ i ∈ vs1, i ∈ vs) (hj1 : ∀ i ∈ js1, i ∈ vs1) (ht1 : Tg js1 t1) (σ : St) (H : Hp) (Q : VK) (h : tX C.G C.σ0 C.W T (eLc2 vs vs1 F t B F1 t1 B1 E) σ H Q) :
    tLc2 (tI C.G C.σ0 C.W T F) (gD C.G C.σ0 js t) (tT C.G C.σ0 Wn T B) (tI C.G C.σ0 Wn T F1) (gD C.G C.σ0 js1 t1) (tT C.G C.σ0 Wn T B1) (tX C.G C.σ0 Wn T E) vs vs1 σ H Q := by
  obtain ⟨I, ρ, sr, k⟩ := h
  refine ⟨I, ρ, sr, ?_⟩
  unfold eLc2 at k
  cases eF : F ρ with
  | exc c => rw [eF] at k; exact k
  | stuck => rw [eF] at k; exact k
  | ok q =>
    obtain ⟨xs, ρ1⟩ := q
    rw [eF] at k
    simp only [ok_bind] at k
    intro I1 H1 J x1 its D hD
    cases no : noOwn vs ρ1 with
    | false => rw [no, if_neg Bool.false_ne_true] at k; exact k.elim
    | true =>
    rw [no, if_pos rfl] at k
    have slots : ∀ (j : Nat) (y : PV), ρ1[j]? = some (.own y) ∨ ρ1[j]? = some (.prm y) → σ[j]? ≠ some (some (.ref D)) := fun j y e q => by
      obtain ⟨a, g1, g2⟩ := x1.sr.tracked j y e
      rw [q] at g1; cases g1
      exact g2 hD
    have hD0 : Apart T σ ρ1 D := fun i _ y e => slots i y e
    have s0 : LS C.G C.σ0 T vs σ I1 H1 ρ1 D σ vs I1 [] I1 (upd H1 D (.lst [])) ρ1 :=
      ⟨(x1.sr.ext (Ext.new x1.same hD)).wipe vs, ⟨rfl, Same.refl _, ⟨[], upd_same, .nil⟩, same_none x1.same hD, fun a e => by
        unfold upd at e
        split at e
        · cases e
        · exact e, fun a o _ e n _ => ⟨by rw [upd_ne (ne_of_none e hD)]; exact e, n⟩, TabsE.new hD, fun _ _ _ => rfl, fun i x _ e => ⟨x, e⟩, fun i x _ e => ⟨x, e⟩, fun i hi x => noOwn_at no hi⟩, Same.refl _⟩
    refine lcG (vs := vs) (BODY := fun σ2 H3 Nx => tI C.G C.σ0 Wn T F1 σ2 H3 fun J1 H4 => ∃ W1 : Nat → Nat → Hp → Prop, (∃ m, W1 0 m H4) ∧ ∀ j k H, W1 j k H →
      (J1.stop j H ∧ Nx H) ∨ (J1.go j H ∧ ∃ Nx1 : Hp → Prop, (∀ H', Nx1 H' → ∃ k', k' < k ∧ W1 (j + 1) k' H') ∧ ∀ x H', J1.yld j H x H' → gD C.G C.σ0 js1 t1 x (wipe σ2 vs1) H' fun σ3 H5 => wipe σ3 vs1 = wipe σ2 vs1 ∧ tT C.G C.σ0 Wn T B1 σ3 H5 fun b H6 =>
        if b = true then tX C.G C.σ0 Wn T E σ3 H6 fun y H7 => ∃ acc, H7 D = some (.lst acc) ∧ acc.length < sizeLine ∧ Nx1 (upd H7 D (.lst (acc ++ [y]))) else Nx1 H6))
      (fun i hi => hi) hj ht (fun i _ => rfl) its hD0 (fun σ2 ρ4 acc I4 H4 Nx e1 e2 r4 s4 ij4 k4 => body2 hD0 hD (fun i hi => hi) slots h1 hj1 ht1 e1 e2 r4 s4 ij4 k4) s0 ?_
    cases eL : loopG vs t B (K2 vs1 F1 t1 B1 E) xs [] ρ1 with
    | exc c =>
      exfalso
      rw [eL] at k
      -- a loop raises nothing
      have nx : ∀ (K : List PV → En → Res (List PV × En)) (vsb : List Nat) (t : GX) (B : BX), (∀ acc ρ c, K acc ρ ≠ .exc c) → ∀ (xs : List PV) (acc : List PV) (ρ : En) (c : Str), loopG vsb t B K xs acc ρ ≠ .exc c := by
        intro K vsb t B hK xs
        induction xs with
        | nil => intro acc ρ c e; cases e
        | cons x xs ih =>
          intro acc ρ c e
          unfold loopG at e
          cases et : t x (killE vsb ρ) with
          | exc c' => rw [et] at e; cases e
          | stuck => rw [et] at e; cases e
          | ok ρ' =>
            rw [et] at e
            dsimp only at e
            cases eB : B ρ' with
            | exc c' => rw [eB] at e; cases e
            | stuck => rw [eB] at e; cases e
            | ok q =>
              rw [eB] at e
              have e' : (if q.1 = true then K acc q.2 >>= fun q => loopG vsb t B K xs q.1 q.2 else loopG vsb t B K xs acc q.2) = .exc c := by simpa [noX] using e
              split at e'
              · cases eK : K acc q.2 with
                | exc c' => exact hK _ _ _ eK
                | stuck => rw [eK] at e'; cases e'
                | ok z => rw [eK] at e'; exact ih _ _ _ e'
              · exact ih _ _ _ e'
      refine nx _ _ _ _ (fun acc ρ c e => ?_) _ _ _ _ eL
      unfold K2 at e
      cases e1 : F1 ρ with
      | exc c' => rw [e1] at e; cases e
      | stuck => rw [e1] at e; cases e
      | ok z =>
        rw [e1] at e
        have e' : loopG vs1 t1 B1 (K1 E) z.1 acc z.2 = .exc c := by simpa [noX] using e
        refine nx _ _ _ _ (fun acc ρ c e => ?_) _ _ _ _ e'
        unfold K1 at e
        cases e1 : E ρ with
        | exc c' => rw [e1] at e; cases e
        | stuck => rw [e1] at e; cases e
        | ok z =>
          rw [e1] at e
          have e' : (if acc.length < sizeLine then (.ok (acc ++ [z.1.pv], z.2) : Res (List PV × En)) else .stuck) = .exc c := by simpa [noX] using e
          split at e' <;> cases e'
    | stuck => rw [eL] at k; exact k.elim
    | ok q =>
      obtain ⟨acc, ρ2⟩ := q
      rw [eL] at k
      intro I2 H2 s2
      have st : LcSt C.G C.σ0 T vs σ I1 H1 ρ1 D acc I2 H2 ρ2 := ⟨s2.sr, s2.tr.len, s2.tr.le, s2.tr.list, s2.tr.free, s2.tr.dom, s2.tr.keep, s2.tr.tab, s2.tr.eq, s2.tr.own, s2.tr.prm⟩
      obtain ⟨x, w⟩ := st.fin x1 no hD
      exact k I2 H2 (.ref D) x w
theorem de_lc2 {elt tg iter tg1 iter1 : Expr} {ifs ifs1 : List Expr} {scope : Scope} {own : List (Str × Nat)} {vs1 js js1 : List Nat} {F F1 : AX} {t t1 : GX} {B B1 : BX} {E : PX} (hc : X.calm = true) (hN : X.N.Nodup) (ok : BlkOk X.N X.env.scope scope own) (hj : ∀ i ∈ js, i ∈ own.map (·.2)) (ht : Tg js t)
    (h1 : ∀ i ∈ vs1, i ∈ own.map (·.2)) (hj1 : ∀ i ∈ js1, i ∈ vs1) (ht1 : Tg js1 t1) (hi : DI X C T tg iter F)
    (hg : ∀ (s : Shared) (H : Hp) (L : Addr) (cl : List (Str × Addr)) (fp : List Addr), DG (X.blk s H scope (compEnvC scope cl L X.env) fp) C.blk js tg t)
    (hb : ∀ (s : Shared) (H : Hp) (L : Addr) (cl : List (Str × Addr)) (fp : List Addr), PTs (X.blk s H scope (compEnvC scope cl L X.env) fp) ifs (tT C.G C.σ0 Wn T B))
    (hi1 : ∀ (s : Shared) (H : Hp) (L : Addr) (cl : List (Str × Addr)) (fp : List Addr), DI (X.blk s H scope (compEnvC scope cl L X.env) fp) C.blk T tg1 iter1 F1)
    (hg1 : ∀ (s : Shared) (H : Hp) (L : Addr) (cl : List (Str × Addr)) (fp : List Addr), DG (X.blk s H scope (compEnvC scope cl L X.env) fp) C.blk js1 tg1 t1)
    (hb1 : ∀ (s : Shared) (H : Hp) (L : Addr) (cl : List (Str × Addr)) (fp : List Addr), PTs (X.blk s H scope (compEnvC scope cl L X.env) fp) ifs1 (tT C.G C.σ0 Wn T B1))
    (he : ∀ (s : Shared) (H : Hp) (L : Addr) (cl : List (Str × Addr)) (fp : List Addr), DE (X.blk s H scope (compEnvC scope cl L X.env) fp) C.blk T elt E) (hs : ∀ x, foldedSetIterable iter X.env x = pure x := by intro _; rfl) (hs1 : ∀ env x, foldedSetIterable iter1 env x = pure x := by intro _ _; rfl) :
    DE X C T (.ListComp elt [⟨tg, iter, ifs, 0⟩, ⟨tg1, iter1, ifs1, 0⟩] scope pos) (eLc2 (own.map (·.2)) vs1 F t B F1 t1 B1 E) :=
  PE.imp (pe_lc2 hc hN hi ok h1 hg hb hi1 hg1 hb1 he hs hs1) (tLc2_of hj ht h1 hj1 ht1)
end
end BF

set_option maxRecDepth 100000
set_option maxHeartbeats 4000000
namespace BF
open PySem PySem.Spec L2
open PyProof.Rows hiding St
set_option autoImplicit false
/-- what is tracked between two turns -/
structure TrG {α : Type} (S0 : α → Hp → Hp → Prop) (G : Gm) (T vs : List Nat) (σ : St) (I1 H1 : Hp) (ρ1 : En) (acc : α) (I H : Hp) (ρ : En) : Prop where
  len : ρ.length = ρ1.length
  le : Same I1 I
  st : S0 acc I H
  dom : ∀ a, H a = none → H1 a = none
  keep : ∀ a o, NT o → H1 a = some o → I1 a = none → Apart T σ ρ1 a → H a = some o ∧ I a = none
  tab : TabsE I1 H1 I H
  eq : ∀ i, i ∉ T → i ∉ vs → ρ[i]? = ρ1[i]?
  own : ∀ (i : Nat) (x : PV), i ∉ vs → ρ[i]? = some (.own x) → ∃ y, ρ1[i]? = some (.own y)
  prm : ∀ (i : Nat) (x : PV), i ∉ vs → ρ[i]? = some (.prm x) → ∃ y, ρ1[i]? = some (.prm y)
  nov : ∀ i ∈ vs, ∀ x, ρ[i]? ≠ some (.own x) ∧ ρ[i]? ≠ some (.prm x)
section
variable {G : Gm} {σ0 : St} {T vs : List Nat} {σ σ' : St} {I1 H1 I H I' H' : Hp} {ρ1 ρ ρ' : En} {α : Type} {S0 : α → Hp → Hp → Prop} {acc : α}
/-- what S0 says lasts as long as what is new since (I1, H1) and not frozen lasts -/
def Stab {α : Type} (S0 : α → Hp → Hp → Prop) (H1 : Hp) : Prop := ∀ acc I H I' H', S0 acc I H → Same I I' → (∀ a o, NT o → H a = some o → I a = none → H1 a = none → H' a = some o ∧ I' a = none) → S0 acc I' H'
theorem TrG.apart (s : TrG S0 G T vs σ I1 H1 ρ1 acc I H ρ) (hσ : ∀ i, i ∉ vs → σ'[i]? = σ[i]?) {a : Addr} (h : Apart T σ ρ1 a) : Apart T σ' ρ a := fun i hi y e q => by
  have ni : i ∉ vs := fun z => by rcases e with e | e; exact (s.nov i z y).1 e; exact (s.nov i z y).2 e
  rw [hσ i ni] at q
  rcases e with e | e
  · obtain ⟨z, hz⟩ := s.own i y ni e; exact h i hi z (.inl hz) q
  · obtain ⟨z, hz⟩ := s.prm i y ni e; exact h i hi z (.inr hz) q
theorem TrG.step (s : TrG S0 G T vs σ I1 H1 ρ1 acc I H ρ) (r : SR G σ0 I H σ' ρ) (x : XE G σ0 T σ' I H ρ I' H' ρ') (hσ : ∀ i, i ∉ vs → σ'[i]? = σ[i]?) (sb : Stab S0 H1) (hD : ∀ a, H1 a = none → Apart T σ ρ1 a) : TrG S0 G T vs σ I1 H1 ρ1 acc I' H' ρ' := by
  have st := sb acc I H I' H' s.st x.le fun a o nt e n h => x.keep a o nt e n (s.apart hσ (hD a h))
  exact ⟨by rw [← x.sr.len, r.len, s.len], s.le.trans x.le, st, fun a h => s.dom a (x.dom a h), fun a o nt e n h => by
      obtain ⟨e1, n1⟩ := s.keep a o nt e n h
      exact x.keep a o nt e1 n1 (s.apart hσ h), s.tab.trans x.tab, fun i h1 h2 => by rw [x.eq i h1]; exact s.eq i h1 h2, fun i y h e => by
      obtain ⟨z, e⟩ := x.own i y e; exact s.own i z h e, fun i y h e => by
      obtain ⟨z, e⟩ := x.prm i y e; exact s.prm i z h e, fun i h y => ⟨fun e => by
      obtain ⟨z, e⟩ := x.own i y e; exact (s.nov i h z).1 e, fun e => by
      obtain ⟨z, e⟩ := x.prm i y e; exact (s.nov i h z).2 e⟩⟩
theorem TrG.ext (s : TrG S0 G T vs σ I1 H1 ρ1 acc I H ρ) (sb : Stab S0 H1) (hs : Same I H) (x : Ext I H I' H') : TrG S0 G T vs σ I1 H1 ρ1 acc I' H' ρ := by
  have st := sb acc I H I' H' s.st x.le fun a o nt e n _ => x.keep a o nt e n
  exact ⟨s.len, s.le.trans x.le, st, fun a h => s.dom a (x.dom hs h), fun a o nt e n h => by
      obtain ⟨e1, n1⟩ := s.keep a o nt e n h
      exact x.keep a o nt e1 n1, s.tab.trans x.tab, s.eq, s.own, s.prm, s.nov⟩
theorem TrG.tgt {vsb js : List Nat} {t : GX} {x : PV} (s : TrG S0 G T vs σ I1 H1 ρ1 acc I H ρ) (hsub : ∀ i ∈ vsb, i ∈ vs) (hj : ∀ i ∈ js, i ∈ vsb) (ht : Tg js t) (e : t x (killE vsb ρ) = .ok ρ') : TrG S0 G T vs σ I1 H1 ρ1 acc I H ρ' := by
  have off : ∀ i, i ∉ vs → ρ'[i]? = ρ[i]? := fun i hi => by
    rw [ht.off _ _ _ e i fun z => hi (hsub i (hj i z)), killE_get, if_neg fun z => hi (hsub i z)]
  refine ⟨by rw [ht.len _ _ _ e, killE_len, s.len], s.le, s.st, s.dom, s.keep, s.tab, fun i h1 h2 => by rw [off i h2]; exact s.eq i h1 h2, fun i y h e => by rw [off i h] at e; exact s.own i y h e, fun i y h e => by rw [off i h] at e; exact s.prm i y h e, fun i h y => ?_⟩
  by_cases hij : i ∈ js
  · refine ⟨fun q => ?_, fun q => ?_⟩ <;> obtain ⟨z, hz⟩ := ht.val _ _ _ e i hij _ q <;> cases hz
  · have e0 := ht.off _ _ _ e i hij
    rw [killE_get] at e0
    by_cases hib : i ∈ vsb
    · rw [if_pos hib] at e0
      refine ⟨fun q => ?_, fun q => ?_⟩ <;> rw [e0] at q <;> cases q2 : ρ[i]? <;> rw [q2] at q <;> cases q
    · rw [if_neg hib] at e0
      rw [e0]
      exact s.nov i h y
end
/-- the general loop -/
def loopH {α : Type} (vsb : List Nat) (t : GX) (B : BX) (K : α → En → Res (α × En)) : List PV → α → En → Res (α × En)
  | [], acc, ρ => .ok (acc, ρ)
  | x :: xs, acc, ρ => match t x (killE vsb ρ) with
    | .ok ρ' => noX (B ρ') >>= fun p => if p.1 = true then K acc p.2 >>= fun q => loopH vsb t B K xs q.1 q.2 else loopH vsb t B K xs acc p.2
    | _ => .stuck
/-- at a turn's beginning -/
structure LSG {α : Type} (S0 : α → Hp → Hp → Prop) (G : Gm) (σ0 : St) (T vs : List Nat) (σ : St) (I1 H1 : Hp) (ρ1 : En) (σb : St) (vsb : List Nat) (Ij : Hp) (acc : α) (I H : Hp) (ρ : En) : Prop where
  sr : SR G σ0 I H (wipe σb vsb) (killE vsb ρ)
  tr : TrG S0 G T vs σ I1 H1 ρ1 acc I H ρ
  ij : Same Ij I
def kRG {α : Type} (S : α → Hp → Hp → En → Prop) (Fin : Hp → Prop) : Res (α × En) → Prop
  | .ok (acc, ρ) => ∀ I H, S acc I H ρ → Fin H
  | _ => False
section
variable {G : Gm} {σ0 : St} {T vs : List Nat} {σ : St} {I1 H1 : Hp} {ρ1 : En} {α : Type} {S0 : α → Hp → Hp → Prop}
theorem lcH {σb : St} {vsb js : List Nat} {t : GX} {B : BX} {K : α → En → Res (α × En)} {J : It} {xs : List PV} {Ij : Hp} {BODY : St → Hp → (Hp → Prop) → Prop} {Fin : Hp → Prop} {acc0 : α} {I0 H0 : Hp} {ρ0 : En}
    (hsub : ∀ i ∈ vsb, i ∈ vs) (hj : ∀ i ∈ js, i ∈ vsb) (ht : Tg js t) (hσ : ∀ i, i ∉ vs → σb[i]? = σ[i]?) (its : ItD G Ij J xs) (sb : Stab S0 H1) (hD : ∀ a, H1 a = none → Apart T σ ρ1 a)
    (hbody : ∀ (σ2 : St) (ρ4 : En) (acc : α) (I4 H4 : Hp) (Nx : Hp → Prop), wipe σ2 vsb = wipe σb vsb → (∀ i, i ∉ vs → σ2[i]? = σ[i]?) → SR G σ0 I4 H4 σ2 ρ4 → TrG S0 G T vs σ I1 H1 ρ1 acc I4 H4 ρ4 → Same Ij I4 →
      kRG (LSG S0 G σ0 T vs σ I1 H1 ρ1 σb vsb Ij) Nx (K acc ρ4) → BODY σ2 H4 Nx)
    (s0 : LSG S0 G σ0 T vs σ I1 H1 ρ1 σb vsb Ij acc0 I0 H0 ρ0) (k0 : kRG (LSG S0 G σ0 T vs σ I1 H1 ρ1 σb vsb Ij) Fin (loopH vsb t B K xs acc0 ρ0)) :
    ∃ W : Nat → Nat → Hp → Prop, (∃ m, W 0 m H0) ∧ ∀ i m H, W i m H → (J.stop i H ∧ Fin H) ∨ (J.go i H ∧ ∃ Nx : Hp → Prop, (∀ H', Nx H' → ∃ m', m' < m ∧ W (i + 1) m' H') ∧ ∀ v H', J.yld i H v H' →
      gD G σ0 js t v (wipe σb vsb) H' fun σ2 H2 => wipe σ2 vsb = wipe σb vsb ∧ tT G σ0 Wn T B σ2 H2 fun b H3 => if b = true then BODY σ2 H3 Nx else Nx H3) := by
  let Wd : Nat → Hp → Prop := fun i H => ∃ I ρ acc, LSG S0 G σ0 T vs σ I1 H1 ρ1 σb vsb Ij acc I H ρ ∧ kRG (LSG S0 G σ0 T vs σ I1 H1 ρ1 σb vsb Ij) Fin (loopH vsb t B K (xs.drop i) acc ρ)
  refine ⟨fun i m H => m = xs.length - i ∧ i ≤ xs.length ∧ Wd i H, ⟨xs.length, by simp, Nat.zero_le _, I0, ρ0, acc0, s0, k0⟩, ?_⟩
  rintro i m H ⟨rfl, hi, I, ρ, acc, s, k⟩
  by_cases hl : i < xs.length
  · refine .inr ⟨its.go i I H hl s.ij s.sr.same, Wd (i + 1), fun H' q => ⟨xs.length - (i + 1), by omega, rfl, hl, q⟩, fun v H2 y => ?_⟩
    obtain ⟨I2, x, x2, ex, p⟩ := its.yld i I H v H2 hl s.ij s.sr.same y
    have ed : xs.drop i = x :: xs.drop (i + 1) := by
      rw [List.drop_eq_getElem_cons hl]
      rw [List.getElem?_eq_getElem hl] at ex
      cases ex; rfl
    rw [ed] at k
    unfold loopH at k
    refine ⟨I2, killE vsb ρ, x, s.sr.ext x2, p, ?_⟩
    cases et : t x (killE vsb ρ) with
    | exc c => rw [et] at k; exact k.elim
    | stuck => rw [et] at k; exact k.elim
    | ok ρ3 =>
      rw [et] at k
      intro σ3 r3 _ of3
      have ew := wipe_off of3 hj
      have hσ3 := wipe_off2 of3 hj hsub hσ
      have tr3 := (s.tr.ext sb s.sr.same x2).tgt hsub hj ht et
      refine ⟨ew, I2, ρ3, r3, ?_⟩
      dsimp only at k
      cases eB : B ρ3 with
      | exc c => rw [eB] at k; exact k.elim
      | stuck => rw [eB] at k; exact k.elim
      | ok q =>
        obtain ⟨b, ρ4⟩ := q
        rw [eB] at k
        intro I4 H4 x4
        have tr4 := tr3.step r3 x4 hσ3 sb hD
        have ij4 : Same Ij I4 := s.ij.trans (x2.le.trans x4.le)
        have sw : SR G σ0 I4 H4 (wipe σb vsb) (killE vsb ρ4) := by
          have := x4.sr.wipe vsb
          rw [ew] at this; exact this
        cases b with
        | false =>
          rw [if_neg Bool.false_ne_true]
          have k2 : kRG (LSG S0 G σ0 T vs σ I1 H1 ρ1 σb vsb Ij) Fin (loopH vsb t B K (xs.drop (i + 1)) acc ρ4) := by simpa [noX] using k
          exact ⟨I4, ρ4, acc, ⟨sw, tr4, ij4⟩, k2⟩
        | true =>
          rw [if_pos rfl]
          have k2 : kRG (LSG S0 G σ0 T vs σ I1 H1 ρ1 σb vsb Ij) Fin (K acc ρ4 >>= fun q => loopH vsb t B K (xs.drop (i + 1)) q.1 q.2) := by simpa [noX] using k
          refine hbody σ3 ρ4 acc I4 H4 _ ew hσ3 x4.sr tr4 ij4 ?_
          cases eK : K acc ρ4 with
          | exc c => rw [eK] at k2; exact k2.elim
          | stuck => rw [eK] at k2; exact k2.elim
          | ok q =>
            obtain ⟨acc5, ρ5⟩ := q
            rw [eK] at k2
            exact fun I5 H5 s5 => ⟨I5, ρ5, acc5, s5, k2⟩
  · refine .inl ⟨its.stop i I H (by omega) s.ij s.sr.same, ?_⟩
    rw [List.drop_eq_nil_of_le (by omega)] at k
    exact k I H s
end
section
variable {X : Cx}
/-- name = {k: v for ..} on one line -/
theorem ps_setDc {i : Nat} {y : Str} {py : Pos} {kx vx tg iter : Expr} {ifs : List Expr} {scope : Scope} {own : List (Str × Nat)} {pos spos : Pos} {wi : TI} {g : TG} {tt : TT} {tk tv : TE} (hc : X.calm = true) (hN : X.N.Nodup) (hy : X.N[i]? = some y) (hyl : X.env.scope.names.lookup y = some .local)
    (hsw : swapsWith (.DictComp kx vx [⟨tg, iter, ifs, 0⟩] scope pos) (some (.Name y py)) spos.line X.env = pure true) (hi : PI X tg iter wi) (ok : BlkOk X.N X.env.scope scope own)
    (hg : ∀ (s : Shared) (H : Hp) (L : Addr) (cl : List (Str × Addr)) (fp : List Addr), PG (X.blk s H scope (compEnvC scope cl L X.env) fp) tg g)
    (ht : ∀ (s : Shared) (H : Hp) (L : Addr) (cl : List (Str × Addr)) (fp : List Addr), PTs (X.blk s H scope (compEnvC scope cl L X.env) fp) ifs tt)
    (hk : ∀ (s : Shared) (H : Hp) (L : Addr) (cl : List (Str × Addr)) (fp : List Addr), PE (X.blk s H scope (compEnvC scope cl L X.env) fp) kx tk)
    (he : ∀ (s : Shared) (H : Hp) (L : Addr) (cl : List (Str × Addr)) (fp : List Addr), PE (X.blk s H scope (compEnvC scope cl L X.env) fp) vx tv)
    (hs : ∀ x, foldedSetIterable iter X.env x = pure x := by intro _; rfl) :
    PS X (.Assign [.Name y py] (.DictComp kx vx [⟨tg, iter, ifs, 0⟩] scope pos) spos) (tAsg (tDc wi g tt tk tv (own.map (·.2))) (gName i)) := by
  refine ⟨fun pins s σ H D I h => ?_⟩
  rw [exec_Assign_Name_used _ _ _ _ hsw]
  refine wpAny_bind (wpAny_standAt (wpAny_bind ?_))
  show wpAny _ X.A (do
    let _ ← comprehension (.DictComp kx vx [⟨tg, iter, ifs, 0⟩] scope pos) scope X.env
      (firstIterPos [⟨tg, iter, ifs, 0⟩] pos) newDict false (eval iter X.env) (some (assign (.Name y py) X.env))) _ _ s
  have h' : tDc wi g tt tk tv (own.map (·.2)) σ H (fun x H1 => gName i x σ H1 D.nx) := h
  refine wpAny_bind (thn (dc_core (pos := pos) (use := some (assign (.Name y py) X.env)) (Qf := fun _ s' => SP X pins D .next s')
    hc hN I hi ok hg ht hk he hs h' fun L Cc s' m H' I' q hn f => ?_) fun _ s' hq => wpAny_pure (wpAny_pure hq))
  show wpAny _ _ (assign (.Name y py) X.env (.ref L)) _ _ _
  refine wpAny_assign_Name
    (store_ok2 (v := V.ref L) I' hN hy (.inl hyl) rfl (fun s2 I2 z => ?_) (.inr hyl))
  obtain ⟨a, sb, ha⟩ := z
  obtain ⟨f0, f1, f2, f3, f4, f5⟩ := f
  have ne : Cc ≠ a := by
    rcases ha with e | e
    · subst e; exact f1
    · intro e2; exact f4 y a e e2.symm
  refine ⟨m, hn.sameBut sb ne, fun h3 sb3 => ⟨_, H', ?_, q⟩⟩
  exact I2.turned (t' := s2.toks)
    (fun b o hb e => (sb3.2 b hb).trans e) f0 f1 f3 f4 f5
end
end BF

set_option maxRecDepth 100000
set_option maxHeartbeats 4000000
namespace BF
open PySem PySem.Spec L2
open PyProof.Rows hiding St
set_option autoImplicit false
/-- the lists of a dict: each new since H1, not frozen, no two the same -/
inductive GBL (G : Gm) (H1 I H : Hp) : List (Key × List PV) → List (Key × V) → List Addr → Prop
  | nil : GBL G H1 I H [] [] []
  | cons {k : Key} {xs : List PV} {l : Addr} {vs : List V} {kvs : List (Key × List PV)} {ws : List (Key × V)} {ls : List Addr} (n : I l = none) (h : H l = some (.lst vs)) (h1 : H1 l = none) (r : RpL G I xs vs) (d : l ∉ ls) (t : GBL G H1 I H kvs ws ls) : GBL G H1 I H ((k, xs) :: kvs) ((k, .ref l) :: ws) (l :: ls)
def GBs (G : Gm) (H1 : Hp) (D : Addr) (acc : List (Key × List PV)) (I H : Hp) : Prop := ∃ ws ls, H D = some (.dK ws) ∧ I D = none ∧ GBL G H1 I H acc ws ls ∧ D ∉ ls
section
variable {G : Gm} {H1 I H I' H' : Hp} {D : Addr}
theorem GBL.keep (le : Same I I') (k : ∀ a o, NT o → H a = some o → I a = none → H1 a = none → H' a = some o ∧ I' a = none) : ∀ {kvs : List (Key × List PV)} {ws : List (Key × V)} {ls : List Addr}, GBL G H1 I H kvs ws ls → GBL G H1 I' H' kvs ws ls
  | _, _, _, .nil => .nil
  | _, _, _, .cons n h h1 r d t => by
    obtain ⟨e1, e2⟩ := k _ _ nt_lst h n h1
    exact .cons e2 e1 h1 (r.up le) d (t.keep le k)
theorem gb_stab (h : H1 D = none) : Stab (GBs G H1 D) H1 := fun acc I H I' H' ⟨ws, ls, e1, e2, t, d⟩ le k => by
  obtain ⟨k1, k2⟩ := k _ _ nt_dK e1 e2 h
  exact ⟨ws, ls, k1, k2, t.keep le k, d⟩
theorem GBL.upd {o : HO} : ∀ {kvs : List (Key × List PV)} {ws : List (Key × V)} {ls : List Addr}, GBL G H1 I H kvs ws ls → D ∉ ls → GBL G H1 I (L2.upd H D o) kvs ws ls
  | _, _, _, .nil, _ => .nil
  | _, _, _, .cons n h h1 r d t, hD => by
    rw [List.mem_cons, not_or] at hD
    exact .cons n (by rw [upd_ne (Ne.symm hD.1)]; exact h) h1 r d (t.upd hD.2)
theorem GBL.snoc {k : Key} {xs : List PV} {l : Addr} {vs : List V} (n : I l = none) (h : H l = some (.lst vs)) (h1 : H1 l = none) (r : RpL G I xs vs) : ∀ {kvs : List (Key × List PV)} {ws : List (Key × V)} {ls : List Addr}, GBL G H1 I H kvs ws ls → l ∉ ls → GBL G H1 I H (kvs ++ [(k, xs)]) (ws ++ [(k, .ref l)]) (ls ++ [l])
  | _, _, _, .nil, _ => .cons n h h1 r (by simp) .nil
  | _, _, _, .cons n' h' h1' r' d' t, hl => by
    rw [List.mem_cons, not_or] at hl
    exact .cons n' h' h1' r' (by simp [d', Ne.symm hl.1]) (t.snoc n h h1 r hl.2)
theorem GBL.any {k : Key} : ∀ {kvs : List (Key × List PV)} {ws : List (Key × V)} {ls : List Addr}, GBL G H1 I H kvs ws ls → (ws.any fun p => decide (p.1 = k)) = kvs.any fun p => decide (p.1 = k)
  | _, _, _, .nil => rfl
  | _, _, _, .cons n h h1 r d t => by simp only [List.any_cons, t.any (k := k)]
theorem GBL.len : ∀ {kvs : List (Key × List PV)} {ws : List (Key × V)} {ls : List Addr}, GBL G H1 I H kvs ws ls → ws.length = kvs.length
  | _, _, _, .nil => rfl
  | _, _, _, .cons n h h1 r d t => congrArg Nat.succ t.len
theorem GBL.mem : ∀ {kvs : List (Key × List PV)} {ws : List (Key × V)} {ls : List Addr} {l : Addr}, GBL G H1 I H kvs ws ls → l ∈ ls → ∃ vs, H l = some (.lst vs)
  | _, _, _, _, .nil, h => by cases h
  | _, _, _, _, .cons n h h1 r d t, hl => by
    rcases List.mem_cons.mp hl with e | hl
    · subst e; exact ⟨_, h⟩
    · exact t.mem hl
end
/-- one more name -/
def Kd (Ek : PX) (acc : List (Key × List PV)) (ρ : En) : Res (List (Key × List PV) × En) := noX (Ek ρ) >>= fun q => match keyOf q.1.pv with
  | some k => if (acc.any fun p => decide (p.1 = k)) = true ∨ ¬ acc.length < sizeLine then .stuck else .ok (acc ++ [(k, [])], q.2)
  | none => .stuck
section
variable {G : Gm} {σ0 : St} {T vs : List Nat} {σ : St} {I1 H1 : Hp} {ρ1 : En} {D : Addr}
theorem bodyD {σb : St} {vsb : List Nat} {Ij : Hp} {Ek : PX} {σ2 : St} {ρ4 : En} {acc : List (Key × List PV)} {I4 H4 : Hp} {Nx : Hp → Prop} (hD : ∀ a, H1 a = none → Apart T σ ρ1 a) (hD1 : H1 D = none)
    (slots : ∀ (j : Nat) (y : PV), ρ1[j]? = some (.own y) ∨ ρ1[j]? = some (.prm y) → σ[j]? ≠ some (some (.ref D)))
    (ew : wipe σ2 vsb = wipe σb vsb) (hσ : ∀ i, i ∉ vs → σ2[i]? = σ[i]?) (r : SR G σ0 I4 H4 σ2 ρ4) (s : TrG (GBs G H1 D) G T vs σ I1 H1 ρ1 acc I4 H4 ρ4) (ij : Same Ij I4)
    (k : kRG (LSG (GBs G H1 D) G σ0 T vs σ I1 H1 ρ1 σb vsb Ij) Nx (Kd Ek acc ρ4)) :
    tX G σ0 Wn T Ek σ2 H4 fun y H5 => tX G σ0 Wn T (eLst aNil) σ2 H5 fun z H6 => ∃ kvs k, y = kV k ∧ H6 D = some (.dK kvs) ∧ kvs.length < sizeLine ∧ Nx (L2.upd H6 D (.dK (putK kvs k z))) := by
  unfold Kd at k
  refine ⟨I4, ρ4, r, ?_⟩
  cases eE : Ek ρ4 with
  | exc c => rw [eE] at k; exact k.elim
  | stuck => rw [eE] at k; exact k.elim
  | ok q =>
    obtain ⟨sl, ρ5⟩ := q
    rw [eE] at k
    intro I5 H5 y5 x5 w5
    obtain ⟨I6, x6, le6, p6⟩ := x5.frz r w5
    simp only [noX, ok_bind] at k
    cases ek : keyOf sl.pv with
    | none => rw [ek] at k; exact k.elim
    | some kk =>
      rw [ek] at k
      dsimp only at k
      by_cases hz : (acc.any fun p => decide (p.1 = kk)) = true ∨ ¬ acc.length < sizeLine
      · rw [if_pos hz] at k; exact k.elim
      · rw [if_neg hz] at k
        rw [not_or, Decidable.not_not] at hz
        have yk := keyOf_rp ek p6
        subst yk
        have tr := s.step r x6 hσ (gb_stab hD1) hD
        refine ⟨I6, ρ5, x6.sr, ?_⟩
        show tK G σ0 Wn T σ2 I6 H5 ρ5 _ (if ([] : List PV).length ≤ sizeLine then .ok (.own (.lst []), ρ5) else .stuck)
        rw [if_pos (show ([] : List PV).length ≤ sizeLine from Nat.zero_le _)]
        intro I7 H7 v7 x7 w7
        obtain ⟨l, o, ev, h0, n7, q7, us, eo, lr⟩ := w7
        subst ev; subst eo
        cases lr
        have tr7 := tr.step x6.sr x7 hσ (gb_stab hD1) hD
        obtain ⟨ws, ls, g1, g2, g3, g4⟩ := tr7.st
        -- the new list is none of those that stood
        have hlD : l ≠ D := fun z => by
          obtain ⟨ws', ls', f1, _⟩ := tr.st
          rw [z, f1] at h0; cases h0
        have hls : l ∉ ls := fun z => by
          obtain ⟨ws', ls', f1, f2, f3, f4⟩ := tr.st
          obtain ⟨k1, k2⟩ := x7.keep D _ nt_dK f1 f2 (tr.apart hσ (hD D hD1))
          rw [g1] at k1
          cases k1
          -- ls and ls' are the values of one dict
          have same : ∀ {kvs : List (Key × List PV)} {ws : List (Key × V)} {l1 l2 : List Addr} {A B C E : Hp}, GBL G H1 A B kvs ws l1 → GBL G H1 C E kvs ws l2 → l1 = l2 := by
            intro kvs ws l1 l2 A B C E h
            induction h generalizing l2 with
            | nil => intro h2; cases h2; rfl
            | cons n h h1 r d t ih =>
              intro h2
              cases h2 with
              | cons n' h' h1' r' d' t' => rw [ih t']
          have e := same g3 f3
          subst e
          obtain ⟨vs', hv⟩ := f3.mem z
          rw [hv] at h0; cases h0
        have h1l : H1 l = none := tr.dom l h0
        have sw : SR G σ0 I7 H7 (wipe σb vsb) (killE vsb ρ5) := by
          have := x7.sr.wipe vsb
          rw [ew] at this; exact this
        have nD : ∀ (j : Nat) (y : PV), (killE vsb ρ5)[j]? = some (.own y) ∨ (killE vsb ρ5)[j]? = some (.prm y) → (wipe σb vsb)[j]? ≠ some (some (.ref D)) := fun j y e q => by
          have hjb : j ∉ vsb := fun z => by
            rw [killE_get, if_pos z] at e
            rcases e with e | e <;> cases q : ρ5[j]? <;> rw [q] at e <;> cases e
          rw [killE_get, if_neg hjb] at e
          have hjv : j ∉ vs := fun z => by rcases e with e | e; exact (tr.nov j z y).1 e; exact (tr.nov j z y).2 e
          have e2 : (wipe σb vsb)[j]? = σ[j]? := by rw [← ew, wipe_get, if_neg hjb]; exact hσ j hjv
          rw [e2] at q
          have e' : ∃ y, ρ1[j]? = some (.own y) ∨ ρ1[j]? = some (.prm y) := by
            rcases e with e | e
            · obtain ⟨z, e⟩ := tr.own j y hjv e; exact ⟨z, .inl e⟩
            · obtain ⟨z, e⟩ := tr.prm j y hjv e; exact ⟨z, .inr e⟩
          obtain ⟨z, e'⟩ := e'
          exact slots j z e' q
        have na : (ws.any fun p => decide (p.1 = kk)) = false := by
          rw [g3.any]
          cases hc : acc.any fun p => decide (p.1 = kk) with
          | true => exact (hz.1 hc).elim
          | false => rfl
        have ep : putK ws kk (.ref l) = ws ++ [(kk, .ref l)] := by
          unfold putK
          rw [na, if_neg Bool.false_ne_true]
        refine ⟨ws, kk, rfl, g1, by rw [g3.len]; exact hz.2, k I7 _ ⟨sw.off g2 nD (dk_put g1), ⟨tr7.len, tr7.le, ?_, fun a e => ?_, fun a o nt e n h => ?_, tr7.tab.trans (dk_put g1), tr7.eq, tr7.own, tr7.prm, tr7.nov⟩, ij.trans (x6.le.trans x7.le)⟩⟩
        · refine ⟨_, ls ++ [l], upd_same, g2, ?_, by simp [g4, Ne.symm hlD]⟩
          rw [ep]
          refine (g3.upd g4).snoc n7 (by rw [upd_ne hlD]; exact q7) h1l .nil hls
        · unfold L2.upd at e
          split at e
          · cases e
          · exact tr7.dom a e
        · obtain ⟨e1, n1⟩ := tr7.keep a o nt e n h
          exact ⟨by rw [upd_ne (ne_of_none e hD1)]; exact e1, n1⟩
end
/-- one more item of the list at k -/
def gApp (k : Key) (y : PV) : List (Key × List PV) → Option (List (Key × List PV))
  | [] => none
  | (k', xs) :: r => if k' = k then some ((k', xs ++ [y]) :: r) else (gApp k y r).map ((k', xs) :: ·)
def gHas (k : Key) (acc : List (Key × List PV)) : Bool := acc.any fun p => decide (p.1 = k)
section
variable {G : Gm} {H1 I H I' H' : Hp} {D : Addr}
theorem GBL.look {k : Key} : ∀ {kvs : List (Key × List PV)} {ws : List (Key × V)} {ls : List Addr}, GBL G H1 I H kvs ws ls → gHas k kvs = true → ∃ l vs, valV ws k = some (.ref l) ∧ l ∈ ls ∧ I l = none ∧ H l = some (.lst vs) ∧ H1 l = none
  | _, _, _, .nil, e => by cases e
  | _, _, _, @GBL.cons _ _ _ _ k' xs l vs kvs ws ls n h h1 r d t, e => by
    by_cases ek : k' = k
    · subst ek
      exact ⟨l, vs, by simp [valV], List.mem_cons_self, n, h, h1⟩
    · have e' : gHas k kvs = true := by
        unfold gHas at e ⊢
        simpa [List.any_cons, ek] using e
      obtain ⟨l2, vs2, e1, e2, e3⟩ := t.look e'
      exact ⟨l2, vs2, by rw [valV_neg ek]; exact e1, List.mem_cons_of_mem _ e2, e3⟩
theorem GBL.put {k : Key} {y : PV} {l : Addr} {vs : List V} {v : V} (hl : H l = some (.lst vs)) (p : Rp G I y v) : ∀ {kvs kvs' : List (Key × List PV)} {ws : List (Key × V)} {ls : List Addr}, GBL G H1 I H kvs ws ls → gApp k y kvs = some kvs' → valV ws k = some (.ref l) → GBL G H1 I (L2.upd H l (.lst (vs ++ [v]))) kvs' ws ls
  | _, _, _, _, .nil, e, _ => by cases e
  | _, kvs', _, _, @GBL.cons _ _ _ _ k' xs l' vs' kvs ws ls n h h1 r d t, e, ev => by
    unfold gApp at e
    by_cases ek : k' = k
    · subst ek
      rw [if_pos rfl] at e
      cases e
      have el : l' = l := by simpa [valV] using ev
      subst el
      rw [hl] at h; cases h
      exact .cons n upd_same h1 (r.append (.one p)) d (t.upd d)
    · rw [if_neg ek] at e
      obtain ⟨k2, e1, e2⟩ := Option.map_eq_some_iff.mp e
      subst e2
      rw [valV_neg ek] at ev
      have ha : gHas k kvs = true := by
        have : ∀ (kvs k2 : List (Key × List PV)), gApp k y kvs = some k2 → gHas k kvs = true := by
          intro kvs
          induction kvs with
          | nil => intro k2 e; cases e
          | cons p r ih =>
            intro k2 e
            obtain ⟨k', xs⟩ := p
            unfold gApp at e
            unfold gHas
            by_cases ek : k' = k
            · simp [List.any_cons, ek]
            · rw [if_neg ek] at e
              obtain ⟨k3, e1, _⟩ := Option.map_eq_some_iff.mp e
              have := ih _ e1
              unfold gHas at this
              rw [List.any_cons, this, Bool.or_true]
        exact this _ _ e1
      obtain ⟨l2, vs2, f1, f2, _⟩ := t.look ha
      rw [ev] at f1
      cases f1
      exact .cons n (by rw [upd_ne fun z => d (by rw [z]; exact f2)]; exact h) h1 r d (t.put hl p e1 ev)
/-- at the end: all frozen -/
theorem GBL.freeze : ∀ {kvs : List (Key × List PV)} {ws : List (Key × V)} {ls : List Addr}, GBL G H1 I H kvs ws ls → Same I H → ∃ I', Same I I' ∧ Same I' H ∧ (∀ a, I' a ≠ none → I a ≠ none ∨ a ∈ ls) ∧ RpK G I' (kvs.map fun p => (p.1, PV.lst p.2)) ws ∧ TabsE I H I' H
  | _, _, _, .nil, hs => ⟨I, Same.refl _, hs, fun a h => .inl h, .nil, TabsE.refl _ _⟩
  | _, _, _, @GBL.cons _ _ _ _ k' xs l vs kvs ws ls n h h1 r d t, hs => by
    obtain ⟨I', g1, g2, g3, g4, g5⟩ := t.freeze hs
    have nl : I' l = none := by
      cases e : I' l with
      | none => rfl
      | some o =>
        rcases g3 l (by rw [e]; exact fun z => nomatch z) with z | z
        · exact (z n).elim
        · exact (d z).elim
    refine ⟨L2.upd I' l (.lst vs), g1.trans (same_upd nl), same_put g2 h, fun a ha => ?_, .cons (.lst upd_same (r.up (g1.trans (same_upd nl)))) (g4.up (same_upd nl)), g5.trans (.frz h nt_lst)⟩
    by_cases e : a = l
    · subst e; exact .inr List.mem_cons_self
    · rw [upd_ne e] at ha
      rcases g3 a ha with z | z
      · exact .inl z
      · exact .inr (List.mem_cons_of_mem _ z)
end
end BF

set_option maxRecDepth 100000
set_option maxHeartbeats 4000000
namespace BF
open PySem PySem.Spec L2
open PyProof.Rows hiding St
set_option autoImplicit false
/-- no slot owns anything -/
def allVal (ρ : En) : Bool := ρ.all fun s => match s with
  | .own _ => false
  | .prm _ => false
  | _ => true
theorem allVal_at {ρ : En} {i : Nat} {x : PV} (h : allVal ρ = true) : ρ[i]? ≠ some (.own x) ∧ ρ[i]? ≠ some (.prm x) := by
  refine ⟨fun e => ?_, fun e => ?_⟩ <;> have := List.all_eq_true.mp h _ (List.mem_of_getElem? e) <;> cases this
theorem SR.lift {G : Gm} {σ0 : St} {σ : St} {I H I' H' : Hp} {ρ : En} (r : SR G σ0 I H σ ρ) (av : allVal ρ = true) (le : Same I I') (hs : Same I' H') (tb : TabsE I H I' H') : SR G σ0 I' H' σ ρ where
  same := hs
  tab := tb.tabs r.tab
  len := r.len
  val := fun i x e => by obtain ⟨v, h1, h2⟩ := r.val i x e; exact ⟨v, h1, h2.up le⟩
  own := fun i x e => by rcases e with e | e; exact ((allVal_at av).1 e).elim; exact ((allVal_at av).2 e).elim
  prm := r.prm
  sep := fun i j x y a e => by rcases e with e | e; exact ((allVal_at av).1 e).elim; exact ((allVal_at av).2 e).elim
section
variable {G : Gm} {σ0 : St} {σ : St} {I H : Hp} {ρ : En}
/-- the dict of new lists, made -/
theorem dcStart {vs js : List Nat} {t : GX} {Ek : PX} {r : Nat} {d : Addr} {o : Obj} {ws : List (Key × V)} {kvs : List (Key × PV)} {acc : List (Key × List PV)} {ρ' : En} {Q : VK} (hj : ∀ i ∈ js, i ∈ vs) (ht : Tg js t) (sr : SR G σ0 I H σ ρ) (av : allVal ρ = true)
    (hσ : σ[r]? = some (some (.ref d))) (hd : I d = some (.frz o (.dK ws))) (l : RpK G I kvs ws) (e : loopH vs t bYes (Kd Ek) (kvs.map fun p => keyV p.1) [] ρ = .ok (acc, ρ'))
    (k : ∀ I' H' D, Ext I H I' H' → H D = none → GBs G H D acc I' H' → Q (.ref D) H') :
    tDc (iKeys (tVar r)) (gD G σ0 js t) (tT G σ0 Wn [] bYes) (tX G σ0 Wn [] Ek) (tX G σ0 Wn [] (eLst aNil)) vs σ H Q := by
  refine ⟨_, hσ, _, _, rfl, .inl ⟨_, sr.same _ _ hd, fun D hD => ?_⟩⟩
  have slots : ∀ (j : Nat) (y : PV), ρ[j]? = some (.own y) ∨ ρ[j]? = some (.prm y) → σ[j]? ≠ some (some (.ref D)) := fun j y z => by
    rcases z with z | z
    · exact ((allVal_at av).1 z).elim
    · exact ((allVal_at av).2 z).elim
  have ap : ∀ a, H a = none → Apart [] σ ρ a := fun a _ i hi => by cases hi
  have x0 := Ext.new (o := .dK []) sr.same hD
  have s0 : LSG (GBs G H D) G σ0 [] vs σ I H ρ σ vs I [] I (L2.upd H D (.dK [])) ρ :=
    ⟨(sr.ext x0).wipe vs, ⟨rfl, Same.refl _, ⟨[], [], upd_same, same_none sr.same hD, .nil, by simp⟩, fun a e => by
        unfold L2.upd at e
        split at e
        · cases e
        · exact e, fun a o _ e n _ => ⟨by rw [upd_ne (ne_of_none e hD)]; exact e, n⟩, TabsE.new hD, fun _ _ _ => rfl, fun i x _ e => ⟨x, e⟩, fun i x _ e => ⟨x, e⟩, fun i hi x => allVal_at av⟩, Same.refl _⟩
  refine lcH (vs := vs) (K := Kd Ek) (BODY := fun σ2 H3 Nx => tX G σ0 Wn [] Ek σ2 H3 fun y H4 => tX G σ0 Wn [] (eLst aNil) σ2 H4 fun z H5 => ∃ kvs k, y = kV k ∧ H5 D = some (.dK kvs) ∧ kvs.length < sizeLine ∧ Nx (L2.upd H5 D (.dK (putK kvs k z))))
    (fun i hi => hi) hj ht (fun i _ => rfl) (its_keys hd l) (gb_stab hD) ap (fun σ2 ρ4 acc I4 H4 Nx e1 e2 r4 s4 ij4 k4 => bodyD ap hD slots e1 e2 r4 s4 ij4 k4) s0 ?_
  rw [e]
  intro I2 H2 s2
  exact k I2 H2 D ⟨s2.tr.le, s2.sr.same, fun a o t e n => s2.tr.keep a o t e n (fun i hi => by cases hi), s2.tr.dom, s2.tr.tab⟩ hD s2.tr.st
end
/-- the same where the walked dict is no longer locked -/
theorem GBL.unlock {G : Gm} {H I' H' : Hp} {d : Addr} {od : Obj} {ws0 : List (Key × V)} (hd : H d = some (.dK ws0)) (hi : I' d = some (.frz od (.dK ws0))) : ∀ {kvs : List (Key × List PV)} {ws : List (Key × V)} {ls : List Addr},
    GBL G (L2.upd H d (.frz od (.dK ws0))) I' H' kvs ws ls → GBL G H (L2.upd I' d (.dK ws0)) (L2.upd H' d (.dK ws0)) kvs ws ls
  | _, _, _, .nil => .nil
  | _, _, _, @GBL.cons _ _ _ _ k xs l vs kvs ws ls n h h1 r x t => by
    have nd : l ≠ d := fun z => by rw [z, upd_same] at h1; cases h1
    rw [upd_ne nd] at h1
    exact .cons (by rw [upd_ne nd]; exact n) (by rw [upd_ne nd]; exact h) h1 (r.lt (lt_unlock hi)) x (t.unlock hd hi)
section
variable {X : Cx} {C : Dc} {pos : Pos}
/-- the first statement -/
def tArr1 (G : Gm) (σ0 : St) (r f : Nat) (vs : List Nat) (t : GX) (Ek : PX) : TS := fun D σ H => ∃ I ρ kvs acc ρ', SR G σ0 I H σ ρ ∧ allVal ρ = true ∧ ρ[r]? = some (.val (.dct kvs)) ∧ loopH vs t bYes (Kd Ek) (kvs.map fun p => keyV p.1) [] ρ = .ok (acc, ρ') ∧
  ∀ I' H' d, Ext I H I' H' → H d = none → GBs G H d acc I' H' → D.nx (σ.set f (some (.ref d))) H'
theorem ps_arr1 {r f : Nat} {js : List Nat} {t : GX} {Ek : PX} {y : Str} {py pl p2 p3 : Pos} {kx tg iter : Expr} {scope : Scope} {own : List (Str × Nat)} (hc : X.calm = true) (hN : X.N.Nodup) (tk : L2.Takes X C.W) (hsw : swapsWith (.DictComp kx (.List [] pl) [⟨tg, iter, [], 0⟩] scope p2) (some (.Name y py)) p3.line X.env = pure true)
    (ok : BlkOk X.N X.env.scope scope own) (hj : ∀ i ∈ js, i ∈ own.map (·.2)) (ht : Tg js t) (hr : PE X iter (tVar r))
    (hg : ∀ (s : Shared) (H : Hp) (L : Addr) (cl : List (Str × Addr)) (fp : List Addr), DG (X.blk s H scope (compEnvC scope cl L X.env) fp) C.blk js tg t)
    (hk : ∀ (s : Shared) (H : Hp) (L : Addr) (cl : List (Str × Addr)) (fp : List Addr), DE (X.blk s H scope (compEnvC scope cl L X.env) fp) C.blk [] kx Ek)
    (hy : X.N[f]? = some y := by rfl) (hyl : X.env.scope.names.lookup y = some .local := by rfl) (hs : ∀ x, foldedSetIterable iter X.env x = pure x := by intro _; rfl) :
    PS X (.Assign [.Name y py] (.DictComp kx (.List [] pl) [⟨tg, iter, [], 0⟩] scope p2) p3) (tArr1 C.G C.σ0 r f (own.map (·.2)) t Ek) := by
  have h1 : PS X (.Assign [.Name y py] (.DictComp kx (.List [] pl) [⟨tg, iter, [], 0⟩] scope p2) p3) (tAsg (tDc (iKeys (tVar r)) (gD C.G C.σ0 js t) (tT C.G C.σ0 Wn [] bYes) (tX C.G C.σ0 Wn [] Ek) (tX C.G C.σ0 Wn [] (eLst aNil)) (own.map (·.2))) (gName f)) :=
    ps_setDc hc hN hy hyl hsw (pi_keys hr) ok hg (fun s H L cl fp => dt_yes (C := C.blk)) hk (fun s H L cl fp => de_lst (C := C.blk) da_nil) hs
  have h2 := ps_lockW tk fun _ _ => h1
  refine ⟨fun pins s σ H D J ⟨I, ρ, kvs, acc, ρ', sr, av, hρ, e, k⟩ => ?_⟩
  obtain ⟨v, hσ, p⟩ := sr.val r _ hρ
  cases p with
  | @dct d ws _ rd l =>
    rcases rd with rd | ⟨ob, rd⟩
    · have hd := sr.same _ _ rd
      refine h2.run pins s σ H D J ⟨d, ws, hd, fun od => ?_⟩
      refine dcStart hj ht (sr.chg (H := H) rd (lt_lock (od := od) rd) (dk_put2 hd nt_frz)) av hσ upd_same (l.lt (lt_lock rd)) e fun I' H' q x hq gb => ?_
      have id' : I' d = some (.frz od (.dK ws)) := x.le _ _ upd_same
      have nq : q ≠ d := fun z => by rw [z, upd_same] at hq; cases hq
      obtain ⟨ws2, ls, g1, g2, g3, g4⟩ := gb
      refine ⟨x.same _ _ id', k (L2.upd I' d (.dK ws)) _ q ⟨fun a o h => ?_, same_upd2 x.same, fun a o nt h n => ?_, fun b q => by
          unfold L2.upd at q
          split at q
          · cases q
          · rename_i z
            have := x.dm b q
            rw [upd_ne z] at this; exact this, (dk_put2 hd nt_frz).trans (x.tab.trans (frz_put (x.same _ _ id') nt_dK))⟩ (by rw [upd_ne nq] at hq; exact hq) ⟨ws2, ls, by rw [upd_ne nq]; exact g1, by rw [upd_ne nq]; exact g2, g3.unlock hd id', g4⟩⟩
      · by_cases z : a = d
        · subst z; rw [rd] at h; cases h; exact upd_same
        · rw [upd_ne z]; exact x.le a o (by rw [upd_ne z]; exact h)
      · have z : a ≠ d := fun z => by rw [z, rd] at n; cases n
        obtain ⟨k1, k2⟩ := x.keep a o nt (by rw [upd_ne z]; exact h) (by rw [upd_ne z]; exact n)
        exact ⟨by rw [upd_ne z]; exact k1, by rw [upd_ne z]; exact k2⟩
    · exact h1.run pins s σ H D J (dcStart hj ht sr av hσ rd l e fun I' H' q x hq gb => k I' H' q x hq gb)
end
end BF

set_option maxRecDepth 100000
set_option maxHeartbeats 4000000
namespace BF
open PySem PySem.Spec L2
open PyProof.Rows hiding St
set_option autoImplicit false
def gList (k : Key) (acc : List (Key × List PV)) : Option (List PV) := (acc.find? fun p => decide (p.1 = k)).map (·.2)
theorem GBL.look2 {G : Gm} {H1 I H : Hp} {k : Key} {zs : List PV} : ∀ {kvs : List (Key × List PV)} {ws : List (Key × V)} {ls : List Addr}, GBL G H1 I H kvs ws ls → gList k kvs = some zs → ∃ l vs, valV ws k = some (.ref l) ∧ l ∈ ls ∧ I l = none ∧ H l = some (.lst vs) ∧ H1 l = none ∧ vs.length = zs.length
  | _, _, _, .nil, e => by cases e
  | _, _, _, @GBL.cons _ _ _ _ k' xs l vs kvs ws ls n h h1 r d t, e => by
    unfold gList at e
    by_cases ek : k' = k
    · subst ek
      simp at e
      subst e
      exact ⟨l, vs, by simp [valV], List.mem_cons_self, n, h, h1, r.length.symm⟩
    · have e' : gList k kvs = some zs := by
        unfold gList
        simpa [List.find?_cons, ek] using e
      obtain ⟨l2, vs2, e1, e2, e3⟩ := t.look2 e'
      exact ⟨l2, vs2, by rw [valV_neg ek]; exact e1, List.mem_cons_of_mem _ e2, e3⟩
/-- the loop's mirror -/
def loopA (t2 : GX) (Ek Ev : PX) : List PV → List (Key × List PV) → En → Res (List (Key × List PV) × En)
  | [], acc, ρ => .ok (acc, ρ)
  | x :: xs, acc, ρ => match t2 x ρ with
    | .ok ρ1 => if allVal ρ1 = true then noX (Ek ρ1) >>= fun p => (match keyOf p.1.pv with
      | some k => (match gList k acc with
        | some zs => if zs.length < sizeLine then noX (Ev ρ1) >>= fun q => (match gApp k q.1.pv acc with
          | some acc' => loopA t2 Ek Ev xs acc' ρ1
          | none => .stuck) else .stuck
        | none => .stuck)
      | none => .stuck) else .stuck
    | _ => .stuck
section
variable {X : Cx} {C : Dc} {pos : Pos}
def tArr2 (G : Gm) (σ0 : St) (f : Nat) (F2 : AX) (t2 : GX) (Ek Ev : PX) : TS := fun D σ H => ∃ I ρ I0 H0 d acc xs ρ2 acc' ρ', SR G σ0 I H σ ρ ∧ allVal ρ = true ∧ σ[f]? = some (some (.ref d)) ∧ Ext I0 H0 I H ∧ H0 d = none ∧ GBs G H0 d acc I H ∧
  F2 ρ = .ok (xs, ρ2) ∧ loopA t2 Ek Ev xs acc ρ = .ok (acc', ρ') ∧
  ∀ I' H' σ', SR G σ0 I' H' σ' ρ' → allVal ρ' = true → σ'[f]? = some (some (.ref d)) → Ext I0 H0 I' H' → GBs G H0 d acc' I' H' → D.nx σ' H'
theorem GBs.ext {G : Gm} {H0 I H I' H' : Hp} {d : Addr} {acc : List (Key × List PV)} (hd : H0 d = none) (g : GBs G H0 d acc I H) (x : Ext I H I' H') : GBs G H0 d acc I' H' := gb_stab hd acc I H I' H' g x.le fun a o t e n _ => x.keep a o t e n
theorem ps_arr2 {f : Nat} {js : List Nat} {F2 : AX} {t2 : GX} {Ek Ev : PX} {fe ek ev tg iter : Expr} {p5 p6 p7 p8 p9 : Pos} (hp : PassesOwn (model X.prog X.w) X.A X.env X.xe) (hc : X.calm = true) (hu : X.A.units + 1 < cLine) (hi : DI X C [] tg iter F2) (hg : DG X C js tg t2) (hf : f ∉ js)
    (hx : PE X fe (tVar f)) (hk : DE X C [] ek Ek) (hv : DE X C [] ev Ev) (hs1 : NoSl ek := by exact fun _ _ => rfl)
    (h1 : attributeBase (.Subscript fe ek p5) "append" X.env (eval (.Subscript fe ek p5) X.env) = eval (.Subscript fe ek p5) X.env := by rfl) (h2 : (p6.endLine == p7.line) = true := by rfl) (h3 : starEach [ev] X.env = (false, eval ev X.env) :: starEach [] X.env := by rfl)
    (hs : swapsWith (.Call (.Attribute (.Subscript fe ek p5) "append" p6) [ev] [] p7) none p8.line X.env = pure false := by rfl) (hs2 : ∀ x, foldedSetIterable iter X.env x = pure x := by intro _; rfl) :
    PS X (.For tg iter [.Expr (.Call (.Attribute (.Subscript fe ek p5) "append" p6) [ev] [] p7) p8] [] p9) (tArr2 C.G C.σ0 f F2 t2 Ek Ev) := by
  have hb := pss_one (ps_expr (pe_bm PySem.F.plainAttrs_list PySem.F.slot_list_append PySem.F.type_list_append mt_append (pe_dget hu hx hk hs1) (da_cons hv (da_nil (T := [])) h3) h1 (by rw [h3]; rfl) h2 h3) hs)
  refine PS.imp (ps_for hp hc hi hg hb hs2) fun D σ H h => ?_
  obtain ⟨I, ρ, I0, H0, d, acc, xs, ρ2, acc', ρ', sr, av, hσ, ext, hd0, gb, eF, eL, k⟩ := h
  refine ⟨I, ρ, sr, ?_⟩
  rw [eF]
  intro Ij Hj J xj its
  have e2 : ρ2 = ρ := xj.pure_env sr
  subst e2
  have xe := xj.pure_ext
  refine ⟨fun i m σ' H' => m = xs.length - i ∧ i ≤ xs.length ∧ ∃ I' ρc ac, SR C.G C.σ0 I' H' σ' ρc ∧ allVal ρc = true ∧ σ'[f]? = some (some (.ref d)) ∧ Ext I0 H0 I' H' ∧ Same Ij I' ∧ GBs C.G H0 d ac I' H' ∧ loopA t2 Ek Ev (xs.drop i) ac ρc = .ok (acc', ρ'),
    ⟨xs.length, by simp, Nat.zero_le _, Ij, ρ2, acc, xj.sr, av, hσ, ext.trans xe, Same.refl _, gb.ext hd0 xe, eL⟩, ?_⟩
  rintro i m σ' H' ⟨rfl, hi, I', ρc, ac, r, av', hσ', ext', ij, g, el⟩
  by_cases hl : i < xs.length
  · refine .inr ⟨its.go i I' H' hl ij r.same, fun σ'' H'' => ∃ I'' ρd ad, SR C.G C.σ0 I'' H'' σ'' ρd ∧ allVal ρd = true ∧ σ''[f]? = some (some (.ref d)) ∧ Ext I0 H0 I'' H'' ∧ Same Ij I'' ∧ GBs C.G H0 d ad I'' H'' ∧ loopA t2 Ek Ev (xs.drop (i + 1)) ad ρd = .ok (acc', ρ'),
      fun σ'' H'' n => ⟨xs.length - (i + 1), by omega, rfl, hl, n⟩, fun v H3 y => ?_⟩
    obtain ⟨I3, x, x3, ex, p⟩ := its.yld i I' H' v H3 hl ij r.same y
    have ed : xs.drop i = x :: xs.drop (i + 1) := by
      rw [List.drop_eq_getElem_cons hl]
      rw [List.getElem?_eq_getElem hl] at ex
      cases ex; rfl
    rw [ed] at el
    unfold loopA at el
    refine ⟨I3, ρc, x, r.ext x3, p, ?_⟩
    cases et : t2 x ρc with
    | exc c => rw [et] at el; cases el
    | stuck => rw [et] at el; cases el
    | ok ρ4 =>
      rw [et] at el
      dsimp only at el
      intro σ4 r4 _ of4
      have hσ4 : σ4[f]? = some (some (.ref d)) := by rw [of4.2 f hf]; exact hσ'
      by_cases av4 : allVal ρ4 = true
      · rw [if_pos av4] at el
        have g3 := g.ext hd0 x3
        cases eK : Ek ρ4 with
        | exc c => rw [eK] at el; cases el
        | stuck => rw [eK] at el; cases el
        | ok q =>
          obtain ⟨s, ρ5⟩ := q
          rw [eK] at el
          simp only [noX, ok_bind] at el
          refine ⟨.ref d, hσ4, I3, ρ4, r4, ?_⟩
          rw [eK]
          intro I4 H4 yv x4 w4
          obtain ⟨I5, x5, le5, p5⟩ := x4.frz r4 w4
          have x5e := x5.pure_ext
          cases ek : keyOf s.pv with
          | none => rw [ek] at el; cases el
          | some kk =>
            rw [ek] at el
            dsimp only at el
            have yk := keyOf_rp ek p5
            subst yk
            cases eg : gList kk ac with
            | none => rw [eg] at el; cases el
            | some zs =>
              rw [eg] at el
              dsimp only at el
              by_cases hz : zs.length < sizeLine
              · rw [if_pos hz] at el
                obtain ⟨ws, ls, g4, g5, g6, g7⟩ := g3.ext hd0 x5e
                obtain ⟨l, vs, f1, f2, f3, f4, f5, f6⟩ := g6.look2 eg
                refine ⟨d, .ref l, rfl, .inl ⟨ws, kk, .inl g4, rfl, f1.symm⟩, .inl ⟨rfl, vs, SqL.of f4⟩, ?_⟩
                have r5 : SR C.G C.σ0 I5 H4 σ4 ρ4 := r4.lift av4 x5e.le x5e.same x5e.tab
                refine ⟨I5, ρ4, r5, ?_⟩
                cases eV : Ev ρ4 with
                | exc c => rw [eV] at el; cases el
                | stuck => rw [eV] at el; cases el
                | ok q2 =>
                  obtain ⟨s2, ρ6⟩ := q2
                  rw [eV] at el
                  simp only [ok_bind] at el
                  have ea : aCons Ev aNil ρ4 = .ok ([s2.pv], ρ6) := by
                    unfold aCons aNil
                    rw [eV]; rfl
                  rw [ea]
                  intro I6 H6 us x6 l6
                  obtain ⟨v6, rfl, p6⟩ := rpl1 l6
                  have x6e := x6.pure_ext
                  obtain ⟨k1, k2⟩ := x6e.keep l _ nt_lst f4 f3
                  obtain ⟨k3, k4⟩ := x6e.keep d _ nt_dK g4 g5
                  have g8 := g6.keep x6e.le fun a o t e n _ => x6e.keep a o t e n
                  cases eA : gApp kk s2.pv ac with
                  | none => rw [eA] at el; cases el
                  | some ad =>
                    rw [eA] at el
                    dsimp only at el
                    have dl : d ≠ l := fun z => g7 (by rw [z]; exact f2)
                    refine ⟨l, vs, v6, rfl, rfl, k1, by rw [f6]; exact hz, I6, ρ4, ad, r5.lift av4 x6e.le (same_upd_r x6e.same k2) (x6e.tab.trans (Pl.put (.inl ⟨_, rfl⟩) k1)), av4, hσ4, ?_, ij.trans (x3.le.trans (x5e.le.trans x6e.le)), ⟨ws, ls, by rw [upd_ne dl]; exact k3, k4, g8.put k1 p6 eA f1, g7⟩, el⟩
                    have xa := ext'.trans (x3.trans (x5e.trans x6e))
                    exact ⟨xa.le, same_upd_r xa.same k2, fun a o nt e n => by
                      obtain ⟨m1, m2⟩ := xa.keep a o nt e n
                      exact ⟨by rw [upd_ne (ne_of_none e f5)]; exact m1, m2⟩, fun b q => xa.dm b (by
                      unfold L2.upd at q
                      split at q
                      · cases q
                      · exact q), xa.tab.trans (Pl.put (.inl ⟨_, rfl⟩) k1)⟩
              · rw [if_neg hz] at el; cases el
      · rw [if_neg av4] at el; cases el
  · refine .inl ⟨its.stop i I' H' (by omega) ij r.same, ?_⟩
    rw [List.drop_eq_nil_of_le (by omega)] at el
    unfold loopA at el
    cases el
    exact k I' H' σ' r av' hσ' ext' g
end
end BF

set_option maxRecDepth 100000
set_option maxHeartbeats 4000000
namespace BF
open PySem PySem.Spec L2
open PyProof.Rows hiding St
set_option autoImplicit false
theorem allVal_set {ρ : En} {i : Nat} (h : allVal ρ = true) : allVal (ρ.set i .dead) = true := by
  refine List.all_eq_true.mpr fun s hs => ?_
  rcases List.mem_or_eq_of_mem_set hs with h' | h'
  · exact List.all_eq_true.mp h s h'
  · subst h'; rfl
theorem SR.setD {G : Gm} {σ0 : St} {σ : St} {I H : Hp} {ρ : En} {i : Nat} {v : Option V} (r : SR G σ0 I H σ ρ) (av : allVal ρ = true) : SR G σ0 I H (σ.set i v) (ρ.set i .dead) where
  same := r.same
  tab := r.tab
  len := by simpa using r.len
  val := fun j x e => by
    rcases get_set e with ⟨_, z, _⟩ | ⟨n, e⟩
    · cases z
    · obtain ⟨w, h1, h2⟩ := r.val j x e
      exact ⟨w, by rw [List.getElem?_set_ne (Ne.symm n)]; exact h1, h2⟩
  own := fun j x e => by rcases e with e | e; exact ((allVal_at (allVal_set av)).1 e).elim; exact ((allVal_at (allVal_set av)).2 e).elim
  prm := fun j x e => ((allVal_at (allVal_set av)).2 e).elim
  sep := fun j k x y a e => by rcases e with e | e; exact ((allVal_at (allVal_set av)).1 e).elim; exact ((allVal_at (allVal_set av)).2 e).elim
def sArr (r f : Nat) (cvs : List Nat) (t : GX) (Ek1 : PX) (F2 : AX) (t2 : GX) (Ek Ev : PX) : SX := fun ρ => if allVal ρ = true then (match ρ[r]? with
  | some (.val (.dct kvs)) => (match loopH cvs t bYes (Kd Ek1) (kvs.map fun p => keyV p.1) [] ρ with
    | .ok q => (match F2 (ρ.set f .dead) with
      | .ok p => (match loopA t2 Ek Ev p.1 q.1 (ρ.set f .dead) with
        | .ok z => .ok (.rt (.own (.dct (z.1.map fun g => (g.1, PV.lst g.2)))) z.2)
        | _ => .stuck)
      | _ => .stuck)
    | _ => .stuck)
  | _ => .stuck) else .stuck
section
variable {X : Cx} {C : Dc} {pos : Pos}
theorem dss_arr {r f : Nat} {cvs : List Nat} {t t2 : GX} {Ek1 Ek Ev : PX} {F2 : AX} {s1 s2 : Stmt} {e3 : Expr} {p3 : Pos} (hf : r ≠ f) (hl : f < X.N.length) (h1 : PS X s1 (tArr1 C.G C.σ0 r f cvs t Ek1)) (h2 : PS X s2 (tArr2 C.G C.σ0 f F2 t2 Ek Ev)) (h3 : PE X e3 (tVar f)) :
    DSs X C [s1, s2, .Return (some e3) p3] (sArr r f cvs t Ek1 F2 t2 Ek Ev) := by
  have hh := pss_cons h1 (pss_cons h2 (pss_one (ps_ret (pos := p3) h3)))
  refine ⟨fun pins s σ H D J h => hh.run pins s σ H D J ?_⟩
  have hlen : σ.length = X.N.length := J.len
  obtain ⟨I, ρ, sr, k⟩ := h
  unfold sArr at k
  by_cases av : allVal ρ = true
  · rw [if_pos av] at k
    split at k
    · rename_i kvs hρ
      split at k
      · rename_i q e1
        split at k
        · rename_i p e2
          split at k
          · rename_i z e3
            obtain ⟨acc, ρa⟩ := q
            obtain ⟨xs, ρb⟩ := p
            obtain ⟨acc', ρ'⟩ := z
            refine ⟨I, ρ, kvs, acc, ρa, sr, av, hρ, e1, fun I1 H1 d x1 hd g1 => ?_⟩
            have sr1 := (sr.lift av x1.le x1.same x1.tab).setD (i := f) (v := some (.ref d)) av
            refine ⟨I1, ρ.set f .dead, I, H, d, acc, xs, ρb, acc', ρ', sr1, allVal_set av, List.getElem?_set_self (by omega), x1, hd, g1, e2, e3, fun I2 H2 σ2 r2 av2 hσ2 x2 g2 => ?_⟩
            refine ⟨.ref d, hσ2, ?_⟩
            obtain ⟨ws, ls, g3, g4, g5, g6⟩ := g2
            obtain ⟨I3, f1, f2, f3, f4, f5⟩ := g5.freeze r2.same
            have nd : I3 d = none := by
              cases e : I3 d with
              | none => rfl
              | some o =>
                rcases f3 d (by rw [e]; exact fun z => nomatch z) with z | z
                · exact (z g4).elim
                · exact (g6 z).elim
            have no2 : ∀ a, ¬ Ow σ2 ρ' a := fun a ⟨i, x, e, _⟩ => (allVal_at av2).1 e
            have np2 : ∀ a, ¬ Pm σ2 ρ' a := fun a ⟨i, x, e, _⟩ => (allVal_at av2).2 e
            refine k I3 H2 σ2 (.ref d) (r2.lift av2 f1 f2 f5) ⟨x2.le.trans f1, fun a h => x2.dom sr.same h, fun a h => (no2 a h).elim, fun a h => (np2 a h).elim, fun a o nt e n _ _ => ?_, x2.tab.trans f5⟩ ?_
            · obtain ⟨m1, m2⟩ := x2.keep a o nt e n
              refine ⟨m1, ?_⟩
              cases e4 : I3 a with
              | none => rfl
              | some u =>
                rcases f3 a (by rw [e4]; exact fun z => nomatch z) with z | z
                · exact (z m2).elim
                · -- a list of the dict is new
                  have new : ∀ {kvs : List (Key × List PV)} {ws : List (Key × V)} {ls : List Addr}, GBL C.G H I2 H2 kvs ws ls → a ∈ ls → H a = none := by
                    intro kvs ws ls t
                    induction t with
                    | nil => intro m; cases m
                    | cons n h h1 r d t ih =>
                      intro m
                      rcases List.mem_cons.mp m with e | m
                      · subst e; exact h1
                      · exact ih m
                  rw [new g5 z] at e; cases e
            · exact ⟨d, _, rfl, .inl hd, nd, g3, ⟨ws, rfl, f4⟩, no2 d, np2 d⟩
          · exact k.elim
        · exact k.elim
      · exact k.elim
    · exact k.elim
  · rw [if_neg av] at k; exact k.elim
end
end BF

set_option maxRecDepth 100000
set_option maxHeartbeats 4000000
namespace BF
open PySem PySem.Spec L2
open PyProof.Rows hiding St
set_option autoImplicit false
section
variable {X : Cx} {C : Dc} {T : List Nat} {pos : Pos}
def rEq0 : R2 := fun x y H Q => ∃ a b ws, x = .ref a ∧ y = .ref b ∧ Rd H a (.dK ws) ∧ Rd H b (.dK []) ∧ Q (.bl ws.isEmpty) H
theorem op_eq0 (hu : X.A.units < cLine) : OpR X (compareOp .Eq) rEq0 := by
  intro pins s σ H x y v u Q I rx ry h
  obtain ⟨a, b, ws, rfl, rfl, ra, rb, q⟩ := h
  cases (show v = Value.ref a from rx)
  cases (show u = Value.ref b from ry)
  obtain ⟨z1, h1, va, rela, da⟩ := dk_rd I.hok ra
  obtain ⟨z2, h2, vb, relb, db⟩ := dk_rd I.hok rb
  cases relb
  have e : (va.length == ([] : List (Key × Value)).length && true) = ws.isEmpty := by
    cases rela <;> rfl
  refine PySem.W.rcP_dicts (r := true) h1 h2 da db hu (fun hl => ?_) _ _ ?_
  · have : va = [] := List.eq_nil_of_length_eq_zero hl
    subst this
    constructor
  · rw [e]
    exact ⟨.bl _, H, I, rfl, q⟩
def pEq0 : PV → PV → Res Slot
  | .dct kvs, .dct [] => .ok (.val (.bl kvs.isEmpty))
  | _, _ => .stuck
theorem o_eq0 {G : Gm} : Op2 G rEq0 pEq0 := by
  intro I H a b v w h ra rb
  unfold pEq0
  split
  · obtain ⟨p, ws, rfl, rd, l⟩ := dct_rd h ra
    obtain ⟨p2, ws2, rfl, rd2, l2⟩ := dct_rd h rb
    cases l2
    refine fun Q k => ⟨p, p2, ws, rfl, rfl, rd, rd2, ?_⟩
    refine k I H _ (.refl h) ?_
    cases l <;> exact .bl _
  · trivial
def pEqA (a b : PV) : Res Slot := match a, b with
  | .dct kvs, .dct [] => .ok (.val (.bl kvs.isEmpty))
  | a, b => pEq a b
theorem pEqA_or (a b : PV) : pEqA a b = pEq a b ∨ pEqA a b = pEq0 a b := by
  unfold pEqA
  split
  · exact .inr rfl
  · exact .inl rfl
theorem de_eqA {a b : Expr} {E1 E2 : PX} (hu : X.A.units + 64 < cLine) (ha : DE X C T a E1) (hb : DE X C T b E2) (hm : behindInMarks .Eq b = false := by rfl) : DE X C T (.Compare a [.Eq] [b] pos) (eBin pEqA E1 E2) :=
  DE.split (de_eq hu ha hb hm) (de_cmp (op_eq0 (by omega)) o_eq0 ha hb hm) (eBin_split pEqA_or)
theorem dt_eqA {a b : Expr} {E1 E2 : PX} (hu : X.A.units + 64 < cLine) (ha : DE X C T a E1) (hb : DE X C T b E2) (hm : behindInMarks .Eq b = false := by rfl) : DT X C T (.Compare a [.Eq] [b] pos) (bT (eBin pEqA E1 E2) pB) :=
  DT.split (dt_eq hu ha hb hm) (dt_cmp (op_eq0 (by omega)) o_eq0 ha hb hm) fun ρ => bT_split (eBin_split pEqA_or ρ)
end
end BF

set_option maxRecDepth 100000
set_option maxHeartbeats 4000000
namespace BF
open PySem PySem.Spec L2
open PyProof.Rows hiding St
set_option autoImplicit false
/-- what isinstance asks of a class, as the heap behind the top tells it -/
def ownF (K : PySem.W.Frag) (c : Str) : Bool := He.eqO (PySem.W.findIn K (.ref (He.ga K c)) "__class__") (some (some (.builtin "object.__class__"))) && (decide (PySem.W.mroIn K (He.ga K c) (.type "object") = some true) &&
  ((PySem.W.clsIn K (He.ga K c)).isSome && (decide (PySem.W.typeIn K (.ref (He.ga K c)) = some (.type "type")) && (He.eqO (PySem.W.specialIn K (.builtin "object.__class__") "__get__") (some (some (.builtin "getset_descriptor.__get__"))) && decide (PySem.W.takesIn K (.builtin "object.__class__") = some true)))))
abbrev CsX := List Str × List Str
/-- what isinstance asks of an exception's class -/
def exF (K : PySem.W.Frag) (c : Str) : Bool := He.eqO (PySem.W.findIn K (.ref (He.ga K c)) "__getattribute__") (some (some (.builtin "BaseException.__getattribute__"))) && (He.eqO (PySem.W.findIn K (.ref (He.ga K c)) "__getattr__") (some none) &&
  (decide (PySem.W.subIn K (.ref (He.ga K c)) (.type "BaseException") = some true) && (PySem.W.hasDictIn K (He.ga K c) && (He.eqO (PySem.W.findIn K (.ref (He.ga K c)) "__class__") (some (some (.builtin "object.__class__"))) &&
  (He.eqO (PySem.W.specialIn K (.builtin "object.__class__") "__get__") (some (some (.builtin "getset_descriptor.__get__"))) && (decide (PySem.W.takesIn K (.builtin "object.__class__") = some true) && (decide (PySem.W.mroIn K (He.ga K c) (.type "object") = some true) && decide (PySem.W.kitOne K (.ref (He.ga K c)) (.type "ValueError") = some true))))))))
/-- an own exception's class, as isinstance asks -/
def ExcV (K : PySem.W.Frag) (C : Addr) : Prop := ExcC K C ∧ PySem.W.kitOne K (.ref C) (.type "ValueError") = some true
theorem exF_ok {K : PySem.W.Frag} {c : Str} (h : exF K c = true) : ExcV K (He.ga K c) := by
  unfold exF at h
  simp only [Bool.and_eq_true] at h
  obtain ⟨h1, h2, h3, h4, h5, h6, h7, h8, h9⟩ := h
  exact ⟨⟨He.eqO_ok h1, He.eqO_ok h2, of_decide_eq_true h3, h4, He.eqO_ok h5, He.eqO_ok h6, of_decide_eq_true h7, of_decide_eq_true h8⟩, of_decide_eq_true h9⟩
theorem exF_of {K : PySem.W.Frag} {cs : CsX} {c : Str} (h : (cs.2.all fun c => exF K c) = true) (hc : c ∈ cs.2) : ExcV K (He.ga K c) := exF_ok (List.all_eq_true.mp h c hc)
/-- the classes' facts, and that the heap behind the top that was looked at holds no list -/
def ownA (K : PySem.W.Frag) (cs : CsX) : Bool := ((cs.1.all fun c => ownF K c) && cs.2.all fun c => exF K c) && K.all fun p => decide (p.2.cls ≠ Value.type "list")
theorem ownA_lst : ∀ {K : PySem.W.Frag} {a : Addr} {o : Obj}, (K.all fun p => decide (p.2.cls ≠ Value.type "list")) = true → K.lookup a = some o → o.cls ≠ .type "list"
  | [], _, _, _, e => nomatch (show (none : Option Obj) = some _ from e)
  | (b, q) :: r, a, o, h, e => by
    rw [List.all_cons, Bool.and_eq_true] at h
    rw [List.lookup_cons] at e
    cases hb : (a == b) with
    | true => rw [hb] at e; cases e; exact of_decide_eq_true h.1
    | false => rw [hb] at e; exact ownA_lst h.2 e
def obsX (n : Nat) (fa : List He.Fa) (fn : List He.DefD) (cs : CsX) (g : Addr → Option Obj) : He.AlD × Bool := (He.obsDG n fa fn g, ownA (He.frG g (He.asD g n)) cs)
def hookX (n : Nat) (fa : List He.Fa) (fn : List He.DefD) (cs : CsX) : PySem.W.Hook where
  α := He.AlD × Bool
  obs := fun s => obsX n fa fn cs s.heap.get?
  val := fun _ => (He.valD fn, true)
  says := fun _ h => ∃ K : PySem.W.Frag, K.In h ∧ He.SaysD fa fn K ∧ ownA K cs = true
  of := fun _ _ e => ⟨_, He.frG_in, (Prod.mk.inj e).1, (Prod.mk.inj e).2⟩
  keeps := fun _ _ _ ⟨K, hK, c⟩ k => ⟨K, PySem.W.Frag.In.keeps hK k, c⟩
theorem obsX_eq {n : Nat} {fa : List He.Fa} {fn : List He.DefD} {cs : CsX} {g : Addr → Option Obj} {s : Shared} (h : ∀ a, g a = s.heap.get? a) : obsX n fa fn cs g = (hookX n fa fn cs).obs s := by
  have e : g = s.heap.get? := funext h
  rw [e] <;> rfl
theorem gk_of {K : PySem.W.Frag} {G : Gm} {cs : List Str} (hG : ∀ c, G.cls c = He.ga K c := by intro _; rfl) (h : (cs.all fun c => ownF K c) = true) (hcl : ∀ c ∈ cs, Cls K (He.ga K c)) (h1 : cs.length ≤ 1 := by decide) : GK K G cs := by
  have at_ : ∀ c ∈ cs, ownF K c = true := fun c hc => List.all_eq_true.mp h c hc
  refine ⟨fun c hc => ?_, fun c hc T hT => ?_, fun c hc d hd => ?_⟩
  · have f := at_ c hc
    unfold ownF at f
    simp only [Bool.and_eq_true] at f
    obtain ⟨f1, f2, f3, f4, f5, f6⟩ := f
    rw [hG]
    exact ⟨hcl c hc, He.eqO_ok f1, He.eqO_ok f5, of_decide_eq_true f6, of_decide_eq_true f2, if_pos (beq_self_eq_true _)⟩
  · have f := at_ c hc
    unfold ownF at f
    simp only [Bool.and_eq_true] at f
    obtain ⟨f1, f2, f3, f4, f5, f6⟩ := f
    rw [hG]
    unfold PySem.W.kitOne PySem.W.kitCls
    have ne : (Value.type T == Value.ref (He.ga K c)) = false := by rfl
    rw [ne, if_neg Bool.false_ne_true]
    dsimp only
    rw [if_pos (by rw [f3, of_decide_eq_true f4]; rfl)]
    simp only [tyNs, List.mem_cons, List.not_mem_nil, or_false] at hT
    rcases hT with rfl | rfl | rfl | rfl | rfl | rfl | rfl <;> rfl
  · have e : c = d := by
      match cs, h1, hc, hd with
      | [x], _, hc, hd => rw [List.mem_singleton.mp hc, List.mem_singleton.mp hd]
      | [], _, hc, _ => cases hc
    subst e
    rw [decide_eq_true rfl]
    exact if_pos (beq_self_eq_true _)
/-- without the tables -/
def noT (H : Hp) : Hp := fun b => match H b with
  | some (.tbl _) => none
  | o => o
theorem noT_of {H : Hp} {a : Addr} {o : HO} (nt : NT o) (e : H a = some o) : noT H a = some o := by
  unfold noT
  rw [e]
  cases o with
  | tbl ps => exact (nt ps rfl).elim
  | _ => rfl
theorem noT_same {H : Hp} : Same (noT H) H := fun b o e => by
  unfold noT at e
  split at e
  · cases e
  · exact e
theorem noT_tab {T : List Addr} {H : Hp} (ht : ∀ P ∈ T, TabM H P) : TabI T (noT H) H := fun p hp => by
  have h := ht p hp
  refine ⟨h, ?_⟩
  obtain ⟨ps, e, _⟩ := h
  unfold noT
  rw [e]
/-- the promise at a script, from the mirror's answer there -/
theorem prom {G : Gm} {m : FM} {H : Hp} {a : Addr} {js : List Int} {ss : List Slot} (hS0 : Rd H a (.lst (js.map V.int))) (hm : m [.val (.scr js)] = .ok (.val (.bl true), ss)) (ht : ∀ P ∈ G.tabs, TabM H P) :
    spF G 1 m [.ref a] H (fun v _ => v = .bl true) fun _ _ _ => False := by
  have hS : Rd (noT H) a (.lst (js.map V.int)) := by
    rcases hS0 with h | ⟨o, h⟩
    · exact .inl (noT_of nt_lst h)
    · exact .inr ⟨o, noT_of nt_frz h⟩
  refine ⟨rfl, noT H, [.val (.scr js)], ⟨noT_same, rfl, ?_, ?_, ?_, ?_, noT_tab ht⟩, ?_⟩
  · intro i x e
    match i, e with
    | 0, e => cases e; exact ⟨_, rfl, .scr hS⟩
  · intro i x e
    match i, e with
    | 0, .inl e => cases e
    | 0, .inr e => cases e
  · intro i x e
    match i, e with
    | 0, e => cases e
  · intro i j x y b e
    match i, e with
    | 0, .inl e => cases e
    | 0, .inr e => cases e
  · rw [hm]
    intro I' H' v _ _ r
    cases r
    rfl
theorem noXB {P : Program} (w : World) (H : Hp) (s : Shared) (e : Value) (s' : Shared) (h : L2.CX P w [] H s (fun _ _ _ => False) e s') : False := by
  obtain ⟨_, _, _, _, _, _, _, _, _, _, _, _, z⟩ := h
  exact z
end BF

set_option maxRecDepth 100000
set_option maxHeartbeats 4000000
namespace BF
open PySem PySem.Spec L2
open PyProof.Rows hiding St
set_option autoImplicit false
mutual
/-- the data as a key of any depth -/
def nkey : PV → Option NestedKey
  | .non => some .none
  | .bl b => some (.num (if b = true then 1 else 0))
  | .int i => some (.num i)
  | .str x => some (.text x)
  | .tup xs => (nkeys xs).map .tup
  | _ => none
def nkeys : List PV → Option (List NestedKey)
  | [] => some []
  | x :: xs => match nkey x, nkeys xs with
    | some k, some ks => some (k :: ks)
    | _, _ => none
end
section
variable {P : Program} {w : World} {G : Gm} {I H : Hp} {h : Heap}
mutual
theorem rp_nk (hs : Same I H) (ok : HOk P w H h) : ∀ {x : PV} {v : V} {k : NestedKey} {u : Value}, Rp G I x v → nkey x = some k → RelV v u → NestedIs h k u
  | _, _, _, _, .non, e, r => by simp only [nkey] at e; cases e; cases r; exact .none
  | _, _, _, _, .bl b, e, r => by simp only [nkey] at e; cases e; cases r; exact .bool rfl
  | _, _, _, _, .int i, e, r => by simp only [nkey] at e; cases e; obtain ⟨t, rfl⟩ := r; exact .int _ _
  | _, _, _, _, .str x, e, r => by simp only [nkey] at e; cases e; obtain ⟨t, rfl⟩ := r; exact .text _ _
  | _, _, _, _, .tup rd l, e, r => by
    simp only [nkey, Option.map_eq_some_iff] at e
    obtain ⟨ks, e1, rfl⟩ := e
    cases r
    have ob := (rd_same hs rd).ok ok
    obtain ⟨_, its, rv, o, h1, h2, n, h3⟩ := ob
    exact .tup h1 h2 h3 (by simpa using rpl_nk hs ok l e1 rv)
  | _, _, _, _, .ty n, e, _ => by simp [nkey] at e
  | _, _, _, _, .cl c, e, _ => by simp [nkey] at e
  | _, _, _, _, .lst _ _, e, _ => by simp [nkey] at e
  | _, _, _, _, .scr _, e, _ => by simp [nkey] at e
  | _, _, _, _, .dct _ _, e, _ => by simp [nkey] at e
  | _, _, _, _, .ins _ _, e, _ => by simp [nkey] at e
theorem rpl_nk (hs : Same I H) (ok : HOk P w H h) : ∀ {xs : List PV} {vs : List V} {ks : List NestedKey} {us : List Value}, RpL G I xs vs → nkeys xs = some ks → Vals vs us → NestedAll h ks us
  | _, _, _, _, .nil, e, r => by simp only [nkeys] at e; cases e; cases r; exact .nil
  | _, _, _, _, @RpL.cons _ _ x v xs vs p l, e, r => by
    cases r with
    | cons r1 r2 =>
      simp only [nkeys] at e
      cases e1 : nkey x with
      | none => rw [e1] at e; cases e
      | some k =>
        rw [e1] at e
        cases e2 : nkeys xs with
        | none => rw [e2] at e; cases e
        | some ks => rw [e2] at e; cases e; exact .cons (rp_nk hs ok p e1 r1) (rpl_nk hs ok l e2 r2)
end
end
/-- a dict at d with such keys: keys, the keys' objects, values -/
def DNO (P : Program) (w : World) (d : Addr) (xs : List (NestedKey × Addr × Value)) : HO := .ext fun h => (d == sysModules) = false ∧ xs.length ≤ sizeLine ∧ ∃ (o : Obj) (es : Array DictEntry) (ep : Nat), h.get? d = some o ∧ o.ExactDict ∧ o.data = .dict es ep ∧ es.toList = xs.map (entryOfKey (nestedKind P w)) ∧ (xs.map (·.1)).Nodup
theorem dno_nt {P : Program} {w : World} {d : Addr} {xs : List (NestedKey × Addr × Value)} : NT (DNO P w d xs) := fun ps z => by unfold DNO at z; cases z
section
variable {X : Cx} {pins : List (Addr × Obj)} {σ : St} {H : Hp} {s : Shared} {d : Addr} {xs : List (NestedKey × Addr × Value)} {k : NestedKey} {b : Addr}
/-- the keys are keys -/
def NKeys (P : Program) (w : World) (h : Heap) (xs : List (NestedKey × Addr × Value)) : Prop := ∀ x ∈ xs, (nestedKind P w).is h x.1 x.2.1
theorem dno_obj {P : Program} {w : World} {h : Heap} (o : ObjOk P w H h d (DNO P w d xs)) (ks : NKeys P w h xs) : (d == sysModules) = false ∧ xs.length ≤ sizeLine ∧ h.DictOfH (nestedKind P w) d xs := by
  obtain ⟨⟨h1, h2, ob, es, ep, h3, h4, h5, h6, h7⟩, _⟩ := o
  exact ⟨h1, h2, ob, es, ep, h3, h4, h5, h6, ks, h7⟩
theorem dno_new {P : Program} {w : World} {h : Heap} {H : Hp} (h1 : (d == sysModules) = false) (h2 : xs.length ≤ sizeLine) (dd : h.DictOfH (nestedKind P w) d xs) : ObjOk P w H h d (DNO P w d xs) := by
  obtain ⟨ob, es, ep, h3, h4, h5, h6, _, h7⟩ := dd
  refine ⟨⟨h1, h2, ob, es, ep, h3, h4, h5, h6, h7⟩, ⟨ob, h3⟩, fun g1 g2 ⟨a1, a2, o', es', ep', b1, b2⟩ st => ⟨a1, a2, o', es', ep', st _ b1, b2⟩⟩
theorem dno_get {A : Around} {E : Value → Shared → Prop} {Q : Value → Shared → Prop} (hu : A.units + 9 < cLine) (I : Inv X pins σ H s) (e : H d = some (DNO X.prog X.w d xs)) (ks : NKeys X.prog X.w s.heap xs) (hk : (nestedKind X.prog X.w).is s.heap k b) {p : Addr × Value} (hp : atKey xs k = some p)
    (h : ∀ s', Inv X pins σ H s' → Q p.2 s') : wpAny (model X.prog X.w) A (getItem (.ref d) (.ref b)) Q E s := by
  obtain ⟨h1, h2, dd⟩ := dno_obj (I.hok d _ e) ks
  exact wpAny_getItem_heap (knd := nestedKind X.prog X.w) (show A.in1.units + 8 < cLine by rw [Around.in1_units]; omega) hk dd hp (h _ (I.tok _))
theorem dno_notin {A : Around} {E : Value → Shared → Prop} {Q : Value → Shared → Prop} (hu : A.units + 9 < cLine) (I : Inv X pins σ H s) (e : H d = some (DNO X.prog X.w d xs)) (ks : NKeys X.prog X.w s.heap xs) (hk : (nestedKind X.prog X.w).is s.heap k b)
    (h : ∀ s', Inv X pins σ H s' → Q (.bool (!(atKey xs k).isSome)) s') : wpAny (model X.prog X.w) A (compareOp .NotIn (.ref b) (.ref d)) Q E s := by
  obtain ⟨h1, h2, dd⟩ := dno_obj (I.hok d _ e) ks
  exact wpAny_bind (wpAny_contains_heap (knd := nestedKind X.prog X.w) (show A.in1.units + 8 < cLine by rw [Around.in1_units]; omega) hk h1 dd (wpAny_pure (h _ (I.tok _))))
theorem dno_set {A : Around} {E : Value → Shared → Prop} {u : Value} {Q : Unit → Shared → Prop} (hu : A.units + 9 < cLine) (I : Inv X pins σ H s) (e : H d = some (DNO X.prog X.w d xs)) (ks : NKeys X.prog X.w s.heap xs) (hk : (nestedKind X.prog X.w).is s.heap k b) (hn : atKey xs k = none) (hl : xs.length < sizeLine)
    (h : ∀ s', Inv X pins σ (upd H d (DNO X.prog X.w d (xs ++ [(k, b, u)]))) s' → Q () s') : wpAny (model X.prog X.w) A (setItem (.ref d) (.ref b) u) Q E s := by
  obtain ⟨h1, h2, dd⟩ := dno_obj (I.hok d _ e) ks
  refine wpAny_setItem_heap (knd := nestedKind X.prog X.w) (hsz := h2) (show A.in1.units + 8 < cLine by rw [Around.in1_units]; omega) hk dd fun h' dd' hs => h _ ?_
  have es : storedH xs k b u = xs ++ [(k, b, u)] := by
    unfold storedH
    rw [hn]
    rfl
  rw [es] at dd'
  have he : ∃ q, h'.get? d = some q := let ⟨q, _, _, hq, _⟩ := dd'; ⟨q, hq⟩
  exact d_write I (by rw [e]; exact True.intro) hs he (dno_new h1 (by simp; omega) dd')
/-- y not in d -/
def tNNotIn (P : Program) (w : World) (ty td : TE) : TE := fun σ H Q => ty σ H fun y H1 => td σ H1 fun x H2 => ∃ d b k xs, x = .ref d ∧ y = .ref b ∧ H2 d = some (DNO P w d xs) ∧ (∀ h, HOk P w H2 h → NKeys P w h xs ∧ (nestedKind P w).is h k b) ∧ Q (.bl (!(atKey xs k).isSome)) H2
def tNGet (P : Program) (w : World) (td ty : TE) : TE := fun σ H Q => td σ H fun x H1 => ty σ H1 fun y H2 => ∃ d b k xs p v, x = .ref d ∧ y = .ref b ∧ H2 d = some (DNO P w d xs) ∧ (∀ h, HOk P w H2 h → NKeys P w h xs ∧ (nestedKind P w).is h k b) ∧ atKey xs k = some p ∧ RelV v p.2 ∧ Q v H2
def sNPut (P : Program) (w : World) (td ty tv : TE) : TS := fun D σ H => tv σ H fun v H1 => td σ H1 fun x H2 => ty σ H2 fun y H3 => ∃ d b k xs, x = .ref d ∧ y = .ref b ∧ H3 d = some (DNO P w d xs) ∧ (∀ h, HOk P w H3 h → NKeys P w h xs ∧ (nestedKind P w).is h k b) ∧ atKey xs k = none ∧ xs.length < sizeLine ∧
  ∀ u, RelV v u → (∀ q, H3 d ≠ some (LamX.CodeO d q)) → D.nx σ (upd H3 d (DNO P w d (xs ++ [(k, b, u)])))
def tNNew (P : Program) (w : World) : TE := fun _ H Q => ∀ p, H p = none → Q (.ref p) (upd H p (DNO P w p []))
end
section
variable {X : Cx} {o i value : Expr} {pos pos' : Pos} {td ty tv : TE}
theorem pe_nnew : PE X (.Dict [] [] pos) (tNNew X.prog X.w) := ⟨fun pins s σ H Q I h =>
  wpAny_Dict_empty ⟨.ref s.heap.objs.size, _, I.laid (a := s.heap.objs.size) (o := DNO X.prog X.w s.heap.objs.size []) (t' := s.toks) (fun _ _ q => Heap.get?_push_of_some _ q) (Nat.le_refl _)
    (dno_new (beq_eq_false_iff_ne.mpr (Ne.symm (Nat.ne_of_lt I.big))) (Nat.zero_le _) (Heap.DictOfH.new s.heap)), rfl, h _ (I.hok.fresh (Nat.le_refl _))⟩⟩
theorem pc_nnotin (hu : X.A.units + 9 < cLine) (hi : PE X i ty) (ho : PE X o td) : PC X .NotIn i o (tNNotIn X.prog X.w ty td) := by
  refine ⟨fun pins s σ H Q I h => ?_⟩
  refine thn (hi.run pins s σ H _ I h) fun iv s1 ⟨y, H1, I1, ry, q1⟩ => thn (ho.run pins s1 σ H1 _ I1 q1) fun u s2 ⟨x, H2, I2, rx, d, b, k, xs, ex, ey, e, hk, q2⟩ => ?_
  subst ex
  subst ey
  obtain rfl : u = Value.ref d := rx
  obtain rfl : iv = Value.ref b := ry
  obtain ⟨k1, k2⟩ := hk _ I2.hok
  exact dno_notin hu I2 e k1 k2 fun s3 I3 => ⟨.bl _, H2, I3, rfl, q2⟩
theorem pe_nget (hu : X.A.units + 9 < cLine) (ho : PE X o td) (hi : PE X i ty) (hs : NoSl i) : PE X (.Subscript o i pos) (tNGet X.prog X.w td ty) := by
  refine ⟨fun pins s σ H Q I h => ?_⟩
  refine subD_of PySem.F.slot_dict_getitem.lookup hs (thn (ho.run pins s σ H _ I h) fun u s1 ⟨x, H1, I1, rx, q1⟩ => thn (hi.run pins s1 σ H1 _ I1 q1) fun iv s2 ⟨y, H2, I2, ry, d, b, k, xs, p, v, ex, ey, e, hk, hp, rv, q2⟩ => ?_)
  subst ex
  subst ey
  obtain rfl : u = Value.ref d := rx
  obtain rfl : iv = Value.ref b := ry
  obtain ⟨k1, k2⟩ := hk _ I2.hok
  have dd := (dno_obj (I2.hok d _ e) k1).2.2
  exact ⟨dd.typeIs, dno_get hu I2 e k1 k2 hp fun s3 I3 => ⟨v, H2, I3, rv, q2⟩⟩
theorem ps_nput (hu : X.A.units + 9 < cLine) (ho : PE X o td) (hi : PE X i ty) (hv : PE X value tv) (hs : swapsWith value (some (.Subscript o i pos')) pos.line X.env = pure false) :
    PS X (.Assign [.Subscript o i pos'] value pos) (sNPut X.prog X.w td ty tv) := by
  refine ⟨fun pins s σ H D I h => ?_⟩
  refine wpAny_Assign_Subscript (thn (hv.run pins s σ H _ I h) fun r s1 ⟨v, H1, I1, rv, q1⟩ => thn (ho.run pins s1 σ H1 _ I1 q1) fun u s2 ⟨x, H2, I2, rx, q2⟩ => thn (hi.run pins s2 σ H2 _ I2 q2) fun iv s3 ⟨y, H3, I3, ry, d, b, k, xs, ex, ey, e, hk, hn, hl, q3⟩ => ?_) hs
  subst ex
  subst ey
  obtain rfl : u = Value.ref d := rx
  obtain rfl : iv = Value.ref b := ry
  obtain ⟨k1, k2⟩ := hk _ I3.hok
  refine dno_set hu I3 e k1 k2 hn hl fun s4 I4 => ⟨σ, _, I4, q3 r rv fun q z => ?_⟩
  obtain ⟨⟨_, _, o1, _, _, g1, _, g2, _⟩, _⟩ := I3.hok d _ e
  obtain ⟨⟨o2, _, _, g3, g4, _⟩, _⟩ := I3.hok d _ z
  rw [g1] at g3
  cases g3
  rw [g2] at g4
  cases g4
end
end BF

set_option maxRecDepth 100000
set_option maxHeartbeats 4000000
namespace BF
open PySem PySem.Spec L2 LamX NdefX
open PyProof.Rows hiding St
set_option autoImplicit false
/-- the lambda (words, captured cells, code object as in F, its body b) stands at f -/
def LamF (F : NF) (b : Expr) (f : Addr) (h : Heap) : Prop := ∃ pm ctv, h.get? f = some (PySem.W.kla_obj F.name F.qual F.params b F.scope F.cl pm F.c ctv)
/-- its promise -/
structure LOk (P : Program) (w : World) (K : PySem.W.Frag) (mg : Str → Option Value) (base : Heap) (CX : CXT) (k : Nat) (F : NF) (b : Expr) (ps fr : List Str) (sp : List (Option V) → Sp) : Prop where
  len : ∀ ws vs H Q E, sp ws vs H Q E → vs.length = ps.length
  run : ∀ (A : Around) (outer : List Env) (s : Shared) (H : Hp) (f : Addr) (us : List Value) (vs : List V) (ws : List (Option V)) (Q : VK) (E : XK), Room k A → Env0 P w K mg base A outer s H → LamF F b f s.heap → H F.c = some (CodeO F.c F.qual) →
    CellsAt F.cl fr ws s.heap H → Vals vs us → sp ws vs H Q E → codeAny (model P w) A (.call (.ref f) ⟨us, []⟩) (CR CX outer P w H s Q E) s
section
variable {CX : CXT} {P : Program} {w : World} {K : PySem.W.Frag} {mg : Str → Option Value} {base : Heap} {N ps fr : List Str} {F : NF} {b : Expr} {k j : Nat} {sp : List (Option V) → Sp}
theorem lok_of (S : NScope N ps fr F.scope) (hb : ∀ (pm ctv : Value) (us : List Value), us.length = ps.length → bindArgs (PySem.W.kla_fn F.name F.qual F.params b F.scope F.cl pm (.ref F.c) ctv) ⟨us, []⟩ = pure (ps.zip us)) (len : ∀ ws vs H Q E, sp ws vs H Q E → vs.length = ps.length)
    (hbody : ∀ (A : Around) (outer : List Env) (s : Shared) (H : Hp) (f : Addr) (vs : List V) (ws : List (Option V)) (Q : VK) (E : XK), Room k (A.deeper (envF F f s.heap.objs.size)) → ws.length = fr.length → sp ws vs H Q E →
      ∃ t, PE (ncx CX P w K mg base N F f A outer s H E) b t ∧ t (startF N vs ws) H Q) :
    LOk P w K mg base CX (k + 1) F b ps fr sp := by
  refine ⟨len, fun A outer s H f us vs ws Q E hr e0 hf hc C r hsp => ?_⟩
  have hl := len _ _ _ _ _ hsp
  have lim : s.heap.NoLimit := e0.mod.nolimit.keeps fun b o e => (e0.bs b o e).1
  obtain ⟨pm, ctv, ho⟩ := hf
  refine PySem.W.kla_callFunE hr.depth ho rfl S.co S.gen rfl (codeO_at e0.hok hc) ?_
  rw [hb pm ctv us (by rw [← r.length]; exact hl)]
  refine wpAny_pure (wpAny_newFunctionEnv S.nocell (fun ⟨n, _⟩ hy => S.par n (List.of_mem_zip hy).1) (fun h₁ hns hsb => ⟨lim.fresh _ hsb, ?_⟩) S.kind)
  show codeAny _ _ (.expr b (envF F f s.heap.objs.size)) _ _
  have kp : ∀ b o, s.heap.get? b = some o → h₁.get? b = some o := fun b o e => hsb.extBut b o (Nat.ne_of_lt (Heap.lt_size e)) (Heap.get?_push_of_some _ e)
  obtain ⟨t, ht, hq⟩ := hbody A outer s H f vs ws Q E (hr.deeper _) C.len hsp
  have I : L2.Inv (ncx CX P w K mg base N F f A outer s H E) [] (startF N vs ws) H { s with heap := h₁, toks := s.toks + (ps.zip us).length } := inv_startN S hr.hd e0 hl r C hns kp
  refine PySem.W.kla_codeExpr (wpAny_mono (ht.run [] _ (startF N vs ws) H Q I hq) (fun v s' hs => ?_) fun e s' hs => hs)
  obtain ⟨v', H', J, rv, q⟩ := hs
  exact ⟨v', H', J.os, J.bare, J.base, J.hok, rv, q⟩
end
section
variable {X : Cx} {cl : List (Str × Addr)} {fr : List Str} {ws : List (Option V)}
theorem cells_later {pins : List (Addr × Obj)} {σ : St} {H : Hp} {s : Shared} (C : CellsAt cl fr ws X.s_0.heap X.H_0) (hx : X.ex = []) (I : L2.Inv X pins σ H s) : CellsAt cl fr ws s.heap H := by
  have kp : ∀ y c, cl.lookup y = some c → ∀ v, X.s_0.heap.IsCell c v → s.heap.IsCell c v := fun y c e v ⟨o, ho, hd⟩ => by
    obtain ⟨sl, q⟩ := I.base.any ho (C.all y c e).1 (by rw [hx]; simp)
    exact ⟨_, q, hd⟩
  refine ⟨C.len, fun y c e => ?_, C.inj, fun i y e => ?_⟩
  · obtain ⟨n, v, z⟩ := C.all y c e
    refine ⟨?_, v, kp y c e v z⟩
    obtain ⟨o, ho, _⟩ := z
    exact I.base.free c o ho n (by rw [hx]; simp)
  · obtain ⟨c, hc, hv⟩ := C.has i y e
    refine ⟨c, hc, fun v ev => ?_⟩
    obtain ⟨u, r, z⟩ := hv v ev
    exact ⟨u, r, kp y c hc _ z⟩
/-- x(e, ..), x a name that holds such a lambda since the entry -/
theorem pe_lcall {F : NF} {b : Expr} {f : Addr} {ps : List Str} {k j i : Nat} {x : Str} {sp : List (Option V) → Sp} {E : St → XK} {t : TA} {e : Expr} {es : List Expr} {p pos : Pos}
    (L : LOk X.prog X.w X.K X.mg X.base (L2.CX X.prog X.w) k F b ps fr sp) (hr : Room j X.A) (hk : k ≤ j) (hf : LamF F b f X.s_0.heap) (hfn : X.H_0 f = none) (hfr : f ∉ X.fs) (hex : X.ex = []) (C : CellsAt F.cl fr ws X.s_0.heap X.H_0)
    (hx : ∀ σ, PassesAt (L2.CX X.prog X.w) X σ (E σ)) (hN : X.N[i]? = some x) (hv : Vis X.env.scope x) (ha : PA X (e :: es) t)
    (hd : (x == ("__debug__" : Str)) = false := by decide) (hcd : (x == ("__classdict__" : Str)) = false := by decide)
    (he : starEach (e :: es) X.env = (false, eval e X.env) :: starEach es X.env := by rfl) (hpl : (backTo pos (starEach es X.env)).any (·.1) = false := by rfl) :
    PE X (.Call (.Name x p) (e :: es) [] pos) (fun σ H Q => σ[i]? = some (some (.ref f)) ∧ t σ H fun vs H1 => H1 F.c = some (CodeO F.c F.qual) ∧ sp ws vs H1 Q (E σ)) := by
  refine ⟨fun pins s σ H Q I h => ?_⟩
  obtain ⟨hs, ht⟩ := h
  have at_ : ∀ {pins : List (Addr × Obj)} {σ : St} {H : Hp} {s : Shared}, L2.Inv X pins σ H s → LamF F b f s.heap := fun I => by
    obtain ⟨pm, ctv, ho⟩ := hf
    exact ⟨pm, ctv, I.base.keep f _ ho hfn hfr (by rw [hex]; simp)⟩
  have fa : ∀ {pins : List (Addr × Obj)} {σ : St} {H : Hp} {s : Shared}, L2.Inv X pins σ H s → PySem.W.FnAt f s.heap := fun I => by
    obtain ⟨pm, ctv, ho⟩ := at_ I
    exact ⟨_, _, _, _, ho⟩
  refine wpAny_Call_Name_kw (thn ((pe_var (pos := p) hN hv hd hcd).run pins s σ H (fun v H1 => v = .ref f ∧ H1 = H) I ⟨.ref f, hs, rfl, rfl⟩) fun u s1 ⟨v, H1, I1, r1, q1⟩ => ?_)
  obtain ⟨ev, eH⟩ := q1
  subst ev
  rw [eH] at I1
  obtain rfl : u = Value.ref f := r1
  refine PySem.W.callWith_F (first := []) (fa I1) (thn (ha.run pos pins s1 σ H _ I1 ht) fun us s2 ⟨vs, H2, I2, r, h1, q⟩ => ⟨fa I2, ?_⟩) he hpl
  show wpAny _ _ (call (.ref f) us) _ _ _
  refine wpAny_call (codeAny_mono (L.run X.A X.stack s2 H2 f us vs ws Q (E σ) (hr.mono hk) I2.env0 (at_ I2) h1 (cells_later C hex I2) r q) fun r s' hq => ?_)
  match r, hq with
  | .error e, hq => exact hx σ pins _ _ e s' I2 hq
  | .ok (.ret u), hq => exact I2.after hq
  | .ok .next, hq => exact False.elim hq
  | .ok .brk, hq => exact False.elim hq
  | .ok .cont, hq => exact False.elim hq
end
/-- the promise in data: Bl the body's mirror, ρ the arguments, then what is captured -/
def spL (G : Gm) (N : List Str) (n : Nat) (Bl : PX) : List (Option V) → Sp := fun ws vs H Q E => vs.length = n ∧ tX G (startF N vs ws) (fun c d _ H => E c d H) [] Bl (startF N vs ws) H Q
theorem lok_data {P : Program} {w : World} {K : PySem.W.Frag} {mg : Str → Option Value} {base : Heap} {N ps fr : List Str} {F : NF} {b : Expr} {k : Nat} {G : Gm} {Bl : PX} (S : NScope N ps fr F.scope)
    (hb : ∀ (pm ctv : Value) (us : List Value), us.length = ps.length → bindArgs (PySem.W.kla_fn F.name F.qual F.params b F.scope F.cl pm (.ref F.c) ctv) ⟨us, []⟩ = pure (ps.zip us))
    (hbody : ∀ (A : Around) (outer : List Env) (s : Shared) (H : Hp) (f : Addr) (vs : List V) (ws : List (Option V)) (E : XK), Room k (A.deeper (envF F f s.heap.objs.size)) → 
      DE (ncx (L2.CX P w) P w K mg base N F f A outer s H E) ⟨G, startF N vs ws, fun c d _ H => E c d H⟩ [] b Bl) : LOk P w K mg base (L2.CX P w) (k + 1) F b ps fr (spL G N ps.length Bl) :=
  lok_of S hb (fun ws vs H Q E h => h.1) fun A outer s H f vs ws Q E hr _ h => ⟨_, hbody A outer s H f vs ws E hr, h.2⟩
/-- the promise met: an argument and captured data, all frozen -/
theorem spL_of {G : Gm} {N : List Str} {Bl : PX} {I H : Hp} {x : PV} {v : V} {cs : List PV} {cv : List V} {Q : VK} {E : XK} (hs : Same I H) (tb : TabI G.tabs I H) (p : Rp G I x v) (l : RpL G I cs cv) (hn : N.length = 1 + cs.length)
    {s : Slot} {ρ' : En} (e : Bl ((x :: cs).map .val) = .ok (s, ρ')) (k : ∀ I' H' v', Ext I H I' H' → Rp G I' s.pv v' → Q v' H') : spL G N 1 Bl (cv.map some) [v] H Q E := by
  refine ⟨rfl, I, (x :: cs).map .val, ?_, ?_⟩
  · have e0 : startF N [v] (cv.map some) = (v :: cv).map some := by
      unfold startF
      have hz : N.length - [v].length - (cv.map some).length = 0 := by
        rw [List.length_map, ← l.length, hn]; simp
      rw [hz]
      simp
    have := vals_sr (G := G) hs (.cons p l) tb
    rw [e0]
    refine ⟨this.same, this.len, this.val, this.own, fun _ _ _ => rfl, this.sep, this.tab⟩
  · rw [e]
    intro I' H' v' x1 w
    have ex := x1.pure_ext
    obtain ⟨I2, x2, _, p2⟩ := RS.frz ex w
    exact k I2 H' v' x2 p2
end BF

set_option maxRecDepth 100000
set_option maxHeartbeats 4000000
namespace BF
open PySem PySem.Spec L2 LamX NdefX
open PyProof.Rows hiding St
set_option autoImplicit false
/-- where a thing of the key k stands first -/
def cfind (k : NestedKey) : List PV → Option Nat
  | [] => none
  | x :: xs => if nkey x = some k then some 0 else (cfind k xs).map (· + 1)
/-- the key of a tuple -/
def ckey : PV → Option NestedKey
  | .tup xs => match nkey (.tup xs) with
    | some k => if k.depth ≤ 8 then some k else none
    | none => none
  | _ => none
def crun (f : PV → Res PV) : Nat → List PV → PV → Res (List PV × Nat)
  | 0, _, _ => .stuck
  | n + 1, xs, here => match ckey here with
    | some k => (match cfind k xs with
      | some j => .ok (xs, j)
      | none => if xs.length < sizeLine then (match f here with
        | .ok y => crun f n (xs ++ [here]) y
        | _ => .stuck) else .stuck)
    | none => .stuck
def courseR (f : PV → Res PV) (x : PV) : Res (List PV × Nat) := crun f (sizeLine + 1) [] x
theorem ckey_tup {x : PV} {k : NestedKey} (h : ckey x = some k) : nkey x = some k ∧ k.depth ≤ 8 ∧ ∃ xs, x = .tup xs := by
  unfold ckey at h
  split at h
  · split at h
    · rename_i e
      split at h
      · rename_i hd
        cases h
        exact ⟨e, hd, _, rfl⟩
      · cases h
    · cases h
  · cases h
inductive CKs : Nat → List PV → List V → List (NestedKey × Addr × Value) → Prop
  | nil (n : Nat) : CKs n [] [] []
  | cons {n : Nat} {x : PV} {k : NestedKey} {b : Addr} {t : Tok} {xs : List PV} {vs : List V} {es : List (NestedKey × Addr × Value)} (e : nkey x = some k) (d : k.depth ≤ 8) (r : CKs (n + 1) xs vs es) : CKs n (x :: xs) (.ref b :: vs) ((k, b, .int (n : Nat) t) :: es)
section
variable {G : Gm} {I H : Hp} {P : Program} {w : World} {h : Heap}
theorem CKs.len : ∀ {n : Nat} {xs : List PV} {vs : List V} {es : List (NestedKey × Addr × Value)}, CKs n xs vs es → es.length = xs.length
  | _, _, _, _, .nil _ => rfl
  | _, _, _, _, .cons _ _ r => congrArg Nat.succ r.len
theorem CKs.keys (hs : Same I H) (ok : HOk P w H h) : ∀ {n : Nat} {xs : List PV} {vs : List V} {es : List (NestedKey × Addr × Value)}, CKs n xs vs es → RpL G I xs vs → NKeys P w h es
  | _, _, _, _, .nil _, _ => fun x hx => by cases hx
  | _, _, _, _, .cons e d r, .cons p l => fun x hx => by
    rcases List.mem_cons.mp hx with z | z
    · subst z
      exact ⟨rp_nk hs ok p e rfl, d⟩
    · exact r.keys hs ok l x z
theorem CKs.find {k : NestedKey} : ∀ {n : Nat} {xs : List PV} {vs : List V} {es : List (NestedKey × Addr × Value)}, CKs n xs vs es → (cfind k xs = none → atKey es k = none) ∧ ∀ j, cfind k xs = some j → ∃ p t, atKey es k = some p ∧ p.2 = .int ((n + j : Nat) : Int) t
  | _, _, _, _, .nil _ => ⟨fun _ => rfl, fun j e => by cases e⟩
  | n, _, _, _, @CKs.cons _ x k' b t xs vs es e d r => by
    obtain ⟨h1, h2⟩ := r.find (k := k)
    by_cases ek : k' = k
    · subst ek
      refine ⟨fun z => ?_, fun j z => ?_⟩
      · simp [cfind, e] at z
      · simp only [cfind, e, if_true, Option.some.injEq] at z
        subst z
        exact ⟨(b, .int (n : Nat) t), t, by simp [atKey], rfl⟩
    · have en : ¬ (nkey x = some k) := fun z => ek (by rw [e] at z; exact Option.some.inj z)
      have ea : atKey ((k', b, Value.int (n : Nat) t) :: es) k = atKey es k := by simp [atKey, List.find?_cons, ek]
      refine ⟨fun z => ?_, fun j z => ?_⟩
      · simp only [cfind, if_neg en, Option.map_eq_none_iff] at z
        rw [ea]; exact h1 z
      · simp only [cfind, if_neg en, Option.map_eq_some_iff] at z
        obtain ⟨i, z1, z2⟩ := z
        subst z2
        obtain ⟨p, t', g1, g2⟩ := h2 i z1
        exact ⟨p, t', by rw [ea]; exact g1, by rw [g2]; congr 1; omega⟩
theorem CKs.snoc {x : PV} {k : NestedKey} {b : Addr} {t : Tok} (e : nkey x = some k) (d : k.depth ≤ 8) : ∀ {n : Nat} {xs : List PV} {vs : List V} {es : List (NestedKey × Addr × Value)}, CKs n xs vs es → CKs n (xs ++ [x]) (vs ++ [.ref b]) (es ++ [(k, b, .int ((n + xs.length : Nat) : Int) t)])
  | n, _, _, _, .nil _ => by
    have := CKs.cons (n := n) (b := b) (t := t) e d (.nil _)
    simpa using this
  | n, _, _, _, @CKs.cons _ x' k' b' t' xs vs es e' d' r => by
    have q := r.snoc (b := b) (t := t) e d
    have := CKs.cons (n := n) (b := b') (t := t') e' d' q
    have en : n + (x' :: xs).length = n + 1 + xs.length := by simp; omega
    rw [en]
    exact this
end
structure CSt (G : Gm) (P : Program) (w : World) (c : Str) (I0 H0 : Hp) (a dx r d : Addr) (xs : List PV) (vs : List V) (es : List (NestedKey × Addr × Value)) (I H : Hp) : Prop where
  le : Same I0 I
  same : Same I H
  tab : TabsE I0 H0 I H
  dom : ∀ b, H b = none → H0 b = none
  keep : ∀ b o, NT o → H0 b = some o → I0 b = none → b ≠ a → H b = some o ∧ I b = none
  ha : H a = some (.ins (G.cls c) dx [("rows", .ref r)])
  ia : I a = none
  hr : H r = some (.lst vs)
  ir : I r = none
  r0 : H0 r = none
  hd : H d = some (DNO P w d es)
  id : I d = none
  d0 : H0 d = none
  l : RpL G I xs vs
  ks : CKs 0 xs vs es
section
variable {G : Gm} {P : Program} {w : World} {c : Str} {I0 H0 : Hp} {a dx r d : Addr} {xs : List PV} {vs : List V} {es : List (NestedKey × Addr × Value)} {I H I' H' : Hp}
theorem CSt.ext (s : CSt G P w c I0 H0 a dx r d xs vs es I H) (x : Ext I H I' H') : CSt G P w c I0 H0 a dx r d xs vs es I' H' := by
  obtain ⟨a1, a2⟩ := x.keep _ _ nt_ins s.ha s.ia
  obtain ⟨r1, r2⟩ := x.keep _ _ nt_lst s.hr s.ir
  obtain ⟨d1, d2⟩ := x.keep _ _ dno_nt s.hd s.id
  exact ⟨s.le.trans x.le, x.same, s.tab.trans x.tab, fun b h => s.dom b (x.dm b h), fun b o nt e n z => by
    obtain ⟨k1, k2⟩ := s.keep b o nt e n z
    exact x.keep b o nt k1 k2, a1, a2, r1, r2, s.r0, d1, d2, s.d0, s.l.up x.le, s.ks⟩
/-- a turn: the dict and the list grow -/
theorem CSt.turn (s : CSt G P w c I0 H0 a dx r d xs vs es I H) {x : PV} {k : NestedKey} {b : Addr} {t : Tok} (p : Rp G I x (.ref b)) (e : nkey x = some k) (hk : k.depth ≤ 8) (nc : ∀ q, H d ≠ some (LamX.CodeO d q)) :
    CSt G P w c I0 H0 a dx r d (xs ++ [x]) (vs ++ [.ref b]) (es ++ [(k, b, .int (xs.length : Nat) t)]) I (upd (upd H d (DNO P w d (es ++ [(k, b, .int (xs.length : Nat) t)]))) r (.lst (vs ++ [.ref b]))) := by
  have nrd : r ≠ d := ne_of s.hr s.hd (fun z => by unfold DNO at z; cases z)
  have nad : a ≠ d := ne_of s.ha s.hd (fun z => by unfold DNO at z; cases z)
  have nar : a ≠ r := ne_of s.ha s.hr (fun z => by cases z)
  have T1 : TabsE I H I (upd H d (DNO P w d (es ++ [(k, b, .int (xs.length : Nat) t)]))) := TabsE.put (fun ps z => by
      rw [s.hd] at z; exact dno_nt ps (Option.some.inj z)) nc
  have hr' : upd H d (DNO P w d (es ++ [(k, b, .int (xs.length : Nat) t)])) r = some (.lst vs) := by rw [upd_ne nrd]; exact s.hr
  have T2 := T1.trans (Pl.put (u := .lst (vs ++ [.ref b])) (.inl ⟨vs, rfl⟩) hr')
  have at_ : ∀ q, q ≠ r → q ≠ d → upd (upd H d (DNO P w d (es ++ [(k, b, .int (xs.length : Nat) t)]))) r (.lst (vs ++ [.ref b])) q = H q := fun q h1 h2 => by rw [upd_ne h1, upd_ne h2]
  refine ⟨s.le, fun q o h => ?_, s.tab.trans T2, fun q h => ?_, fun q o nt h n z => ?_, ?_, s.ia, upd_same, s.ir, s.r0, ?_, s.id, s.d0, s.l.append (.one p), ?_⟩
  · rw [at_ q (fun z => by rw [z, s.ir] at h; cases h) (fun z => by rw [z, s.id] at h; cases h)]
    exact s.same q o h
  · refine s.dom q ?_
    by_cases h1 : q = r
    · rw [h1, upd_same] at h; cases h
    · by_cases h2 : q = d
      · rw [h2, upd_ne (Ne.symm nrd), upd_same] at h; cases h
      · rw [at_ q h1 h2] at h; exact h
  · rw [at_ q (fun z => by rw [z, s.r0] at h; cases h) (fun z => by rw [z, s.d0] at h; cases h)]
    exact s.keep q o nt h n z
  · rw [at_ a nar nad]; exact s.ha
  · rw [upd_ne (Ne.symm nrd)]; exact upd_same
  · have := s.ks.snoc (b := b) (t := t) e hk
    simpa using this
/-- the end: the instance has all its fields, the list is frozen -/
theorem CSt.fin (s : CSt G P w c I0 H0 a dx r d xs vs es I H) (j m : Int) : ∃ I', Same I0 I' ∧ Same I' (upd H a (.ins (G.cls c) dx [("rows", .ref r), ("ahead", .int j), ("lap", .int m)])) ∧ TabsE I0 H0 I' (upd H a (.ins (G.cls c) dx [("rows", .ref r), ("ahead", .int j), ("lap", .int m)])) ∧
    (∀ b, upd H a (.ins (G.cls c) dx [("rows", .ref r), ("ahead", .int j), ("lap", .int m)]) b = none → H0 b = none) ∧ (∀ b o, NT o → H0 b = some o → I0 b = none → b ≠ a → upd H a (.ins (G.cls c) dx [("rows", .ref r), ("ahead", .int j), ("lap", .int m)]) b = some o ∧ I' b = none) ∧
    I' a = none ∧ OwnO G I' (.ins c [("rows", .lst xs), ("ahead", .int j), ("lap", .int m)]) (.ins (G.cls c) dx [("rows", .ref r), ("ahead", .int j), ("lap", .int m)]) := by
  have nar : a ≠ r := ne_of s.ha s.hr (fun z => by cases z)
  refine ⟨upd I r (.lst vs), s.le.trans (same_upd s.ir), fun q o h => ?_, (s.tab.trans (.frz s.hr nt_lst)).trans (Pl.put (.inr (.inr ⟨_, _, _, rfl⟩)) s.ha), fun q h => ?_, fun q o nt h n z => ?_, by rw [upd_ne nar]; exact s.ia, dx, _, rfl, ?_⟩
  · by_cases h1 : q = r
    · subst h1
      rw [upd_same] at h
      cases h
      rw [upd_ne (Ne.symm nar)]; exact s.hr
    · rw [upd_ne h1] at h
      rw [upd_ne (fun z => by rw [z, s.ia] at h; cases h)]
      exact s.same q o h
  · by_cases h1 : q = a
    · rw [h1, upd_same] at h; cases h
    · rw [upd_ne h1] at h; exact s.dom q h
  · have nr : q ≠ r := fun z => by rw [z, s.r0] at h; cases h
    rw [upd_ne z, upd_ne nr]
    exact s.keep q o nt h n z
  · exact .cons (.lst upd_same (s.l.up (same_upd s.ir))) (.cons (.int _) (.cons (.int _) .nil))
end
end BF

set_option maxRecDepth 100000
set_option maxHeartbeats 4000000
namespace BF
open PySem PySem.Spec L2 LamX NdefX
open PyProof.Rows hiding St
set_option autoImplicit false
/-- the class's facts -/
structure CourseF (K : PySem.W.Frag) (C : Addr) : Prop where
  cl : Cls K C
  rows : NoAttr K C "rows"
  ahead : NoAttr K C "ahead"
  lap : NoAttr K C "lap"
/-- the step's mirror -/
def stepL (Bl : PX) (cs : List PV) (x : PV) : Res PV := match Bl ((x :: cs).map .val) with
  | .ok (s, _) => .ok s.pv
  | _ => .stuck
theorem CSt.code {G : Gm} {P : Program} {w : World} {c : Str} {I0 H0 : Hp} {a dx r d : Addr} {xs : List PV} {vs : List V} {es : List (NestedKey × Addr × Value)} {I H : Hp} (s : CSt G P w c I0 H0 a dx r d xs vs es I H) (h0 : Same I0 H0) {q : Addr} {o : HO} (h : H0 q = some o) (nt : NT o) (n : q ≠ a) : H q = some o := by
  cases e : I0 q with
  | none => exact (s.keep q o nt h e n).1
  | some u =>
    have := h0 q u e
    rw [h] at this
    cases this
    exact s.same _ _ (s.le _ _ e)
section
variable {Z : Cx} {G : Gm} {c : Str} {F : NF} {Nl : List Str} {Bl : PX} {ws : List (Option V)} {f : Addr} {p1 p2 p3 p4 p5 p6 p7 p8 p9 p10 p11 p12 p13 p14 p15 p16 p17 p18 p19 p20 p21 p22 p23 p24 p25 p26 p27 p28 p29 p30 p31 p32 p33 p34 p35 p36 p37 p38 p39 p40 p41 p42 p43 p44 p45 p46 p47 p48 p49 : Pos}
theorem course_body (hN : Z.N = (["self", "first", "behind", "seen", "here"] : List Str)) (v0 : Vis Z.env.scope "self") (v1 : Vis Z.env.scope "first") (v3 : Vis Z.env.scope "seen") (v4 : Vis Z.env.scope "here") (l3 : Z.env.scope.names.lookup ("seen" : Str) = some .local) (l4 : Z.env.scope.names.lookup ("here" : Str) = some .local)
    (gl : Gl Z "len") (ml : Z.mg "len" = none) (hp : PassesOwn (model Z.prog Z.w) Z.A Z.env Z.xe) (hu : Z.A.units + 9 < cLine) (cf : CourseF Z.K (G.cls c)) (hline : (p24.endLine == p26.line) = true)
    (hcall : PE Z (.Call (.Name "behind" p34) [.Name "here" p35] [] p36) (fun σ H Q => σ[2]? = some (some (.ref f)) ∧ tCons (tVar 4) tNil σ H fun vs H1 => H1 F.c = some (CodeO F.c F.qual) ∧ spL G Nl 1 Bl ws vs H1 Q (fun _ _ _ => False))) :
    ∃ t, PSs Z [.Assign [.Attribute (.Name "self" p1) "rows" p2] (.List [] p3) p4,
        .Assign [.Name "seen" p5] (.Dict [] [] p6) p7,
        .Assign [.Name "here" p8] (.Name "first" p9) p10,
        .While (.Compare (.Name "here" p11) [.NotIn] [.Name "seen" p12] p13) [
          .Assign [.Subscript (.Name "seen" p14) (.Name "here" p15) p16] (.Call (.Name "len" p17) [.Attribute (.Name "self" p18) "rows" p19] [] p20) p21,
          .Expr (.Call (.Attribute (.Attribute (.Name "self" p22) "rows" p23) "append" p24) [.Name "here" p25] [] p26) p27,
          .Assign [.Name "here" p28] (.Call (.Name "behind" p34) [.Name "here" p35] [] p36) p29] [] p30,
        .Assign [.Attribute (.Name "self" p31) "ahead" p32] (.Subscript (.Name "seen" p33) (.Name "here" p37) p38) p39,
        .Assign [.Attribute (.Name "self" p40) "lap" p41] (.BinOp (.Call (.Name "len" p42) [.Attribute (.Name "self" p43) "rows" p44] [] p45) .Sub (.Attribute (.Name "self" p46) "ahead" p47) p48) p49] t ∧
      ∀ {I0 H0 : Hp} {a dx : Addr} {σ : St} {x : PV} {v : V} {cs : List PV} {cv : List V} {Q : VK} {xs : List PV} {j : Nat},
        Same I0 H0 → H0 a = some (.ins (G.cls c) dx []) → I0 a = none → TabI G.tabs I0 H0 → Rp G I0 x v → RpL G I0 cs cv → ws = cv.map some → Nl.length = 1 + cs.length → H0 F.c = some (CodeO F.c F.qual) →
        σ[0]? = some (some (.ref a)) → σ[1]? = some (some v) → σ[2]? = some (some (.ref f)) → σ.length = 5 →
        courseR (stepL Bl cs) x = .ok (xs, j) →
        (∀ I' H' o, Same I0 I' → Same I' H' → TabsE I0 H0 I' H' → (∀ b, H' b = none → H0 b = none) → (∀ b o, NT o → H0 b = some o → I0 b = none → b ≠ a → H' b = some o ∧ I' b = none) → I' a = none →
          H' a = some o → OwnO G I' (.ins c [("rows", .lst xs), ("ahead", .int j), ("lap", .int (xs.length - j))]) o → Q .non H') →
        t { nx := fun _ H' => Q .non H', rt := Q } σ H0 := by
  have n0 : Z.N[0]? = some ("self" : Str) := by rw [hN]; rfl
  have n1 : Z.N[1]? = some ("first" : Str) := by rw [hN]; rfl
  have n3 : Z.N[3]? = some ("seen" : Str) := by rw [hN]; rfl
  have n4 : Z.N[4]? = some ("here" : Str) := by rw [hN]; rfl
  have nd : Z.N.Nodup := by rw [hN]; decide
  have eself : ∀ {p : Pos}, PE Z (.Name "self" p) (tVar 0) := pe_var n0 v0
  have eseen : ∀ {p : Pos}, PE Z (.Name "seen" p) (tVar 3) := pe_var n3 v3
  have ehere : ∀ {p : Pos}, PE Z (.Name "here" p) (tVar 4) := pe_var n4 v4
  have erows : ∀ {p q : Pos}, PE Z (.Attribute (.Name "self" p) "rows" q) (tFld Z.K (tVar 0) "rows") := pe_fld eself rfl
  have elen : ∀ {p q r s : Pos}, PE Z (.Call (.Name "len" p) [.Attribute (.Name "self" q) "rows" r] [] s) (tCB (fun xs H Q => ∃ p ys, xs = [V.ref p] ∧ (SqL Z.K H p ys ∨ SqT Z.K H p ys) ∧ Q (.int ys.length) H) (tCons (tFld Z.K (tVar 0) "rows") tNil)) :=
    pe_callB call_len_seq gl ml bb_len (pa_cons erows pa_nil)
  refine ⟨_, pss_cons (ps_fld eself (pe_lst pa_nil) rfl) (pss_cons (ps_asg pe_nnew (pg_name nd n3 (.inl l3) (.inr l3))) (pss_cons (ps_asg (pe_var n1 v1) (pg_name nd n4 (.inl l4) (.inr l4)))
    (pss_cons (ps_while hp (pt_cmp (pc_nnotin hu ehere eseen) rfl) (pss_cons (ps_nput hu eseen ehere elen rfl)
      (pss_cons (ps_expr (pe_bm PySem.F.plainAttrs_list PySem.F.slot_list_append PySem.F.type_list_append mt_append erows (pa_cons ehere pa_nil) rfl rfl hline rfl rfl) rfl)
        (pss_one (ps_asg hcall (pg_name nd n4 (.inl l4) (.inr l4)))))))
    (pss_cons (ps_fld eself (pe_nget hu eseen ehere fun _ _ => rfl) rfl) (pss_one (ps_fld eself (pe_sub elen (pe_fld eself rfl)) rfl)))))), ?_⟩
  intro I0 H0 a dx σ x v cs cv Q xs' j' hs h0 i0 tb px lc hw hn hc e0 e1 e2 e5 hr k
  subst hw
  refine ⟨Nat.zero_le _, fun r r0 => ⟨.ref a, e0, a, G.cls c, dx, [], rfl, ?_, cf.cl, cf.rows, by decide, ?_⟩⟩
  · rw [upd_ne (ne_of_none h0 r0)]; exact h0
  intro d d0
  refine ⟨v, ?_, ?_⟩
  · rw [List.getElem?_set_ne (by decide)]; exact e1
  have nar : a ≠ r := ne_of_none h0 r0
  have nda : d ≠ a := fun z => by rw [z, upd_same] at d0; cases d0
  have ndr : d ≠ r := fun z => by rw [z, upd_ne (Ne.symm nar), upd_same] at d0; cases d0
  have d00 : H0 d = none := by rw [upd_ne nda, upd_ne ndr] at d0; exact d0
  have nca : F.c ≠ a := ne_of hc h0 (fun z => by unfold CodeO at z; cases z)
  let D0 : Ends := { nx := fun _ H' => Q .non H', rt := Q }
  refine ⟨fun m σ H => ∃ xs vs es I here u, CSt G Z.prog Z.w c I0 H0 a dx r d xs vs es I H ∧ σ.length = 5 ∧ σ[0]? = some (some (.ref a)) ∧ σ[2]? = some (some (.ref f)) ∧ σ[3]? = some (some (.ref d)) ∧ σ[4]? = some (some u) ∧ Rp G I here u ∧ crun (stepL Bl cs) m xs here = .ok (xs', j'), ⟨sizeLine + 1, [], [], [], I0, x, v, ?_, by simp [e5], by rw [List.getElem?_set_ne (by decide), List.getElem?_set_ne (by decide)]; exact e0, by rw [List.getElem?_set_ne (by decide), List.getElem?_set_ne (by decide)]; exact e2, by rw [List.getElem?_set_ne (by decide), List.getElem?_set_self (by omega)], by rw [List.getElem?_set_self (by simp [e5])], px, hr⟩, ?_⟩
  · have hr1 : upd H0 r (.lst []) a = some (.ins (G.cls c) dx []) := by rw [upd_ne nar]; exact h0
    have hd1 : upd (upd H0 r (.lst [])) a (.ins (G.cls c) dx (putF "rows" (.ref r) [])) d = none := by rw [upd_ne nda, upd_ne ndr]; exact d00
    have T1 : TabsE I0 H0 I0 (upd (upd (upd H0 r (.lst [])) a (.ins (G.cls c) dx (putF "rows" (.ref r) []))) d (DNO Z.prog Z.w d [])) :=
      (TabsE.new r0).trans ((Pl.put (.inr (.inr ⟨_, _, _, rfl⟩)) hr1).trans (TabsE.new hd1))
    have at_ : ∀ q, q ≠ r → q ≠ a → q ≠ d → upd (upd (upd H0 r (.lst [])) a (.ins (G.cls c) dx (putF "rows" (.ref r) []))) d (DNO Z.prog Z.w d []) q = H0 q := fun q h1 h2 h3 => by rw [upd_ne h3, upd_ne h2, upd_ne h1]
    have ir : I0 r = none := same_none hs r0
    have id : I0 d = none := same_none hs d00
    refine ⟨Same.refl _, fun q o h => ?_, T1, fun q h => ?_, fun q o nt h n z => ?_, ?_, i0, ?_, ir, r0, upd_same, id, d00, .nil, .nil 0⟩
    · rw [at_ q (fun z => by rw [z, ir] at h; cases h) (fun z => by rw [z, i0] at h; cases h) (fun z => by rw [z, id] at h; cases h)]
      exact hs q o h
    · by_cases z1 : q = r
      · rw [z1]; exact r0
      · by_cases z2 : q = d
        · rw [z2]; exact d00
        · by_cases z3 : q = a
          · rw [z3, upd_ne (Ne.symm nda), upd_same] at h; cases h
          · rw [at_ q z1 z3 z2] at h; exact h
    · exact ⟨by rw [at_ q (fun y => by rw [y, r0] at h; cases h) z (fun y => by rw [y, d00] at h; cases h)]; exact h, n⟩
    · rw [upd_ne (Ne.symm nda), upd_same]; rfl
    · rw [upd_ne (Ne.symm ndr), upd_ne (Ne.symm nar), upd_same]
  · rintro m σ H ⟨xs, vs, es, I, here, u, s, g5, g0, g2, g3, g4, pu, run⟩
    cases m with
    | zero => cases run
    | succ m =>
      unfold crun at run
      cases ek : ckey here with
      | none => rw [ek] at run; cases run
      | some kk =>
        rw [ek] at run
        dsimp only at run
        obtain ⟨k1, k2, ts, rfl⟩ := ckey_tup ek
        obtain ⟨b, rfl⟩ : ∃ b, u = V.ref b := by cases pu; exact ⟨_, rfl⟩
        have keys : ∀ h, HOk Z.prog Z.w H h → NKeys Z.prog Z.w h es ∧ (nestedKind Z.prog Z.w).is h kk b := fun h ok => ⟨s.ks.keys s.same ok s.l, rp_nk s.same ok pu k1 rfl, k2⟩
        obtain ⟨f1, f2⟩ := s.ks.find (k := kk)
        refine ⟨V.ref b, g4, .ref d, g3, d, b, kk, es, rfl, rfl, s.hd, keys, _, rfl, ?_⟩
        cases ec : cfind kk xs with
        | none =>
          rw [ec] at run
          dsimp only at run
          have ea := f1 ec
          rw [ea, if_pos (show (!(none : Option (Addr × Value)).isSome) = true from rfl)]
          by_cases hl : xs.length < sizeLine
          · rw [if_pos hl] at run
            cases es1 : stepL Bl cs (.tup ts) with
            | exc z => rw [es1] at run; cases run
            | stuck => rw [es1] at run; cases run
            | ok y =>
              rw [es1] at run
              dsimp only at run
              refine ⟨fun σ' H' => ∃ xs vs es I here u, CSt G Z.prog Z.w c I0 H0 a dx r d xs vs es I H' ∧ σ'.length = 5 ∧ σ'[0]? = some (some (.ref a)) ∧ σ'[2]? = some (some (.ref f)) ∧ σ'[3]? = some (some (.ref d)) ∧ σ'[4]? = some (some u) ∧ Rp G I here u ∧ crun (stepL Bl cs) m xs here = .ok (xs', j'), fun σ' H' h => ⟨m, Nat.lt_succ_self m, h⟩, ?_⟩
              have lv : xs.length = vs.length := s.l.length
              refine ⟨.ref a, g0, a, _, dx, _, .ref r, rfl, s.ha, cf.cl, cf.rows, rfl, r, vs, rfl, .inl (.of s.hr), .ref d, g3, V.ref b, g4, d, b, kk, es, rfl, rfl, s.hd, keys, ea, by rw [s.ks.len]; exact hl, fun w rw' nc => ?_⟩
              obtain ⟨t, rfl⟩ := rw'
              rw [← lv]
              have s2 := s.turn (t := t) pu k1 k2 nc
              have nrd : r ≠ d := ne_of s.hr s.hd (fun z => by unfold DNO at z; cases z)
              have nad : a ≠ d := ne_of s.ha s.hd (fun z => by unfold DNO at z; cases z)
              refine ⟨.ref a, g0, a, _, dx, _, .ref r, rfl, by rw [upd_ne nad]; exact s.ha, cf.cl, cf.rows, rfl, .inl ⟨rfl, vs, .of (by rw [upd_ne nrd]; exact s.hr)⟩, V.ref b, g4, r, vs, V.ref b, rfl, rfl, by rw [upd_ne nrd]; exact s.hr, by rw [← lv]; exact hl, ?_⟩
              unfold stepL at es1
              cases eb : Bl ((PV.tup ts :: cs).map .val) with
              | exc z => rw [eb] at es1; cases es1
              | stuck => rw [eb] at es1; cases es1
              | ok q =>
                obtain ⟨sl, ρ'⟩ := q
                rw [eb] at es1
                cases es1
                refine ⟨g2, V.ref b, g4, s2.code hs hc codeO_ne nca, spL_of s2.same (s2.tab.tabs tb) pu (lc.up s2.le) hn eb fun I' H' v' ex rp => ?_⟩
                have s3 := s2.ext ex
                exact ⟨_, _, _, I', sl.pv, v', s3, by simp [g5], by rw [List.getElem?_set_ne (by decide)]; exact g0, by rw [List.getElem?_set_ne (by decide)]; exact g2, by rw [List.getElem?_set_ne (by decide)]; exact g3, List.getElem?_set_self (by omega), rp, run⟩
          · rw [if_neg hl] at run; cases run
        | some j =>
          rw [ec] at run
          cases run
          obtain ⟨p, t, ea, ep⟩ := f2 j' ec
          rw [ea]
          rw [if_neg (by simp)]
          have hj : RelV (.int j') p.2 := by rw [ep]; exact ⟨t, by simp⟩
          refine ⟨.ref d, g3, V.ref b, g4, d, b, kk, es, p, .int j', rfl, rfl, s.hd, keys, ea, hj, .ref a, g0, a, _, dx, _, rfl, s.ha, cf.cl, cf.ahead, of_decide_eq_true rfl, ?_⟩
          have nar : a ≠ r := ne_of s.ha s.hr (fun z => by cases z)
          refine ⟨.ref a, g0, a, _, dx, _, .ref r, rfl, upd_same, cf.cl, cf.rows, rfl, r, vs, rfl, .inl (.of (by rw [upd_ne (Ne.symm nar)]; exact s.hr)), .ref a, g0, a, _, dx, _, .int j', rfl, upd_same, cf.cl, cf.ahead, rfl, vs.length, j', rfl, rfl, .ref a, g0, a, _, dx, _, rfl, upd_same, cf.cl, cf.lap, of_decide_eq_true rfl, ?_⟩
          rw [upd_upd]
          obtain ⟨I', q1, q2, q3, q4, q5, q6, q7⟩ := s.fin j' (vs.length - j')
          rw [s.l.length] at k
          refine k I' _ _ q1 ?_ ?_ ?_ ?_ q6 upd_same ?_
          all_goals first | exact q2 | exact q3 | exact q4 | exact q5 | exact q7 | skip
end
end BF

set_option maxRecDepth 100000
set_option maxHeartbeats 4000000
namespace BF
open PySem PySem.Spec L2 LamX NdefX
open PyProof.Rows hiding St
set_option autoImplicit false
/-- what the making of a lambda does to what is tracked -/
def TStep (H : Hp) (P : Addr) (q : Str) (H1 : Hp) : Prop := H1 = H ∨ ∃ (ps : Array Value) (l m : Nat) (c' : Addr), H P = some (.tbl ps) ∧ TriplesOk ps.toList ∧ H c' = none ∧ nmT l m = q ∧ H1 = upd (upd H P (.tbl (ps ++ #[rawInt l, rawInt m, .ref c']))) c' (CodeO c' q)
section
variable {H H1 : Hp} {P : Addr} {q : Str}
theorem TStep.dm (t : TStep H P q H1) {b : Addr} (h : H1 b = none) : H b = none := by
  rcases t with rfl | ⟨ps, l, m, c', h1, _, h2, _, rfl⟩
  · exact h
  · unfold upd at h
    split at h
    · cases h
    · split at h
      · cases h
      · exact h
theorem TStep.nt (t : TStep H P q H1) {b : Addr} {o : HO} (nt : NT o) (h : H b = some o) : H1 b = some o := by
  rcases t with rfl | ⟨ps, l, m, c', h1, _, h2, _, rfl⟩
  · exact h
  · rw [upd_ne (ne_of_none h h2), upd_ne (fun z => by subst z; rw [h1] at h; exact nt ps (Option.some.inj h).symm)]
    exact h
theorem TStep.tab {I : Hp} (t : TStep H P q H1) : TabsE I H I H1 := fun P1 ⟨⟨qs, g1, g2, g3⟩, gi⟩ => by
  refine ⟨?_, gi⟩
  rcases t with rfl | ⟨ps, l, m, c', h1, ht, h2, hq, rfl⟩
  · exact ⟨qs, g1, g2, g3⟩
  · have old : ∀ {c : Addr} {q1 : Str}, H c = some (CodeO c q1) → upd (upd H P (.tbl (ps ++ #[rawInt l, rawInt m, .ref c']))) c' (CodeO c' q) c = some (CodeO c q1) := fun {c q1} e => by
      rw [upd_ne (ne_of_none e h2), upd_ne (fun z => by subst z; rw [h1] at e; exact codeO_ne ps (Option.some.inj e).symm)]
      exact e
    by_cases hb : P1 = P
    · subst hb
      rw [h1] at g1
      cases g1
      refine ⟨qs ++ #[rawInt l, rawInt m, .ref c'], by rw [upd_ne (ne_of_none h1 h2), upd_same], ?_, fun pos cv hc => ?_⟩
      · have := PySem.TriplesOk_snoc l m (.ref c') qs.toList ht
        simpa using this
      · have hc' : codeAmong pos (qs.toList ++ [rawInt l, rawInt m, .ref c']) = some cv := by simpa using hc
        rcases among_app2 (pos := { pos with line := l, col := m }) qs.toList ht hc' with z | ⟨z, z1, z2⟩
        · obtain ⟨c, e1, e2⟩ := g3 pos cv z
          exact ⟨c, e1, old e2⟩
        · subst z
          have z1 : l = pos.line := z1
          have z2 : m = pos.col := z2
          exact ⟨c', rfl, by rw [← z1, ← z2, hq]; exact upd_same⟩
    · refine ⟨qs, ?_, g2, fun pos cv hc => ?_⟩
      · rw [upd_ne (ne_of_none g1 h2), upd_ne hb]; exact g1
      · obtain ⟨c, e1, e2⟩ := g3 pos cv hc
        exact ⟨c, e1, old e2⟩
theorem TStep.ext {I : Hp} (t : TStep H P q H1) (hs : Same I H) (hi : I P = none) : Ext I H I H1 where
  le := Same.refl _
  same := fun b o e => by
    have h := hs b o e
    rcases t with rfl | ⟨ps, l, m, c', h1, _, h2, _, rfl⟩
    · exact h
    · rw [upd_ne (ne_of_none h h2), upd_ne (fun z => by subst z; rw [hi] at e; cases e)]
      exact h
  keep := fun b o nt e n => ⟨t.nt nt e, n⟩
  dm := fun b h => t.dm h
  tab := t.tab
end
section
variable {X : Cx} {pins : List (Addr × Obj)} {σ : St} {H : Hp} {s : Shared}
/-- a lambda's object is made; its code object is new, or the table's -/
theorem lam_new {c P : Addr} {q : Str} {params : Arguments} {body : Expr} {scope : Scope} {pos : Pos} {E : Value → Shared → Prop} {Q : Value → Shared → Prop} (I : L2.Inv X pins σ H s) (TB : TabB X.base X.mg c P) (hcode : X.env.code = .ref c)
    (hq : X.env.qual ++ "<lambda>" = q) (hnm : nmT pos.line pos.col = q) (hT : TabM H P) (hdef : defaultsOf params X.env = ([], [])) (hfree : ∀ y ∈ scope.names, y.2 = .free → ∃ c, X.env.cells.lookup y.1 = some c)
    (h : ∀ (f c' : Addr) (H1 : Hp) (s' : Shared), L2.Inv X pins σ H1 s' → TStep H P q H1 → LamF ⟨"<lambda>", q, params, [], scope, cloFrom X.env.cells scope.names [], c'⟩ body f s'.heap → H1 f = none → f ∉ frs X.stack → H1 c' = some (CodeO c' q) → Q (.ref f) s') :
    wpAny (model X.prog X.w) X.A (eval (.Lambda params body scope pos) X.env) Q E s := by
  subst hq
  obtain ⟨ps, hP, ht, among⟩ := hT
  have obP : s.heap.get? P = some { cls := .none, data := .fields ps } := I.hok P _ hP
  have off : ∀ f, s.heap.objs.size ≤ f → f ∉ frs X.stack := fun f hf z => by
    rcases List.mem_cons.mp (I.stkSub _ z) with e | e
    · have lt := I.lt
      rw [← e] at lt
      exact Nat.lt_irrefl _ (Nat.lt_of_lt_of_le lt hf)
    · exact I.nofs hf e
  refine PySem.W.kla_eval hdef ?_
  by_cases hc : ∃ cv, codeAmong pos ps.toList = some cv
  · obtain ⟨cv, hc⟩ := hc
    obtain ⟨c', rfl, co⟩ := among pos cv hc
    rw [hnm] at co
    refine PySem.W.kla_makeFunctionHit (mg := X.mg) (c := c) (P := P) (ps := ps) (closure_ok hfree) I.ok.glob (I.mod.glob.keeps I.bk) hcode (TB.code.keeps I.bk) obP ht hc (TB.bm.keeps I.bk) fun ctv h' tk keep big => ?_
    exact h _ c' H _ (I.kept fun b o e => Heap.get?_push_of_some _ (keep b o e)) (.inl rfl) ⟨_, ctv, Heap.get?_push_size _ rfl⟩ (I.hok.fresh big) (off _ big) co
  · have hn : codeAmong pos ps.toList = none := by
      cases e : codeAmong pos ps.toList with
      | none => rfl
      | some cv => exact (hc ⟨cv, e⟩).elim
    refine PySem.W.kla_makeFunction (mg := X.mg) (c := c) (P := P) (ps := ps) (closure_ok hfree) I.ok.glob (I.mod.glob.keeps I.bk) hcode (TB.code.keeps I.bk) obP ht hn TB.gP (TB.bm.keeps I.bk) fun c' ctv h' tk keep big lt rec tb => ?_
    obtain ⟨c2, oc, vs, t, e2, g1, g2, g3⟩ := rec
    cases e2
    have big' : s.heap.objs.size ≤ h'.objs.size := Nat.le_trans big (Nat.le_of_lt lt)
    have nC : H c' = none := I.hok.fresh big
    have I1 := inv_table (t' := tk) (more := #[rawInt pos.line, rawInt pos.col, .ref c']) (h' := h'.push (PySem.W.kla_obj "<lambda>" (X.env.qual ++ "<lambda>") params body scope (cloFrom X.env.cells scope.names []) ((X.mg "__name__").getD .none) c' ctv)) I hP
      (fun b o hb e => Heap.get?_push_of_some _ (keep b o hb e)) (Heap.get?_push_of_some _ tb) big ⟨oc, vs, t, Heap.get?_push_of_some _ g1, g2, g3⟩
    refine h _ c' _ _ I1 (.inr ⟨ps, pos.line, pos.col, c', hP, ht, nC, hnm, rfl⟩) ⟨_, ctv, Heap.get?_push_size _ rfl⟩ ?_ (off _ big') upd_same
    rw [upd_ne (Nat.ne_of_gt lt), upd_ne (Nat.ne_of_gt (Nat.lt_of_lt_of_le (Heap.lt_size obP) big'))]
    exact I.hok.fresh big'
end
end BF

set_option maxRecDepth 100000
set_option maxHeartbeats 4000000
namespace BF
open PySem PySem.Spec L2 LamX NdefX
open PyProof.Rows hiding St
set_option autoImplicit false
/-- what the lambda captures: frozen data of these slots -/
def capt : List Nat → En → Option (List PV)
  | [], _ => some []
  | j :: js, ρ => match ρ[j]? with
    | some (.val x) => (match capt js ρ with
      | some cs => some (x :: cs)
      | none => none)
    | _ => none
theorem capt_ok {G : Gm} {σ0 : St} {I H : Hp} {σ : St} {ρ : En} (r : SR G σ0 I H σ ρ) : ∀ {js : List Nat} {cs : List PV}, capt js ρ = some cs → ∃ cv : List V, js.map (slotAt σ) = cv.map some ∧ RpL G I cs cv
  | [], _, e => by cases e; exact ⟨[], rfl, .nil⟩
  | j :: js, cs, e => by
    unfold capt at e
    split at e
    · rename_i x ej
      cases ec : capt js ρ with
      | none => rw [ec] at e; cases e
      | some cs' =>
        rw [ec] at e
        cases e
        obtain ⟨cv, h1, h2⟩ := capt_ok r ec
        obtain ⟨v, h3, h4⟩ := r.val j x ej
        exact ⟨v :: cv, by rw [List.map_cons, List.map_cons, h1, slotAt_of h3], .cons h4 h2⟩
    · cases e
/-- the mirror -/
def crsM (c : Str) (js : List Nat) (Bl : PX) (x : PV) (ρ : En) : Res (Slot × En) := match capt js ρ with
  | some cs => courseR (stepL Bl cs) x >>= fun r => .ok (.own (.ins c [("rows", .lst r.1), ("ahead", .int r.2), ("lap", .int (r.1.length - r.2))]), ρ)
  | none => .stuck
def eCourse (c : Str) (js : List Nat) (E Bl : PX) : PX := fun ρ => E ρ >>= fun p => crsM c js Bl p.1.pv p.2
/-- the body of such a class's __init__ -/
structure CrsB (bI : List Stmt) : Prop where
  ex : ∃ (p1 p2 p3 p4 p5 p6 p7 p8 p9 p10 p11 p12 p13 p14 p15 p16 p17 p18 p19 p20 p21 p22 p23 p24 p25 p26 p27 p28 p29 p30 p31 p32 p33 p34 p35 p36 p37 p38 p39 p40 p41 p42 p43 p44 p45 p46 p47 p48 p49 : Pos), (p24.endLine == p26.line) = true ∧
    bI = [.Assign [.Attribute (.Name "self" p1) "rows" p2] (.List [] p3) p4,
        .Assign [.Name "seen" p5] (.Dict [] [] p6) p7,
        .Assign [.Name "here" p8] (.Name "first" p9) p10,
        .While (.Compare (.Name "here" p11) [.NotIn] [.Name "seen" p12] p13) [
          .Assign [.Subscript (.Name "seen" p14) (.Name "here" p15) p16] (.Call (.Name "len" p17) [.Attribute (.Name "self" p18) "rows" p19] [] p20) p21,
          .Expr (.Call (.Attribute (.Attribute (.Name "self" p22) "rows" p23) "append" p24) [.Name "here" p25] [] p26) p27,
          .Assign [.Name "here" p28] (.Call (.Name "behind" p34) [.Name "here" p35] [] p36) p29] [] p30,
        .Assign [.Attribute (.Name "self" p31) "ahead" p32] (.Subscript (.Name "seen" p33) (.Name "here" p37) p38) p39,
        .Assign [.Attribute (.Name "self" p40) "lap" p41] (.BinOp (.Call (.Name "len" p42) [.Attribute (.Name "self" p43) "rows" p44] [] p45) .Sub (.Attribute (.Name "self" p46) "ahead" p47) p48) p49]
/-- its scope -/
structure CrsS (sI : Scope) : Prop where
  sc : FnScope ["self", "first", "behind", "seen", "here"] ["self", "first", "behind"] sI
  v0 : sI.names.lookup ("self" : Str) = some .local
  v1 : sI.names.lookup ("first" : Str) = some .local
  v2 : sI.names.lookup ("behind" : Str) = some .local
  v3 : sI.names.lookup ("seen" : Str) = some .local
  v4 : sI.names.lookup ("here" : Str) = some .local
  gl : sI.names.lookup ("len" : Str) = some .globalImplicit
section
variable {X : Cx} {C : Dc} {T : List Nat}
theorem de_course {x c q : Str} {p lpos pos : Pos} {e : Expr} {params pI : Arguments} {body : Expr} {bI : List Stmt} {scope sI : Scope} {E Bl : PX} {js : List Nat} {fr Nl : List Str} {y : Str} {fi cc P : Addr} {fdi : FuncData} {k : Nat}
    (he : DE X C T e E) (M : Mk X.K (C.G.cls c) fi) (F : FunD X.K "__init__" "Course.__init__" pI bI sI [] [] fi fdi) (hb : Binds X.K fdi ["self", "first", "behind"] []) (SI : CrsS sI) (BI : CrsB bI) (cf : CourseF X.K (C.G.cls c)) (hr : Room (k + 3) X.A)
    (hm : X.mg x = some (.ref (C.G.cls c))) (ml : X.mg "len" = none) (TB : TabB X.base X.mg cc P) (hcode : X.env.code = .ref cc) (hP : P ∈ C.G.tabs) (hq : X.env.qual ++ "<lambda>" = q) (hnm : nmT lpos.line lpos.col = q) (hdef : defaultsOf params X.env = ([], []))
    (hfree : ∀ y ∈ scope.names, y.2 = .free → X.env.scope.names.lookup y.1 = some .cell ∨ X.env.scope.names.lookup y.1 = some .free) (hfr : ∀ y ∈ fr, (y, NameKind.free) ∈ scope.names) (hjs : js.map (fun j => X.N[j]?) = fr.map some)
    (S : NScope Nl [y] fr scope) (hn : Nl.length = 1 + js.length)
    (hbind : ∀ (c' : Addr) (pm ctv : Value) (us : List Value), us.length = [y].length → bindArgs (PySem.W.kla_fn "<lambda>" q params body scope (cloFrom X.env.cells scope.names []) pm (.ref c') ctv) ⟨us, []⟩ = pure ([y].zip us))
    (hbody : ∀ (c' : Addr) (A : Around) (outer : List Env) (s : Shared) (H : Hp) (f : Addr) (vs : List V) (ws : List (Option V)) (Ex : XK), Room k (A.deeper (envF ⟨"<lambda>", q, params, [], scope, cloFrom X.env.cells scope.names [], c'⟩ f s.heap.objs.size)) →
      DE (ncx (L2.CX X.prog X.w) X.prog X.w X.K X.mg X.base Nl ⟨"<lambda>", q, params, [], scope, cloFrom X.env.cells scope.names [], c'⟩ f A outer s H Ex) ⟨C.G, startF Nl vs ws, fun c d _ H => Ex c d H⟩ [] body Bl)
    (hg : Gl X x := by rfl) (hdb : (x == ("__debug__" : Str)) = false := by decide) (hst : starEach [e, .Lambda params body scope lpos] X.env = (false, eval e X.env) :: starEach [.Lambda params body scope lpos] X.env := by rfl)
    (hpl : (backTo pos (starEach [.Lambda params body scope lpos] X.env)).any (·.1) = false := by rfl) :
    DE X C T (.Call (.Name x p) [e, .Lambda params body scope lpos] [] pos) (eCourse c js E Bl) := by
  refine ⟨fun pins s σ H Q I h => ?_⟩
  obtain ⟨Iz, ρ, sr, k0⟩ := h
  have hE : tX C.G C.σ0 C.W T E σ H (fun v H1 => ∃ I1 ρ1 pv, XE C.G C.σ0 T σ Iz H ρ I1 H1 ρ1 ∧ Rp C.G I1 pv v ∧ tK C.G C.σ0 C.W T σ Iz H ρ Q (crsM c js Bl pv ρ1)) :=
    tK.next sr (.refl sr) k0 (fun s ρ1 I1 H1 v x1 _ _ p k1 => ⟨I1, ρ1, s.pv, x1, p, k1⟩) fun _ _ => rfl
  refine wpAny_Call_Name_kw (ld_glob I hg hm (PySem.W.callWith_K (h₀ := X.base) I.ok.mod.kin M.kp ?_ hst hpl) hdb)
  rw [hst]
  show wpAny _ _ (spliced ((false, eval e X.env) :: backTo pos (starEach [.Lambda params body scope lpos] X.env))) _ _ s
  refine Calls.spliced_cons (thn (he.run pins s σ H _ I hE) fun u s1 ⟨v, H1, J1, r1, I1, ρ1, pv, x1, p1, k1⟩ => ?_)
  show wpAny _ _ (spliced ((false, eval (.Lambda params body scope lpos) X.env) :: backTo pos (starEach [] X.env))) _ _ s1
  have hfree2 : ∀ y ∈ scope.names, y.2 = .free → ∃ c, X.env.cells.lookup y.1 = some c := fun y hy e => (hfree y hy e).elim (fun z => J1.ok.has _ (.inl z)) fun z => J1.ok.has _ (.inr z)
  obtain ⟨tm, iP⟩ := x1.sr.tab P hP
  refine Calls.spliced_cons (lam_new J1 TB hcode hq hnm tm hdef hfree2 fun f c' H2 s2 J2 ts lf hfn hfr2 hco => ?_)
  refine Calls.spliced_nil ⟨J2.kIn, ?_⟩
  show wpAny _ _ (call (.ref (C.G.cls c)) [u, .ref f]) _ _ _
  -- what is captured
  have x2 := x1.ext (ts.ext x1.same iP)
  have J3 := Inv.made (C := C.G.cls c) J2
  have hd0 : H2 s2.heap.objs.size = none := J2.hok.fresh (Nat.le_refl _)
  have ha0 : H2 (s2.heap.objs.size + 1) = none := J2.hok.fresh (Nat.le_succ _)
  have hda : s2.heap.objs.size ≠ s2.heap.objs.size + 1 := Nat.ne_of_lt (Nat.lt_succ_self _)
  obtain ⟨pm, ctv, lo⟩ := lf
  have flt : f < s2.heap.objs.size := Heap.lt_size lo
  cases ec : capt js ρ1 with
  | none => unfold crsM at k1; rw [ec] at k1; exact k1.elim
  | some cs =>
    unfold crsM at k1
    rw [ec] at k1
    dsimp only at k1
    cases er : courseR (stepL Bl cs) pv with
    | exc z =>
      exfalso
      have nox : ∀ (f : PV → Res PV) (n : Nat) (xs : List PV) (x : PV), crun f n xs x ≠ .exc z := by
        intro f n
        induction n with
        | zero => intro xs x h; cases h
        | succ n ih =>
          intro xs x h
          unfold crun at h
          split at h
          · split at h
            · cases h
            · split at h
              · split at h
                · exact ih _ _ h
                · cases h
              · cases h
          · cases h
      exact nox _ _ _ _ er
    | stuck => rw [er] at k1; exact k1.elim
    | ok r =>
      obtain ⟨rows, j⟩ := r
      rw [er] at k1
      obtain ⟨cv, ws, lc⟩ := capt_ok x2.sr ec
      have hlc : cs.length = js.length := by
        have e1 := lc.length
        have e2 := congrArg List.length ws
        rw [List.length_map, List.length_map] at e2
        omega
      have C3 : CellsAt (cloFrom X.env.cells scope.names []) fr (js.map (slotAt σ)) ((s2.heap.push PySem.W.emptyDict).push (PySem.W.instObj (C.G.cls c) s2.heap.objs.size)) (upd (upd H2 s2.heap.objs.size (.own (s2.heap.objs.size + 1))) (s2.heap.objs.size + 1) (.ins (C.G.cls c) s2.heap.objs.size [])) :=
        cells_of J3 (Caps.made J3.ok hfree hfr hjs)
      obtain ⟨oc, od, dV, kV, doc, pmI, an, cdv, ct, osl, rfl, lk, hcd, _, _⟩ := F.ex
      obtain ⟨p1', p2, p3, p4, p5, p6, p7, p8, p9, p10, p11, p12, p13, p14, p15, p16, p17, p18, p19, p20, p21, p22, p23, p24, p25, p26, p27, p28, p29, p30, p31, p32, p33, p34, p35, p36, p37, p38, p39, p40, p41, p42, p43, p44, p45, p46, p47, p48, p49, hline, rfl⟩ := BI.ex
      have rr : Vals [V.ref (s2.heap.objs.size + 1), v, V.ref f] [Value.ref (s2.heap.objs.size + 1), u, .ref f] := .cons rfl (.cons r1 (.cons rfl .nil))
      have lok : ∀ (c' : Addr), LOk X.prog X.w X.K X.mg X.base (L2.CX X.prog X.w) (k + 1) ⟨"<lambda>", q, params, [], scope, cloFrom X.env.cells scope.names [], c'⟩ body [y] fr (spL C.G Nl 1 Bl) := fun c' => lok_data S (hbind c') (hbody c')
      refine wpAny_call (make_map (f := fi) J2.kIn M.makes M.init (beq_iff_eq.mp M.fn) (codeAny_mono (run_ofS (CX := L2.CX X.prog X.w) (k := k + 1) (N := ["self", "first", "behind", "seen", "here"]) (ps := ["self", "first", "behind"]) (us := [Value.ref (s2.heap.objs.size + 1), u, .ref f]) (vs := [V.ref (s2.heap.objs.size + 1), v, V.ref f])
        (Q := fun v H3 => v = .non ∧ Q (.ref (s2.heap.objs.size + 1)) H3) (E := fun c d H => Wn c d σ H) lk hcd SI.sc (hr.make _ _ _) (J3.env0.make _ _ _) (hb _ [Value.ref (s2.heap.objs.size + 1), u, .ref f] J3.kIn rfl) rr rfl fun hr' => ?_) fun res s' hq' => ?_))
      · have H3e : ∀ b, b ≠ s2.heap.objs.size → b ≠ s2.heap.objs.size + 1 → upd (upd H2 s2.heap.objs.size (.own (s2.heap.objs.size + 1))) (s2.heap.objs.size + 1) (.ins (C.G.cls c) s2.heap.objs.size []) b = H2 b := fun b h1 h2 => by rw [upd_ne h2, upd_ne h1]
        have old3 : ∀ b o, H2 b = some o → upd (upd H2 s2.heap.objs.size (.own (s2.heap.objs.size + 1))) (s2.heap.objs.size + 1) (.ins (C.G.cls c) s2.heap.objs.size []) b = some o := fun b o e => by
          rw [H3e b (ne_of_none e hd0) (ne_of_none e ha0)]; exact e
        have T0 : TabsE I1 H2 I1 (upd (upd H2 s2.heap.objs.size (.own (s2.heap.objs.size + 1))) (s2.heap.objs.size + 1) (.ins (C.G.cls c) s2.heap.objs.size [])) := (TabsE.new hd0).trans (TabsE.new (by rw [upd_ne (Ne.symm hda)]; exact ha0))
        have s12 : Same I1 H2 := x2.same
        have s13 : Same I1 (upd (upd H2 s2.heap.objs.size (.own (s2.heap.objs.size + 1))) (s2.heap.objs.size + 1) (.ins (C.G.cls c) s2.heap.objs.size [])) := fun b o e => old3 b o (s12 b o e)
        have fd : f ≠ s2.heap.objs.size := Nat.ne_of_lt flt
        have fa : f ≠ s2.heap.objs.size + 1 := Nat.ne_of_lt (Nat.lt_succ_of_lt flt)
        have hcall := fun (p34 p35 p36 : Pos) => pe_lcall (X := cxOf (L2.CX X.prog X.w) X.prog X.w X.K X.mg X.base ["self", "first", "behind", "seen", "here"] "Course.__init__" sI fi cdv (X.A.under (.builtin "type.__call__" ⟨Value.ref (C.G.cls c) :: [u, .ref f], []⟩)) X.stack { s2 with heap := (s2.heap.push PySem.W.emptyDict).push (PySem.W.instObj (C.G.cls c) s2.heap.objs.size) }
            (upd (upd H2 s2.heap.objs.size (.own (s2.heap.objs.size + 1))) (s2.heap.objs.size + 1) (.ins (C.G.cls c) s2.heap.objs.size [])) (fun c d H => Wn c d σ H)) (x := "behind") (i := 2) (p := p34) (pos := p36) (E := fun _ _ _ _ => False)
            (lok c') hr' (Nat.le_refl _) ⟨pm, ctv, Heap.get?_push_of_some _ (Heap.get?_push_of_some _ lo)⟩ (by rw [← hfn]; exact H3e f fd fa) hfr2 rfl C3 (fun σ => passAt tk0 σ) rfl (.inl SI.v2) (pa_cons (pe_var (pos := p35) (i := 4) (x := "here") rfl (.inl SI.v4)) pa_nil)
        obtain ⟨t, ht, go⟩ := course_body (Z := cxOf (L2.CX X.prog X.w) X.prog X.w X.K X.mg X.base ["self", "first", "behind", "seen", "here"] "Course.__init__" sI fi cdv (X.A.under (.builtin "type.__call__" ⟨Value.ref (C.G.cls c) :: [u, .ref f], []⟩)) X.stack { s2 with heap := (s2.heap.push PySem.W.emptyDict).push (PySem.W.instObj (C.G.cls c) s2.heap.objs.size) }
            (upd (upd H2 s2.heap.objs.size (.own (s2.heap.objs.size + 1))) (s2.heap.objs.size + 1) (.ins (C.G.cls c) s2.heap.objs.size [])) (fun c d H => Wn c d σ H)) (c := c) (G := C.G) (Nl := Nl) (Bl := Bl) (F := ⟨"<lambda>", q, params, [], scope, cloFrom X.env.cells scope.names [], c'⟩) (f := f) (ws := js.map (slotAt σ)) (p1 := p1') (p2 := p2) (p3 := p3) (p4 := p4) (p5 := p5) (p6 := p6) (p7 := p7) (p8 := p8) (p9 := p9) (p10 := p10) (p11 := p11) (p12 := p12) (p13 := p13) (p14 := p14) (p15 := p15) (p16 := p16) (p17 := p17) (p18 := p18) (p19 := p19) (p20 := p20) (p21 := p21) (p22 := p22) (p23 := p23) (p24 := p24) (p25 := p25) (p26 := p26) (p27 := p27) (p28 := p28) (p29 := p29) (p30 := p30) (p31 := p31) (p32 := p32) (p33 := p33) (p34 := p34) (p35 := p35) (p36 := p36) (p37 := p37) (p38 := p38) (p39 := p39) (p40 := p40) (p41 := p41) (p42 := p42) (p43 := p43) (p44 := p44) (p45 := p45) (p46 := p46) (p47 := p47) (p48 := p48) (p49 := p49) rfl (.inl SI.v0) (.inl SI.v1) (.inl SI.v3) (.inl SI.v4) SI.v3 SI.v4 SI.gl ml pass_own (Nat.lt_of_le_of_lt (Nat.add_le_add_left (by decide) _) hr'.units) cf hline (hcall p34 p35 p36)
        refine ⟨t, ht, ?_⟩
        refine go (Q := fun v H3 => v = .non ∧ Q (.ref (s2.heap.objs.size + 1)) H3) (I0 := I1) (dx := s2.heap.objs.size) (cs := cs) (cv := cv) s13 upd_same (same_none s12 ha0) (T0.tabs x2.sr.tab) p1 lc ws (by omega) (by rw [H3e c' (ne_of_none hco hd0) (ne_of_none hco ha0)]; exact hco) rfl rfl rfl rfl er fun I' H' o g1 g2 g3 g4 g5 g6 g7 g8 => ⟨rfl, ?_⟩
        · have dm3 : ∀ b, H' b = none → H2 b = none := fun b e => by
            have z0 := g4 b e
            cases z : H2 b with
            | none => rfl
            | some o => rw [old3 b o z] at z0; cases z0
          have x3 : Ext I1 H2 I' H' := ⟨g1, g2, fun b o nt e n => g5 b o nt (old3 b o e) n (ne_of_none e ha0), dm3, T0.trans g3⟩
          exact k1 I' H' _ (x2.ext x3) ⟨_, o, rfl, x2.dom _ ha0, g6, g7, g8⟩
      · match res, hq' with
        | .error e, hq' => exact passAt tk0 σ pins _ _ e s' J3 hq'
        | .ok (.ret u), hq' =>
          obtain ⟨v, H', J', rv, ev, q3⟩ := J3.after hq'
          subst ev
          exact ⟨rv, ⟨V.ref (s2.heap.objs.size + 1), H', J', rfl, q3⟩⟩
end
end BF

set_option maxRecDepth 100000
set_option maxHeartbeats 4000000
namespace BF
open PySem PySem.Spec L2 LamX NdefX
open PyProof.Rows hiding St
set_option autoImplicit false
/-- nothing but the script and the tables is tracked -/
def OnlyT (T : List Addr) (H : Hp) : Prop := ∀ b, H b = none ∨ (b ∈ T ∧ H b = some (.tbl #[])) ∨ ∃ o xs, H b = some (.frz o (.lst xs))
theorem top_callT {P : Program} {w : World} {K : PySem.W.Frag} {mg mb : Str → Option Value} {CX : CXT} {k : Nat} {fa p : Addr} {fd : FuncData} {x : Str} {sp : Sp} {t : Shared} {us : List Value} {js : List Int} {cs : List (Addr × Addr)}
    (kin : K.In t.heap) (glo : t.heap.Ns mainGlobals mg) (blt : t.heap.Ns builtinsNs mb) (bb : ∀ y : Str, y ≠ "__name__" → mb y = bootBuiltins y) (lim : t.heap.NoLimit) (gens : t.gens = #[])
    (tabs : ∀ q ∈ cs, t.heap.get? q.2 = some { cls := .none, data := .fields #[] }) (offK : ∀ q ∈ cs, K.lookup q.2 = none) (heads : ∀ q ∈ cs, PySem.W.codeHdIn K q.1 q.2 = true)
    (mainB : ∃ (bm : Addr) (ob : Obj), mg "__builtins__" = some (.ref bm) ∧ bm ≠ builtinsNs ∧ t.heap.get? bm = some ob ∧ ob.cls = .type "module" ∧ ob.dict = some builtinsNs ∧ ob.data = .plain)
    (hp : t.heap.get? p = some { cls := .type "list", data := .seq us.toArray }) (hj : IntsAre us js) (short : js.length ≤ sizeLine) (room : Room k callerA)
    (F : ∀ b0 : Heap, K.In b0 → b0.Ns mainGlobals mg → (∀ q ∈ cs, TabB b0 mg q.1 q.2) → FnB P w K mg b0 CX k fa fd [x] sp) (bnd : ∀ (r : Shared) (u : Value), BindsTo r fd ⟨[u], []⟩ [(x, u)])
    (hsp : ∀ H : Hp, (∀ q ∈ cs, H q.2 = some (.tbl #[])) → SqL K H p (js.map V.int) → sp [.ref p] H (fun v _ => v = .bl true) fun _ _ _ => False)
    (noX : ∀ H e t', CX [] H t (fun _ _ _ => False) e t' → False) :
    codeAny (model P w) callerA (.call (.ref fa) ⟨[.ref p], []⟩)
      (fun r t' => r = .ok (.ret (.bool true)) ∧ OldK t.heap t'.heap ∧ t'.os = t.os ∧ AllBare t'.gens) t := by
  have vals := vals_ints hj
  have lenU := hj.length
  let T := cs.map (·.2)
  have tabAt : ∀ c, c ∈ T → t.heap.get? c = some { cls := .none, data := .fields #[] } := by
    intro c hc
    obtain ⟨q, hq, rfl⟩ := List.mem_map.mp hc
    exact tabs q hq
  have pT : p ∉ T := by
    intro h
    have e := tabAt p h
    rw [hp] at e
    cases e
  have main : ∀ H : Hp, OnlyT T H → (∀ c, c ∈ T → H c = some (.tbl #[])) → SqL K H p (js.map V.int) → HOk P w H t.heap →
      (∀ c, H c ≠ none → c = p ∨ c ∈ T) → (H p ≠ none → K.lookup p = none) →
      codeAny (model P w) callerA (.call (.ref fa) ⟨[.ref p], []⟩)
        (fun r t' => r = .ok (.ret (.bool true)) ∧ OldK t.heap t'.heap ∧ t'.os = t.os ∧ AllBare t'.gens) t := by
    intro H only tbl seq hok alone free
    have hid : ∀ {c : Addr} {o : Obj}, t.heap.get? c = some o → H c = none → (hidT t.heap H).get? c = some o := fun e z => hidT_get e z
    have outside : ∀ {c : Addr} {o : Obj}, t.heap.get? c = some o → (∀ vs n, o.data ≠ .seq vs n) → o.data ≠ .fields #[] → H c = none := by
      intro c o e n1 n2
      by_cases z : H c = none
      · exact z
      · rcases alone c z with ec | ec
        · subst ec
          rw [hp] at e
          cases e
          exact (n1 _ _ rfl).elim
        · rw [tabAt c ec] at e
          cases e
          exact (n2 rfl).elim
    have ofD : ∀ {c : Addr} {o : Obj} {en : Array DictEntry} {ep : Nat}, t.heap.get? c = some o → o.data = .dict en ep → H c = none := by
      intro c o en ep e dd
      refine outside e ?_ ?_
      · intro vs n z; rw [dd] at z; cases z
      · intro z; rw [dd] at z; cases z
    have ns : ∀ {c : Addr} {m : Str → Option Value}, t.heap.Ns c m → (hidT t.heap H).Ns c m := by
      rintro c m ⟨o, en, ep, e, dd, r⟩
      exact ⟨o, en, ep, hid e (ofD e dd), dd, r⟩
    have kin' : K.In (hidT t.heap H) := by
      intro c o e
      refine hid (kin c o e) ?_
      by_cases z : H c = none
      · exact z
      · rcases alone c z with ec | ec
        · subst ec
          rw [free z] at e
          cases e
        · obtain ⟨q, hq, rfl⟩ := List.mem_map.mp ec
          rw [offK q hq] at e
          cases e
    have lim' : (hidT t.heap H).NoLimit := by
      obtain ⟨mc, l1, l2⟩ := lim
      exact ⟨mc, ns l1, l2⟩
    have md : Mod K mg (hidT t.heap H) := ⟨kin', ns glo, ⟨mb, ns blt, bb⟩, lim'⟩
    have TB : ∀ q ∈ cs, TabB (hidT t.heap H) mg q.1 q.2 := by
      intro q hq
      refine ⟨PySem.W.codeHd_of_K kin' (heads q hq), ?_, ?_⟩
      · obtain ⟨bm, ob, b1, b2, b3, b4, b5, b6⟩ := mainB
        have nG : bm ≠ mainGlobals := by
          intro z
          obtain ⟨o, en, ep, e, dd, _⟩ := glo
          rw [z, e] at b3
          cases b3
          rw [dd] at b6
          cases b6
        have nP : bm ≠ q.2 := by
          intro z
          rw [z, tabs q hq] at b3
          cases b3
          cases b6
        refine ⟨bm, ob, b1, b2, nG, nP, hid b3 (outside b3 ?_ ?_), b4, b5, b6⟩
        · intro vs n z; rw [b6] at z; cases z
        · intro z; rw [b6] at z; cases z
      · intro z
        obtain ⟨o, en, ep, e, dd, _⟩ := glo
        rw [z, tabs q hq] at e
        cases e
        cases dd
    have env : Env0 P w K mg (hidT t.heap H) callerA [] t H := by
      refine ⟨rfl, md, fun c o e => of_hidT e, Nat.le_of_eq (hidT_size _ _), trivial, ?_, hok, .of_eq gens⟩
      intro c hc
      cases hc
    have go := (F _ kin' (ns glo) TB).run callerA [] t H ⟨[.ref p], []⟩ [.ref p] [.ref p] _ _ room rfl env (bnd t (.ref p)) (.cons rfl .nil) (hsp H (fun q hq => tbl _ (List.mem_map.mpr ⟨q, hq, rfl⟩)) seq)
    refine codeAny_mono go ?_
    intro r t' z
    match r, z with
    | .error e, z => exact (noX H e t' z).elim
    | .ok .next, z => exact z.elim
    | .ok .brk, z => exact z.elim
    | .ok .cont, z => exact z.elim
    | .ok (.ret u), ⟨v, H', os, bare, un, hok', rv, q⟩ =>
      have ev : v = .bl true := q
      subst ev
      have eu : u = Value.bool true := rv
      subst eu
      have key : ∀ c o, c ∉ T → t.heap.get? c = some o → t'.heap.get? c = some o := by
        intro c o nT e
        by_cases z : H c = none
        · exact un.keep c o e z (fun m => by cases m) (by simp)
        · rcases only c with z2 | ⟨z2, _⟩ | ⟨ob, xs, z2⟩
          · exact (z z2).elim
          · exact (nT z2).elim
          · have q3 := un.frzs c ob _ z2
            obtain ⟨e1, _⟩ := hok c _ z2
            obtain ⟨e2, _⟩ := hok' c _ q3
            rw [e] at e1
            cases e1
            exact e2
      have grown : ∀ c, c ∈ T → ∃ more : Array Value, t'.heap.get? c = some { cls := .none, data := .fields more } := by
        intro c hc
        obtain ⟨more, z⟩ := un.tbls c #[] (tbl c hc)
        exact ⟨_, hok' c _ z⟩
      refine ⟨rfl, ⟨?_, ?_⟩, os, bare⟩
      · intro c o e
        by_cases hc : c ∈ T
        · obtain ⟨more, hm⟩ := grown c hc
          have e0 := tabAt c hc
          rw [e0] at e
          cases e
          obtain ⟨q, hq, rfl⟩ := List.mem_map.mp hc
          exact .inr (.inl ⟨((PySem.W.codeHd_of_K kin (heads q hq)).tab (tabs q hq)).isCodeTable, rfl, #[], more, rfl, by rw [Array.empty_append]; exact hm⟩)
        · exact .inl (key c o hc e)
      · intro c o e
        by_cases hc : c ∈ T
        · obtain ⟨more, hm⟩ := grown c hc
          exact ⟨_, hm⟩
        · exact ⟨o, key c o hc e⟩
  cases lk : K.lookup p with
  | some o =>
    have e := kin p o lk
    rw [hp] at e
    cases e
    let H0 : Hp := fun b => if b ∈ T then some (.tbl #[]) else none
    have inT : ∀ c, c ∈ T → H0 c = some (.tbl #[]) := fun c hc => if_pos hc
    have offT : ∀ c, c ∉ T → H0 c = none := fun c hc => if_neg hc
    refine main H0 ?_ inT (.inr ⟨_, us.toArray, _, lk, rfl, rfl, rfl, ?_, by simpa using vals⟩) ?_ ?_ (fun z => absurd (offT p pT) z)
    · intro c
      by_cases hc : c ∈ T
      · exact .inr (.inl ⟨hc, inT c hc⟩)
      · exact .inl (offT c hc)
    · rw [List.size_toArray, lenU]; exact short
    · intro c u z
      by_cases hc : c ∈ T
      · rw [inT c hc] at z; cases z; exact tabAt c hc
      · rw [offT c hc] at z; cases z
    · intro c z
      by_cases hc : c ∈ T
      · exact .inr hc
      · exact absurd (offT c hc) z
  | none =>
    let ob : Obj := { cls := .type "list", data := .seq us.toArray }
    let H0 : Hp := fun b => if b ∈ T then some (.tbl #[]) else if b = p then some (.frz ob (.lst (js.map V.int))) else none
    have inT : ∀ c, c ∈ T → H0 c = some (.tbl #[]) := fun c hc => if_pos hc
    have atP : H0 p = some (.frz ob (.lst (js.map V.int))) := (if_neg pT).trans (if_pos rfl)
    have off : ∀ c, c ∉ T → c ≠ p → H0 c = none := fun c h1 h2 => (if_neg h1).trans (if_neg h2)
    refine main H0 ?_ inT (.inl (.inr ⟨ob, atP⟩)) ?_ ?_ (fun _ => lk)
    · intro c
      by_cases hc : c ∈ T
      · exact .inr (.inl ⟨hc, inT c hc⟩)
      · by_cases n : c = p
        · subst n; exact .inr (.inr ⟨_, _, atP⟩)
        · exact .inl (off c hc n)
    · intro c u z
      by_cases hc : c ∈ T
      · rw [inT c hc] at z; cases z; exact tabAt c hc
      · by_cases n : c = p
        · subst n
          rw [atP] at z
          cases z
          exact ⟨hp, by rw [List.length_map]; exact short, us, _, vals, hp⟩
        · rw [off c hc n] at z; cases z
    · intro c z
      by_cases hc : c ∈ T
      · exact .inr hc
      · by_cases n : c = p
        · exact .inl n
        · exact absurd (off c hc n) z
/-- a law with tables -/
theorem walk_T {l : PySem.W.OpenLaw} {n k : Nat} {q : Program} {loose : List Str} {XP : (Str → Option Value) → Heap → Prop} {YP : World → Heap → Prop} {d : DefRec} {CX : World → CXT} {x : Str}
    (hn : l.most = some n) (hn2 : n ≤ sizeLine) (hdf : d.params.defaults = []) (room : Room k callerA)
    (F : ∀ (w : World) (mg : Str → Option Value) (fa : Addr) (h : Heap), YP w h → h.Ns mainGlobals mg → mg d.name = some (.ref fa) →
      ∃ (K : PySem.W.Frag) (fd : FuncData) (sp : Sp) (cs : List (Addr × Addr)), K.In h ∧ (∀ q ∈ cs, h.get? q.2 = some { cls := .none, data := .fields #[] }) ∧ (∀ q ∈ cs, K.lookup q.2 = none) ∧ (∀ q ∈ cs, PySem.W.codeHdIn K q.1 q.2 = true) ∧ (∀ (s : Shared) (u : Value), BindsTo s fd ⟨[u], []⟩ [(x, u)]) ∧
        (∀ (H : Hp) (a : Addr) (js : List Int), js.length ≤ n → (∀ j ∈ js, Builtin.Int.intBits j ≤ 1048576) → (∀ q ∈ cs, H q.2 = some (.tbl #[])) → SqL K H a (js.map V.int) → sp [.ref a] H (fun v _ => v = .bl true) fun _ _ _ => False) ∧
        ∀ b0 : Heap, K.In b0 → b0.Ns mainGlobals mg → (∀ q ∈ cs, TabB b0 mg q.1 q.2) → FnB l.prog w K mg b0 (CX w) k fa fd [x] sp)
    (noX : ∀ (w : World) (H : Hp) (s : Shared) (e : Value) (s' : Shared), CX w [] H s (fun _ _ _ => False) e s' → False) :
    PySem.W.WalkO q loose XP YP l.row.toRowW d [] (fun f vs => PySem.call f vs) := by
  refine Att.attach_callB hn hdf ?_
  intro w s₀ t mg mb fa o pm cd doc p us js G Y ho hd hcd hmg hobj hints hlen bits hg
  obtain ⟨K, fd, sp, cs, kin, t1, t2, t3, bnd, hsp, hF⟩ := F w mg fa _ Y G.T.g hmg
  exact top_callT kin G.T.g G.T.b G.T.builtins G.T.nolimit hg t1 t2 t3 G.T.bmain hobj hints (Nat.le_trans hlen hn2) room hF bnd (fun H hT hS => hsp H p js hlen bits hT hS) fun H e t' => noX w H t e t'
def obsY (n : Nat) (fa : List He.Fa) (fn : List He.DefD) (cs : CsX) (tf : List He.Defn) (g : Addr → Option Obj) : He.AlD × Bool := (He.obsD fa fn (He.frT g (He.asD g n)), ownA (He.frT g (He.asD g n)) cs && He.tabsB g tf (He.frT g (He.asD g n)))
structure SaysY (fa : List He.Fa) (fn : List He.DefD) (cs : CsX) (tf : List He.Defn) (h : Heap) (K : PySem.W.Frag) : Prop where
  d : He.SaysD fa fn K
  own : ownA K cs = true
  hd : ∀ p ∈ tf, PySem.W.codeHdIn K (He.cT K p).1 (He.cT K p).2 = true
  out : ∀ p ∈ tf, K.lookup (He.cT K p).2 = none
  empty : ∀ p ∈ tf, h.get? (He.cT K p).2 = some { cls := .none, data := .fields #[] }
theorem saysY_of {n : Nat} {fa : List He.Fa} {fn : List He.DefD} {cs : CsX} {tf : List He.Defn} {h : Heap} (e : obsY n fa fn cs tf h.get? = (He.valD fn, true)) : SaysY fa fn cs tf h (He.frT h.get? (He.asD h.get? n)) := by
  obtain ⟨e1, e2⟩ := Prod.mk.inj e
  rw [Bool.and_eq_true] at e2
  obtain ⟨e2, e3⟩ := e2
  have at_ : ∀ p ∈ tf, PySem.W.codeHdIn (He.frT h.get? (He.asD h.get? n)) (He.cT (He.frT h.get? (He.asD h.get? n)) p).1 (He.cT (He.frT h.get? (He.asD h.get? n)) p).2 = true ∧ ∃ o, h.get? (He.cT (He.frT h.get? (He.asD h.get? n)) p).2 = some o ∧ He.emptyTab o = true := by
    intro p hp
    have z := List.all_eq_true.mp e3 p hp
    rw [Bool.and_eq_true] at z
    obtain ⟨z1, z2⟩ := z
    refine ⟨z1, ?_⟩
    cases q : h.get? (He.cT (He.frT h.get? (He.asD h.get? n)) p).2 with
    | none => rw [q] at z2; cases z2
    | some o => rw [q] at z2; exact ⟨o, rfl, z2⟩
  refine ⟨e1, e2, fun p hp => (at_ p hp).1, fun p hp => ?_, fun p hp => ?_⟩
  · obtain ⟨_, o, q, z⟩ := at_ p hp
    exact He.frT_none q z
  · obtain ⟨_, o, q, z⟩ := at_ p hp
    rw [q, He.emptyTab_eq z]
def hookY (n : Nat) (fa : List He.Fa) (fn : List He.DefD) (cs : CsX) (tf : List He.Defn) : PySem.W.Hook where
  α := He.AlD × Bool
  obs := fun s => obsY n fa fn cs tf s.heap.get?
  val := fun _ => (He.valD fn, true)
  says := fun _ h => ∃ K : PySem.W.Frag, K.In h ∧ SaysY fa fn cs tf h K
  of := fun _ _ e => ⟨_, He.frT_in, saysY_of e⟩
  keeps := fun _ _ _ ⟨K, hK, c⟩ k => ⟨K, PySem.W.Frag.In.keeps hK k, ⟨c.d, c.own, c.hd, c.out, fun p hp => k _ _ (c.empty p hp)⟩⟩
theorem obsY_eq {n : Nat} {fa : List He.Fa} {fn : List He.DefD} {cs : CsX} {tf : List He.Defn} {g : Addr → Option Obj} {s : Shared} (h : ∀ a, g a = s.heap.get? a) : obsY n fa fn cs tf g = (hookY n fa fn cs tf).obs s := by
  have e : g = s.heap.get? := funext h
  rw [e] <;> rfl
/-- the code object of a def that makes a lambda -/
theorem mkr_code {K : PySem.W.Frag} {x qual : Str} {params : Arguments} {body : List Stmt} {scope : Scope} {dvs : List V} {kws : List (Str × V)} {p : He.Defn} {fd : FuncData} (F : FunD K x qual params body scope dvs kws (He.fAd K p) fd) : fd.code = .ref (He.cT K p).1 := by
  obtain ⟨oc, od, dV, kV, doc, pm, an, cdv, ct, osl, rfl, lk, hcd, _, _⟩ := F.ex
  obtain ⟨c, rfl⟩ := He.codeIn_ref hcd
  show Value.ref c = .ref (He.codeOf K p)
  rw [He.codeOf_eq lk rfl]
theorem takes_lam {P : Program} {w : World} {K : PySem.W.Frag} {mg : Str → Option Value} {base : Heap} {N : List Str} {F : NF} {f : Addr} {A : Around} {outer : List Env} {s : Shared} {H : Hp} {E : XK} : Takes (ncx (L2.CX P w) P w K mg base N F f A outer s H E) (fun c d _ H' => E c d H') := L2.takes_of rfl rfl rfl rfl
/-- THE RULE for a def whose code object is known -/
theorem dfnC {P : Program} {w : World} {K : PySem.W.Frag} {mg : Str → Option Value} {base : Heap} {x qual : Str} {params : Arguments} {body : List Stmt} {scope : Scope} {dvs : List V} {kws : List (Str × V)} {f c : Addr} {fd : FuncData}
    {N ps : List Str} {k n : Nat} {G : Gm} {S : SX} (F : FunD K x qual params body scope dvs kws f fd) (hc : fd.code = .ref c) (Sc : FnScope N ps scope) (hn : N.length - ps.length = n)
    (hb : ∀ (A : Around) (outer : List Env) (s : Shared) (H : Hp) (vs : List V) (E : XK), Room k (A.deeper (envOfC qual scope s.heap.objs.size f (.ref c))) →
      DSs (cxOf (L2.CX P w) P w K mg base N qual scope f (.ref c) A outer s H E) ⟨G, L2.start N vs, fun c d _ H => E c d H⟩ body S) : FnOk P w K mg base (L2.CX P w) (k + 1) f fd ps (spF G ps.length (fnM n S)) := by
  obtain ⟨oc, od, dV, kV, doc, pm, an, cdv, ct, osl, rfl, lk, hcd, _, _⟩ := F.ex
  have e : cdv = .ref c := hc
  subst e
  exact fn_of lk hcd Sc (fun vs H Q E h => h.1) fun A outer s H vs Q E hr h => ⟨_, hb A outer s H vs E hr, spF_st hn h⟩
end BF

set_option maxRecDepth 100000
set_option maxHeartbeats 4000000
namespace BF
open PySem PySem.Spec L2
open PyProof.Rows hiding St
set_option autoImplicit false
section
variable {X : Cx} {C : Dc} {T : List Nat} {pos : Pos}
/-- a method of frozen data, which changes nothing -/
def eMq (kd : PV → Bool) (f : PV → List PV → Res Slot) (E : PX) (A : AX) : PX := fun ρ => E ρ >>= fun p => if kd p.1.pv = true then (A p.2 >>= fun q => f p.1.pv q.1 >>= fun s => .ok (s, q.2)) else .stuck
def OpMq (G : Gm) (r : V → List V → Hp → VK → Prop) (f : PV → List PV → Res Slot) : Prop := ∀ (I H : Hp) (a : PV) (v : V) (xs : List PV) (vs : List V), Same I H → Rp G I a v → RpL G I xs vs →
  Sat (f a xs) fun s => ∀ Q : VK, (∀ I' H' u, Ext I H I' H' → RS G H I' H' s u → Q u H') → r v vs H Q
theorem tMq_of {kd : PV → Bool} {f : PV → List PV → Res Slot} {E : PX} {A : AX} {r : V → List V → Hp → VK → Prop} {K : PySem.W.Frag} {Ty : String} (o : OpMq C.G r f)
    (hty : ∀ (I H : Hp) (a : PV) (v : V), Same I H → Rp C.G I a v → kd a = true → tyV K Ty v H)
    (σ : St) (H : Hp) (Q : VK) (h : tX C.G C.σ0 C.W T (eMq kd f E A) σ H Q) : tBM K Ty r (tX C.G C.σ0 C.W T E) (tAs C.G C.σ0 C.W T A) σ H Q := by
  obtain ⟨I, ρ, sr, k⟩ := h
  refine tK.next sr (.refl sr) k (fun s ρ1 I1 H1 v x1 _ _ p1 k1 => ?_) fun _ _ => rfl
  dsimp only at k1
  by_cases hk : kd (Slot.val s.pv).pv = true
  · rw [if_pos hk] at k1
    refine ⟨hty I1 H1 s.pv v x1.same p1 hk, ?_⟩
    refine tK.nextA x1 k1 fun xs ρ2 I2 H2 vs x2 le l k2 => ?_
    exact tK.fin (P := fun R => r v vs H2 R) x2 (o I2 H2 s.pv v xs vs x2.same (p1.up le) l) k2
  · rw [if_neg hk] at k1; exact k1.elim
theorem tyq_lst {G : Gm} {K : PySem.W.Frag} : ∀ (I H : Hp) (a : PV) (v : V), Same I H → Rp G I a v → isLst a = true → tyV K "list" v H := fun I H a v h r k => by
  cases a with
  | lst xs => cases r with | lst rd l => exact .inl ⟨rfl, _, SqL.of (h _ _ rd)⟩
  | _ => cases k
def rIndexP (K : PySem.W.Frag) : V → List V → Hp → VK → Prop := fun x xs H Q => ∃ (a : Addr) (y : V) (d : PyData) (ds : List PyData) (j : Nat), x = V.ref a ∧ xs = [y] ∧ Dp K H (V.ref a) (.list ds) ∧ Dp K H y d ∧
  PyData.plainAll ds = true ∧ d.plain = true ∧ min (PyData.depthAll ds) d.depth ≤ 64 ∧ SeqAt.dataPlace ds d = some j ∧ Q (.int (j : Nat)) H
theorem mt_indexP (hu : X.A.units + 66 < cLine) : MtR X "list.index" (rIndexP X.K) := by
  intro pins s σ H x xs v us Q I rx rxs h
  obtain ⟨a, y, d, ds, j, rfl, rfl, hl, hy, hxs, hd, hm, hp, q⟩ := h
  cases rx
  cases rxs with
  | cons ry rt =>
    rename_i uy ut
    cases rt
    obtain ⟨bs, r1⟩ := Dp.reads I d y uy hy ry
    have hroom : X.A.units + 1 + min (PyData.depthAll ds) d.depth < cLine := by omega
    cases hl with
    | lst hs ha =>
      obtain ⟨its, rv, ⟨⟨cls, dd, data, sls⟩, n, ho, hc, hdn, hdt⟩, hlen⟩ := I.list hs
      simp only at hc hdt
      subst hc hdt
      obtain ⟨as, h4⟩ := Dp.readsAll I ds _ its ha rv
      have hvl := rv.length
      have hsl := sizeLine_eq
      have h4' : ReadsAll s.heap its.toArray.toList ds as := h4
      obtain ⟨hj, hit, hno⟩ := SeqAt.hit_at h4' hxs hp
      have hj' : j < its.length := by simpa using hj
      refine call_meets PySem.F.slot_list_index ⟨_, ho, rfl⟩ PySem.F.entry_list_index (PySem.F.args_list_index_2 _ _)
        (SeqAt.list_indexAt a its.toArray n dd sls uy (fun u => PyData.eqv (SeqAt.readOf s.heap u) d) j hj (by omega) hit hno) ⟨ho, SeqAt.items_plain h4' r1 hxs hd hroom, ?_⟩
      exact ⟨.int (j : Nat), H, I.tok _, ⟨_, rfl⟩, q⟩
def pIndex : PV → List PV → Res Slot := fun x ys => match x, ys with
  | .lst xs, [y] => (match PV.pds xs, y.pd with
    | some ds, some d => if min (PyData.depthAll ds) d.depth ≤ 64 then (match SeqAt.dataPlace ds d with
      | some j => .ok (.val (.int (j : Nat)))
      | none => .stuck) else .stuck
    | _, _ => .stuck)
  | _, _ => .stuck
theorem o_index {G : Gm} {K : PySem.W.Frag} : OpMq G (rIndexP K) pIndex := by
  intro I H a v xs vs h ra l
  unfold pIndex
  split
  · rename_i ys y
    split
    · rename_i ds d e1 e2
      split
      · rename_i hm
        split
        · rename_i j ej
          obtain ⟨w, rfl, rw_⟩ := rpl1 l
          have q2 := rp_dp (K := K) h rw_ e2
          have q1 := rp_dp (K := K) (d := .list ds) h ra (by simp only [PV.pd, e1, Option.map_some])
          have hr := ra
          cases hr with
          | lst rd ll => exact fun Q k => ⟨_, w, d, ds, j, rfl, rfl, q1.1, q2.1, by simpa [PyData.plain] using q1.2, q2.2, hm, ej, k I H _ (.refl h) (.int _)⟩
        · trivial
      · trivial
    · trivial
  · trivial
theorem de_index {o e : Expr} {apos : Pos} {E : PX} {A : AX} (hu : X.A.units + 66 < cLine) (ho : DE X C T o E) (ha : DA X C T [e] A) (h1 : attributeBase o "index" X.env (eval o X.env) = eval o X.env := by rfl)
    (h2 : (apos.endLine == pos.line) = true := by rfl) (h3 : starEach [e] X.env = (false, eval e X.env) :: starEach [] X.env := by rfl) : DE X C T (.Call (.Attribute o "index" apos) [e] [] pos) (eMq isLst pIndex E A) :=
  PE.imp (pe_bm PySem.F.plainAttrs_list PySem.F.slot_list_index PySem.F.type_list_index (mt_indexP hu) ho ha h1 (by rw [h3]; rfl) h2 h3) (tMq_of o_index tyq_lst)
def rCountP (K : PySem.W.Frag) : V → List V → Hp → VK → Prop := fun x xs H Q => ∃ (a : Addr) (y : V) (d : PyData) (ds : List PyData), x = V.ref a ∧ xs = [y] ∧ Dp K H (V.ref a) (.list ds) ∧ Dp K H y d ∧
  PyData.plainAll ds = true ∧ d.plain = true ∧ min (PyData.depthAll ds) d.depth ≤ 64 ∧ Q (.int ((ds.countP fun y => PyData.eqv y d : Nat))) H
theorem mt_countP (hu : X.A.units + 66 < cLine) : MtR X "list.count" (rCountP X.K) := by
  intro pins s σ H x xs v us Q I rx rxs h
  obtain ⟨a, y, d, ds, rfl, rfl, hl, hy, hxs, hd, hm, q⟩ := h
  cases rx
  cases rxs with
  | cons ry rt =>
    rename_i uy ut
    cases rt
    obtain ⟨bs, r1⟩ := Dp.reads I d y uy hy ry
    have hroom : X.A.units + 1 + min (PyData.depthAll ds) d.depth < cLine := by omega
    cases hl with
    | lst hs ha =>
      obtain ⟨its, rv, pl, hlen⟩ := I.list hs
      obtain ⟨as, h4⟩ := Dp.readsAll I ds _ its ha rv
      have h4' : ReadsAll s.heap its.toArray.toList ds as := h4
      exact SeqAt.count_list_data pl.isList h4' r1 hxs hd hroom ⟨.int _, H, I.tok _, ⟨_, rfl⟩, q⟩
def pCount : PV → List PV → Res Slot := fun x ys => match x, ys with
  | .lst xs, [y] => (match PV.pds xs, y.pd with
    | some ds, some d => if min (PyData.depthAll ds) d.depth ≤ 64 then .ok (.val (.int ((ds.countP fun y => PyData.eqv y d : Nat)))) else .stuck
    | _, _ => .stuck)
  | _, _ => .stuck
theorem o_count {G : Gm} {K : PySem.W.Frag} : OpMq G (rCountP K) pCount := by
  intro I H a v xs vs h ra l
  unfold pCount
  split
  · rename_i ys y
    split
    · rename_i ds d e1 e2
      split
      · rename_i hm
        obtain ⟨w, rfl, rw_⟩ := rpl1 l
        have q2 := rp_dp (K := K) h rw_ e2
        have q1 := rp_dp (K := K) (d := .list ds) h ra (by simp only [PV.pd, e1, Option.map_some])
        have hr := ra
        cases hr with
        | lst rd ll => exact fun Q k => ⟨_, w, d, ds, rfl, rfl, q1.1, q2.1, by simpa [PyData.plain] using q1.2, q2.2, hm, k I H _ (.refl h) (.int _)⟩
      · trivial
    · trivial
  · trivial
theorem de_count {o e : Expr} {apos : Pos} {E : PX} {A : AX} (hu : X.A.units + 66 < cLine) (ho : DE X C T o E) (ha : DA X C T [e] A) (h1 : attributeBase o "count" X.env (eval o X.env) = eval o X.env := by rfl)
    (h2 : (apos.endLine == pos.line) = true := by rfl) (h3 : starEach [e] X.env = (false, eval e X.env) :: starEach [] X.env := by rfl) : DE X C T (.Call (.Attribute o "count" apos) [e] [] pos) (eMq isLst pCount E A) :=
  PE.imp (pe_bm PySem.F.plainAttrs_list PySem.F.slot_list_count PySem.F.type_list_count (mt_countP hu) ho ha h1 (by rw [h3]; rfl) h2 h3) (tMq_of o_count tyq_lst)
end
end BF

set_option maxRecDepth 100000
set_option maxHeartbeats 4000000
namespace BF
open PySem PySem.Spec L2
open PyProof.Rows hiding St
set_option autoImplicit false
section
variable {X : Cx} {C : Dc} {T : List Nat} {pos : Pos}
theorem de_callRB {x : Str} {p : Pos} {e : Expr} {es : List Expr} {k n n0 : Nat} {m : FM} {A : AX} {bs : List (Option Nat)}
    (F : FBG X.prog X.w X.K X.mg X.base C.G k n x [] m) (gd : X.A.guards = some []) (hr : Room k X.A) (tk : Takes X C.W) (hlen : bs.length = n) (nd : (bs.filterMap id).Nodup) (hT : ∀ i, some i ∈ bs → i ∈ T) (ha : DAr X C T bs (e :: es) A) (hg : Gl X x := by rfl)
    (hdb : (x == ("__debug__" : Str)) = false := by decide) (he : starEach (e :: es) X.env = (false, eval e X.env) :: starEach es X.env := by rfl) (hpl : (backTo pos (starEach es X.env)).any (·.1) = false := by rfl) :
    DE X C T (.Call (.Name x p) (e :: es) [] pos) (eCallR bs n0 m A) := by
  obtain ⟨f, fd, ps, ds, F, hm, hk, hb, hd⟩ := F.ex
  cases hd
  refine PE.imp (pe_callB' (E := fun σ c d H => C.W c d σ H) F gd hr hg hm hk hb .nil (fun σ => passAt tk σ) ha hdb he hpl) fun σ H Q ⟨I, ρ, sr, k⟩ => ?_
  unfold eCallR at k
  cases ho : allOwn ρ bs with
  | false => rw [ho, if_neg Bool.false_ne_true] at k; exact k.elim
  | true =>
    rw [ho, if_pos rfl] at k
    refine ⟨I, ρ, sr, fun i hi => ?_, ?_⟩
    · obtain ⟨y, hy⟩ := allOwn_at ho hi
      obtain ⟨a, o, h1, _⟩ := sr.own i y hy
      exact ⟨_, h1⟩
    · cases ea : A ρ with
      | exc c => rw [ea] at k; exact k
      | stuck => rw [ea] at k; exact k
      | ok q =>
        obtain ⟨xs, ρ1⟩ := q
        rw [ea] at k
        intro I1 H1 vs x1 l
        simp only [ok_bind] at k
        split at k
        · rename_i hc
          obtain ⟨_, ho1⟩ := hc
          have el := argS_len (ρ := ρ1) l
          show spF C.G n m (vs ++ []) H1 Q _
          rw [List.append_nil]
          refine ⟨by omega, I1, argS ρ1 bs xs, argS_sr x1.sr l ho1 nd, ?_⟩
          · cases em : m (argS ρ1 bs xs) with
            | stuck => rw [em] at k; exact k
            | exc c =>
              rw [em] at k
              intro I' H' xx
              refine k I' H' (x1.xx ⟨xx.le, xx.same, xx.dom, fun a o t e n hap => xx.keep a o t e n (fun h => ?_) (fun h => argS_pm l ho1 h), xx.tab⟩)
              obtain ⟨i, y, hi, hy, e3⟩ := argS_ow l ho1 h
              exact hap i (hT i hi) y hy e3
            | ok q =>
              obtain ⟨s, ss'⟩ := q
              rw [em] at k
              intro I' H' v r' st w
              exact k I' H' v (x1.trans (xe_callR x1.sr l ho1 nd hT r' st)) (w.of1 x1)
        · exact k.elim
end
end BF

set_option maxRecDepth 100000
set_option maxHeartbeats 4000000
namespace BF
open PySem PySem.Spec L2
open PyProof.Rows hiding St
set_option autoImplicit false
section
variable {G : Gm} {σ0 : St} {W : WX} {T : List Nat} {σ σ1 : St} {I H I1 H1 I2 H2 : Hp} {ρ ρ1 : En} {D : Ends}
theorem tO.args {A : AX} {K : List PV × En → Res Out} {R : List V → Hp → Prop} (r : SR G σ0 I H σ ρ) (h : tO G σ0 W I H σ ρ D (A ρ >>= K))
    (hR : ∀ (xs : List PV) (ρ1 : En) (I1 H1 : Hp) (vs : List V), XE G σ0 T σ I H ρ I1 H1 ρ1 → RpL G I1 xs vs → tO G σ0 W I H σ ρ D (K (xs, ρ1)) → R vs H1) : tAs G σ0 W T A σ H R := by
  refine ⟨I, ρ, r, ?_⟩
  cases e : A ρ with
  | ok q => obtain ⟨s, ρ1⟩ := q; rw [e] at h; exact fun I1 H1 v x w => hR s ρ1 I1 H1 v x w h
  | exc c => rw [e] at h; exact fun I1 H1 x => h I1 H1 σ x.xs
  | stuck => rw [e] at h; exact h
end
section
variable {X : Cx} {C : Dc} {T : List Nat} {pos : Pos}
/-- a, b = e1, e2 -/
def sPar (i j : Nat) (A : AX) : SX := fun ρ => A ρ >>= fun p => match p.1 with
  | [x, y] => .ok (.nx ((p.2.set i (.val x)).set j (.val y)))
  | _ => .stuck
theorem ds_par {i j : Nat} {x y : Str} {a b : Expr} {A : AX} {px py pt : Pos} {kt k2 pt2} (hc : X.calm = true) (hN : X.N.Nodup) (ha : DA X C T [a, b] A) (hi : X.N[i]? = some x := by rfl) (hj : X.N[j]? = some y := by rfl) (hij : i ≠ j := by decide)
    (hx : X.env.scope.names.lookup x = some .local := by rfl) (hy : X.env.scope.names.lookup y = some .local := by rfl)
    (hw : swappedStores [.Tuple [.Name x px, .Name y py] kt pt] (.Tuple [a, b] k2 pt2) X.env = pure (some [x, y]) := by rfl)
    (hs : swapsWithSole [.Tuple [.Name x px, .Name y py] kt pt] (.Tuple [a, b] k2 pt2) pos.line X.env = pure false := by rfl) :
    DS X C (.Assign [.Tuple [.Name x px, .Name y py] kt pt] (.Tuple [a, b] k2 pt2) pos) (sPar i j A) := by
  refine PS.imp (ps_par hc hN hi hj hij hx hy ha hw hs) fun D σ H ⟨I, ρ, r, k⟩ => ?_
  refine tO.args r k fun xs ρ1 I1 H1 vs x1 l k1 => ?_
  dsimp only at k1
  split at k1
  · obtain ⟨v, w, rfl, r1, r2⟩ := rpl2 l
    refine ⟨v, w, rfl, k1 I1 H1 _ ((x1.sr.setV i r1).setV j r2) ((x1.stp.trans (Stp.setV i _ v)).trans (Stp.setV j _ w))⟩
  · exact k1.elim
/-- x op= e -/
def sAug (i : Nat) (f : PV → PV → Res Slot) (E : PX) : SX := fun ρ => match ρ[i]? with
  | some (.val x) => E ρ >>= fun p => f x p.1.pv >>= fun s => .ok (.nx (p.2.set i (.val s.pv)))
  | _ => .stuck
theorem ds_aug {i : Nat} {x : Str} {e : Expr} {E : PX} {op : Operator} {f : PV → PV → Res Slot} {ti : R2} {pos' : Pos} (hN : X.N.Nodup) (ho : OpR X (inplaceOp op) ti) (o : Op2 C.G ti f) (he : DE X C T e E) (hi : X.N[i]? = some x := by rfl) (hx : Loc X.env.scope x := by first | exact .inl rfl | exact .inr rfl)
    (hf : X.fn x = true ∨ X.env.scope.names.lookup x = some .local := by first | exact .inl rfl | exact .inr rfl) : DS X C (.AugAssign (.Name x pos') op e pos) (sAug i f E) := by
  refine PS.imp (ps_aug hN hi hx he ho hf) fun D σ H ⟨I, ρ, r, k⟩ => ?_
  unfold sAug at k
  cases ei : ρ[i]? with
  | none => rw [ei] at k; exact k.elim
  | some s0 =>
    rw [ei] at k
    cases s0 with
    | val y =>
      dsimp only at k
      obtain ⟨v, h1, h2⟩ := r.val i y ei
      refine ⟨v, h1, ?_⟩
      refine tO.exprF .refl r k (fun _ _ => rfl) fun s ρ1 I1 H1 w x1 p k1 => ?_
      have q := o I1 H1 y s.pv v w x1.same (h2.up x1.le) p
      simp only [pv_val] at k1
      cases ef : f y s.pv with
      | stuck => rw [ef] at k1; exact k1.elim
      | exc c => rw [ef] at q; exact q.elim
      | ok z =>
        rw [ef] at k1 q
        refine q _ fun I' H' u ex rs => ?_
        obtain ⟨I3, x3, _, p3⟩ := (x1.ext ex).frz r (rs.of1 x1)
        exact k1 I3 H' _ (x3.sr.setV i p3) (x3.stp.trans (Stp.setV i _ u))
    | _ => exact k.elim
theorem iop_mulX : OpR X (inplaceOp .Mult) (rI CMulX fun i j => .int (i * j)) := opI fun _ _ _ _ _ _ _ hc q => imul_int q hc.ok
def pIAdd : PV → PV → Res Slot
  | .int i, .int j => .ok (.val (.int (i + j)))
  | _, _ => .stuck
def pISub : PV → PV → Res Slot
  | .int i, .int j => .ok (.val (.int (i - j)))
  | _, _ => .stuck
def pIMul : PV → PV → Res Slot
  | .int i, .int j => if CMulX i j then .ok (.val (.int (i * j))) else .stuck
  | _, _ => .stuck
theorem o_iadd {G : Gm} : Op2 G (rI0 fun i j => .int (i + j)) pIAdd := by
  intro I H a b v w h ra rb
  unfold pIAdd
  split
  · cases ra; cases rb
    exact fun Q k => ⟨_, _, rfl, rfl, k I H _ (.refl h) (.int _)⟩
  · trivial
theorem o_isub {G : Gm} : Op2 G (rI0 fun i j => .int (i - j)) pISub := by
  intro I H a b v w h ra rb
  unfold pISub
  split
  · cases ra; cases rb
    exact fun Q k => ⟨_, _, rfl, rfl, k I H _ (.refl h) (.int _)⟩
  · trivial
theorem o_imul {G : Gm} : Op2 G (rI CMulX fun i j => .int (i * j)) pIMul := by
  intro I H a b v w h ra rb
  unfold pIMul
  split
  · split
    · rename_i hc
      cases ra; cases rb
      exact fun Q k => ⟨_, _, rfl, rfl, hc, k I H _ (.refl h) (.int _)⟩
    · trivial
  · trivial
/-- xs[i], by values, i from 0 on -/
def rGetL (K : PySem.W.Frag) : V → V → Hp → VK → Prop := fun x y H Q => ∃ p xs i v, x = .ref p ∧ y = .int i ∧ 0 ≤ i ∧ SqL K H p xs ∧ xs[i.toNat]? = some v ∧ Q v H
theorem get_list : PGet X (rGetL X.K) := by
  intro pins s σ H o i ov iv Q I ro ri h
  obtain ⟨p, xs, k, z, rfl, rfl, h0, hq, he, q⟩ := h
  cases ro
  obtain ⟨t, rfl⟩ := ri
  obtain ⟨its, r, pl, hz⟩ := I.list hq
  obtain ⟨w, ew, rw'⟩ := r.get he
  have hl := r.length
  have hn := line63
  have hk : k.toNat < its.length := (List.getElem?_eq_some_iff.mp ew).1
  exact wpAny_getItem_list pl.isList h0 (by omega) (by simpa using ew) ⟨z, H, I, rw', q⟩
def lstAt (i : Nat) (ρ : En) (n : PV) : Res (Nat × PV) := match ownAt i ρ, n with
  | .ok (.lst xs), .int k => if 0 ≤ k then (match xs[k.toNat]? with
    | some x => .ok (k.toNat, x)
    | none => .stuck) else .stuck
  | _, _ => .stuck
def putAt (i j : Nat) (y : PV) (ρ : En) : Res Out := match ownAt i ρ with
  | .ok (.lst ys) => if j < ys.length then .ok (.nx (putS i (.lst (ys.set j y)) ρ)) else .stuck
  | _ => .stuck
/-- xs[e1] op= e2, xs an own list -/
def sAugL (i : Nat) (f : PV → PV → Res Slot) (Ei Ev : PX) : SX := fun ρ => ownAt i ρ >>= fun _ => Ei ρ >>= fun q => lstAt i q.2 q.1.pv >>= fun x => Ev q.2 >>= fun p => f x.2 p.1.pv >>= fun s => putAt i x.1 s.pv p.2
theorem lstAt_ok {i : Nat} {ρ : En} {n : PV} {z : Nat × PV} (h : lstAt i ρ n = .ok z) : ∃ (xs : List PV) (k : Int), ownAt i ρ = .ok (.lst xs) ∧ n = .int k ∧ 0 ≤ k ∧ z.1 = k.toNat ∧ xs[k.toNat]? = some z.2 := by
  unfold lstAt at h
  split at h
  · rename_i xs k e
    split at h
    · rename_i h0
      split at h
      · rename_i x ex
        cases h
        exact ⟨xs, k, e, rfl, h0, rfl, ex⟩
      · cases h
    · cases h
  · cases h
theorem lstAt_exc {i : Nat} {ρ : En} {n : PV} {c : Str} (h : lstAt i ρ n = .exc c) : False := by
  unfold lstAt at h
  split at h
  · split at h
    · split at h <;> cases h
    · cases h
  · cases h
theorem ds_augL {i : Nat} {x : Str} {ei ev : Expr} {Ei Ev : PX} {op : Operator} {f : PV → PV → Res Slot} {ti : R2} {p1 p2 : Pos} (hx : PE X (.Name x p1) (tVar i)) (ho : OpR X (inplaceOp op) ti) (o : Op2 C.G ti f) (hi : DE X C T ei Ei) (hv : DE X C T ev Ev)
    (ha : ∀ ov iv new, augStore ei ov iv new = (do holding [new, ov, iv] (setItem ov iv new); release [new, ov, iv] []; pure .next) := by intros; rfl) :
    DS X C (.AugAssign (.Subscript (.Name x p1) ei p2) op ev pos) (sAugL i f Ei Ev) := by
  refine PS.imp (ps_augS hx hi get_list hv ho set_list ha) fun D σ H ⟨I, ρ, r, k⟩ => ?_
  unfold sAugL at k
  cases eo : ownAt i ρ with
  | stuck => rw [eo] at k; exact k.elim
  | exc c => exact (ownAt_exc eo).elim
  | ok y =>
    rw [eo] at k
    simp only [ok_bind] at k
    obtain ⟨a, ob, g1, g2, g3, g4⟩ := r.own i _ (ownAt_ok eo)
    refine ⟨.ref a, g1, ?_⟩
    refine tO.exprF .refl r k (fun _ _ => rfl) fun s ρ1 I1 H1 w x1 p k1 => ?_
    simp only [pv_val] at k1
    cases el : lstAt i ρ1 s.pv with
    | stuck => rw [el] at k1; exact k1.elim
    | exc c => exact (lstAt_exc el).elim
    | ok z =>
      rw [el] at k1
      simp only [ok_bind] at k1
      obtain ⟨xs, kk, e2, e3, h0, e4, e5⟩ := lstAt_ok el
      obtain ⟨a', o', q1, q2, q3, vs, q4, q5⟩ := x1.sr.own i _ (ownAt_ok e2)
      have ea : a' = a := by rw [g1] at q1; cases q1; rfl
      subst ea; subst q4
      rw [e3] at p
      cases p
      obtain ⟨v, ev, rv⟩ := q5.get e5
      refine ⟨a', vs, kk, v, rfl, rfl, h0, SqL.of q3, ev, ?_⟩
      refine tO.exprF x1.stp x1.sr k1 (fun _ _ => rfl) fun s2 ρ2 I2 H2 w2 x2 p2 k2 => ?_
      simp only [pv_val] at k2
      have q := o I2 H2 z.2 s2.pv v w2 x2.same (rv.up x2.le) p2
      cases ef : f z.2 s2.pv with
      | stuck => rw [ef] at k2; exact k2.elim
      | exc c => rw [ef] at q; exact q.elim
      | ok s3 =>
        rw [ef] at k2 q
        simp only [ok_bind] at k2
        refine q _ fun I' H' u ex rs => ?_
        obtain ⟨I3, x3, _, p3⟩ := (x2.ext ex).frz x1.sr (rs.of1 x2)
        unfold putAt at k2
        cases e6 : ownAt i ρ2 with
        | stuck => rw [e6] at k2; exact k2.elim
        | exc c => exact (ownAt_exc e6).elim
        | ok y2 =>
          rw [e6] at k2
          cases y2 with
          | lst ys =>
            dsimp only at k2
            split at k2
            · rename_i hj
              have hi2 := ownAt_ok e6
              obtain ⟨a2, o2, t1, t2, t3, us, t4, t5⟩ := x3.sr.own i _ hi2
              have ea2 : a2 = a' := by rw [g1] at t1; cases t1; rfl
              subst ea2; subst t4
              have w' : OwnO C.G I3 (.lst (ys.set z.1 s3.pv)) (.lst (us.set z.1 u)) := ⟨_, rfl, t5.set z.1 p3⟩
              have hus := t5.length
              refine ⟨a2, us, kk, z.1, rfl, rfl, t3, ?_, k2 I3 _ σ (x3.sr.put hi2 g1 w') ((x1.stp.trans x3.stp).trans (Stp.put x3.sr hi2 g1 w'))⟩
              unfold ixN
              rw [if_pos h0, if_pos (by omega), e4]
            · exact k2.elim
          | _ => exact k2.elim
end
end BF

set_option maxRecDepth 100000
set_option maxHeartbeats 4000000
namespace BF
open PySem PySem.Spec L2
open PyProof.Rows hiding St
set_option autoImplicit false
section
variable {G : Gm} {σ0 : St} {W : WX} {T : List Nat} {σ : St} {I H I1 H1 : Hp} {ρ ρ1 : En} {Q : VK} {p : Addr} {o : HO}
/-- an expression beside a new object at p, which stays -/
theorem tK.keepN {E1 : PX} {K : Slot × En → Res (Slot × En)} (r : SR G σ0 I H σ ρ) (hp : H p = none) (nt : NT o) (x : XE G σ0 T σ I H ρ I1 H1 ρ1) (k1 : H1 p = some o) (k2 : I1 p = none) (h : tK G σ0 W T σ I H ρ Q (E1 ρ1 >>= K)) {R : VK}
    (hR : ∀ (s : Slot) (ρ2 : En) (I2 H2 : Hp) (v : V), XE G σ0 T σ I H ρ I2 H2 ρ2 → Same I1 I2 → Rp G I2 s.pv v → H2 p = some o → I2 p = none → tK G σ0 W T σ I H ρ Q (K (s, ρ2)) → R v H2) : tX G σ0 W T E1 σ H1 R := by
  refine ⟨I1, ρ1, x.sr, ?_⟩
  cases e : E1 ρ1 with
  | ok q =>
    obtain ⟨s, ρ2⟩ := q
    rw [e] at h
    intro I2 H2 v xx w
    obtain ⟨I3, y3, le, pr⟩ := xx.frz x.sr w
    obtain ⟨g1, g2⟩ := y3.keep p o nt k1 k2 fun i _ y z => x.slots r hp i y z
    exact hR s ρ2 I3 H2 v (x.trans y3) (xx.le.trans le) pr g1 g2 h
  | exc c =>
    rw [e] at h
    intro I2 H2 xx
    exact h I2 H2 (x.xx xx)
  | stuck => rw [e] at h; exact h
theorem XE.wr {o' : HO} (r : SR G σ0 I H σ ρ) (x : XE G σ0 T σ I H ρ I1 H1 ρ1) (hp : H p = none) (k1 : H1 p = some o) (k2 : I1 p = none) (pl : Pl o) : XE G σ0 T σ I H ρ I1 (upd H1 p o') ρ1 :=
  ⟨x.le, x.sr.off k2 (x.slots r hp) (pl.put k1), fun b hb => x.dom b (by
    unfold upd at hb
    split at hb
    · cases hb
    · exact hb), fun b u nt eb nb ap => by
    obtain ⟨g1, g2⟩ := x.keep b u nt eb nb ap
    exact ⟨by rw [upd_ne (ne_of_none eb hp)]; exact g1, g2⟩, x.tab.trans (pl.put k1), x.eq, x.own, x.prm⟩
/-- the pairs of a display -/
def aPairs : List (PX × PX) → En → Res (List (PV × PV) × En)
  | [], ρ => .ok ([], ρ)
  | (E, F) :: r, ρ => E ρ >>= fun p => F p.2 >>= fun q => aPairs r q.2 >>= fun z => .ok ((p.1.pv, q.1.pv) :: z.1, z.2)
inductive PrL (G : Gm) (I : Hp) : List (PV × PV) → List (V × V) → Prop
  | nil : PrL G I [] []
  | cons {x y v w xs vs} : Rp G I x v → Rp G I y w → PrL G I xs vs → PrL G I ((x, y) :: xs) ((v, w) :: vs)
theorem PrL.up {I' : Hp} (h : Same I I') {xs : List (PV × PV)} {vs : List (V × V)} (l : PrL G I xs vs) : PrL G I' xs vs := by
  induction l with
  | nil => exact .nil
  | cons a b _ ih => exact .cons (a.up h) (b.up h) ih
theorem tPairs_of (r : SR G σ0 I H σ ρ) (hp : H p = none) (nt : NT o) : ∀ (Es : List (PX × PX)) {I1 H1 : Hp} {ρ1 : En} {K : List (PV × PV) × En → Res (Slot × En)} {R : List (V × V) → Hp → Prop}, XE G σ0 T σ I H ρ I1 H1 ρ1 → H1 p = some o → I1 p = none →
    tK G σ0 W T σ I H ρ Q (aPairs Es ρ1 >>= K) →
    (∀ (zs : List (PV × PV)) (ρ2 : En) (I2 H2 : Hp) (ps : List (V × V)), XE G σ0 T σ I H ρ I2 H2 ρ2 → Same I1 I2 → PrL G I2 zs ps → H2 p = some o → I2 p = none → tK G σ0 W T σ I H ρ Q (K (zs, ρ2)) → R ps H2) →
    tPairs (Es.map fun q => (tX G σ0 W T q.1, tX G σ0 W T q.2)) σ H1 R
  | [], _, _, _, _, _, x, k1, k2, h, hR => hR [] _ _ _ [] x (Same.refl _) .nil k1 k2 h
  | (E, F) :: Es, I1, H1, ρ1, K, R, x, k1, k2, h, hR => by
    have h' : tK G σ0 W T σ I H ρ Q (E ρ1 >>= fun q => (F q.2 >>= fun q' => aPairs Es q'.2 >>= fun z => .ok ((q.1.pv, q'.1.pv) :: z.1, z.2)) >>= K) := by
      have e : aPairs ((E, F) :: Es) ρ1 >>= K = (E ρ1 >>= fun q => (F q.2 >>= fun q' => aPairs Es q'.2 >>= fun z => .ok ((q.1.pv, q'.1.pv) :: z.1, z.2)) >>= K) := by
        show (E ρ1 >>= _) >>= K = _
        rw [res_assoc]
      rw [← e]; exact h
    refine tK.keepN r hp nt x k1 k2 h' fun s ρ2 I2 H2 v x2 le2 p2 g1 g2 h2 => ?_
    have h2' : tK G σ0 W T σ I H ρ Q (F ρ2 >>= fun q' => (aPairs Es q'.2 >>= fun z => .ok ((s.pv, q'.1.pv) :: z.1, z.2)) >>= K) := by
      rw [res_assoc] at h2; exact h2
    refine tK.keepN r hp nt x2 g1 g2 h2' fun s3 ρ3 I3 H3 w x3 le3 p3 g3 g4 h3 => ?_
    have h3' : tK G σ0 W T σ I H ρ Q (aPairs Es ρ3 >>= fun z => K ((s.pv, s3.pv) :: z.1, z.2)) := by
      rw [res_assoc] at h3; exact h3
    exact tPairs_of r hp nt Es x3 g3 g4 h3' fun zs ρ4 I4 H4 ps x4 le4 l4 g5 g6 h4 => hR ((s.pv, s3.pv) :: zs) ρ4 I4 H4 ((v, w) :: ps) x4 (le2.trans (le3.trans le4)) (.cons (p2.up (le3.trans le4)) (p3.up le4) l4) g5 g6 h4
end
section
variable {X : Cx} {C : Dc} {T : List Nat} {pos : Pos}
abbrev DPs (X : Cx) (C : Dc) (T : List Nat) (pos : Pos) (keys : List (Option Expr)) (values : List Expr) (Es : List (PX × PX)) : Prop := PPs X pos keys values (Es.map fun q => (tX C.G C.σ0 C.W T q.1, tX C.G C.σ0 C.W T q.2))
theorem dps_nil : DPs X C T pos [] [] [] := pps_nil
theorem dps_cons {k v : Expr} {ks : List (Option Expr)} {vs : List Expr} {E F : PX} {Es : List (PX × PX)} (hk : DE X C T k E) (hv : DE X C T v F) (hr : DPs X C T pos ks vs Es) : DPs X C T pos (some k :: ks) (v :: vs) ((E, F) :: Es) := pps_cons hk hv hr
def keys? : List (PV × PV) → Option (List (Key × PV))
  | [] => some []
  | (k, y) :: r => (match keyOf k with
    | some k => (keys? r).map ((k, y) :: ·)
    | none => none)
theorem keys?_rp {G : Gm} {I : Hp} : ∀ {zs : List (PV × PV)} {ps : List (V × V)} {kvs : List (Key × PV)}, PrL G I zs ps → keys? zs = some kvs → ∃ ws : List (Key × V), ps = ws.map (fun kv => (kV kv.1, kv.2)) ∧ RpK G I kvs ws
  | _, _, _, .nil, e => by simp only [keys?, Option.some.injEq] at e; subst e; exact ⟨[], rfl, .nil⟩
  | _, _, _, @PrL.cons _ _ x y v w xs vs a b l, e => by
    unfold keys? at e
    cases ek : keyOf x with
    | none => rw [ek] at e; cases e
    | some k =>
      rw [ek] at e
      obtain ⟨kvs', e1, rfl⟩ := Option.map_eq_some_iff.mp e
      obtain ⟨ws, rfl, l2⟩ := keys?_rp l e1
      have := keyOf_rp ek a
      subst this
      exact ⟨(k, w) :: ws, rfl, .cons b l2⟩
/-- {k: v, ..} -/
def eDisp (Es : List (PX × PX)) : PX := fun ρ => aPairs Es ρ >>= fun z => match keys? z.1 with
  | some kvs => if kvs.length ≤ 15 then .ok (.own (.dct (dMerge [] kvs)), z.2) else .stuck
  | none => .stuck
theorem de_disp {keys : List (Option Expr)} {values : List Expr} {Es : List (PX × PX)} (h : DPs X C T pos keys values Es) (hall : keys.all (·.isSome) = true := by rfl) (hl : keys.length = values.length := by rfl) (h0 : keys ≠ [] := by simp) (h15 : keys.length ≤ 15 := by decide) :
    DE X C T (.Dict keys values pos) (eDisp Es) := by
  refine PE.imp (pe_disp h hall hl h0 h15) fun σ H Q ⟨I, ρ, sr, k⟩ => ?_
  intro p hp
  have x0 : XE C.G C.σ0 T σ I H ρ I (upd H p (.dK [])) ρ := .ofExt sr (Ext.new sr.same hp)
  refine tPairs_of sr hp nt_dK Es x0 upd_same (same_none sr.same hp) k fun zs ρ2 I2 H2 ps x2 _ l g1 g2 k2 => ?_
  refine ⟨g1, ?_⟩
  dsimp only at k2
  cases ek : keys? zs with
  | none => rw [ek] at k2; exact k2.elim
  | some kvs =>
    rw [ek] at k2
    dsimp only at k2
    split at k2
    · rename_i hlen
      obtain ⟨ws, e1, l2⟩ := keys?_rp l ek
      refine ⟨ws, e1, by rw [← l2.length]; exact hlen, ?_⟩
      exact k2 I2 _ (.ref p) (x2.wr sr hp g1 g2 (.inr (.inl ⟨_, rfl⟩))) ⟨p, _, rfl, hp, g2, upd_same, _, rfl, merge_rp .nil l2⟩
    · exact k2.elim
end
end BF

set_option maxRecDepth 100000
set_option maxHeartbeats 4000000
namespace BF
open PySem PySem.Spec L2
open PyProof.Rows hiding St
set_option autoImplicit false
/-- the caught exception stands at a: told as the class "#e" -/
def eG (G : Gm) (a : Addr) : Gm := { G with cls := fun c => if c = "#e" then a else G.cls c }
theorem eG_e {G : Gm} {a : Addr} : (eG G a).cls "#e" = a := by
  show (if ("#e" : Str) = "#e" then a else G.cls "#e") = a
  exact if_pos rfl
theorem eG_ne {G : Gm} {a : Addr} {c : Str} (h : c ≠ "#e") : (eG G a).cls c = G.cls c := by
  show (if c = "#e" then a else G.cls c) = G.cls c
  exact if_neg h
/-- what of a suite's data may leave it -/
def simpleV : PV → Bool
  | .non => true
  | .bl _ => true
  | .int _ => true
  | .str _ => true
  | _ => false
theorem simpleV_rp {G G' : Gm} {I I' : Hp} {x : PV} {v : V} (h : simpleV x = true) (r : Rp G I x v) : Rp G' I' x v := by
  cases r with
  | non => exact .non
  | bl b => exact .bl b
  | int i => exact .int i
  | str x => exact .str x
  | _ => cases h
def backS : Slot → Slot
  | .val x => if simpleV x = true then .val x else .dead
  | _ => .dead
def backEn (ρ : En) : En := ρ.map backS
def exEn (n i : Nat) : En := (List.replicate n .dead).set i (.val (.cl "#e"))
/-- try: B except X as e (in slot i): S, by the class of what came; q: whether the clause takes it -/
def sTry (n i : Nat) (q : Str → Option Bool) (B : SX) (S : Str → SX) : SX := fun ρ => match B ρ with
  | .exc c => (match q c with
    | some true => (match S c (exEn n i) with
      | .ok (.nx ρ') => .ok (.nx ((backEn ρ').set i .dead))
      | .ok (.rt (.val x) ρ') => if simpleV x = true then .ok (.rt (.val x) (ρ'.map fun _ => .dead)) else .stuck
      | _ => .stuck)
    | some false => .exc c
    | none => .stuck)
  | .ok o => .ok o
  | .stuck => .stuck
theorem backEn_get {ρ : En} {i : Nat} {s : Slot} (h : (backEn ρ)[i]? = some s) : s = .dead ∨ ∃ x, s = .val x ∧ simpleV x = true ∧ ρ[i]? = some (.val x) := by
  unfold backEn at h
  rw [List.getElem?_map, Option.map_eq_some_iff] at h
  obtain ⟨t, h1, h2⟩ := h
  cases t with
  | val x =>
    unfold backS at h2
    dsimp only at h2
    split at h2
    · rename_i hs; exact .inr ⟨x, h2.symm, hs, h1⟩
    · exact .inl h2.symm
  | _ => exact .inl h2.symm
section
variable {G : Gm} {σ0 σ00 : St} {σ σ1 σ2 : St} {I H I1 H1 I2 H2 : Hp} {ρ ρ2 : En} {n i : Nat} {a : Addr}
theorem exEn_get {j : Nat} {s : Slot} (h : (exEn n i)[j]? = some s) : s = .dead ∨ (j = i ∧ s = .val (.cl "#e") ∧ i < n) := by
  unfold exEn at h
  rcases get_set h with ⟨rfl, rfl, hl⟩ | ⟨_, e⟩
  · exact .inr ⟨rfl, rfl, by simpa using hl⟩
  · rw [List.getElem?_replicate] at e
    split at e
    · cases e; exact .inl rfl
    · cases e
theorem SR.suite (r : SR G σ0 I H σ ρ) (x : Xs σ ρ I H I1 H1) (hl : (σ1.set i (some (.ref a))).length = n) : SR (eG G a) σ00 I1 H1 (σ1.set i (some (.ref a))) (exEn n i) where
  same := x.same
  len := by rw [hl]; unfold exEn; simp
  val := fun j y e => by
    rcases exEn_get e with z | ⟨rfl, z, hi⟩
    · cases z
    · cases z
      refine ⟨.ref a, ?_, ?_⟩
      · rw [List.getElem?_set_self (by rw [List.length_set] at hl; omega)]
      · have := Rp.cl (G := eG G a) (I := I1) "#e"
        rw [eG_e] at this
        exact this
  own := fun j y e => by
    rcases e with e | e <;> rcases exEn_get e with z | ⟨_, z, _⟩ <;> cases z
  prm := fun j y e => by rcases exEn_get e with z | ⟨_, z, _⟩ <;> cases z
  sep := fun j k y z b e => by
    rcases e with e | e <;> rcases exEn_get e with z | ⟨_, z, _⟩ <;> cases z
  tab := x.tab.tabs r.tab
theorem noOw : ¬ Ow σ (exEn n i) a := fun ⟨j, x, e, _⟩ => by rcases exEn_get e with z | ⟨_, z, _⟩ <;> cases z
theorem noPm : ¬ Pm σ (exEn n i) a := fun ⟨j, x, e, _⟩ => by rcases exEn_get e with z | ⟨_, z, _⟩ <;> cases z
theorem stp_suite {ρ3 : En} {σ3 : St} (x : Xs σ ρ I H I1 H1) (s : Stp I1 H1 σ1 (exEn n i) I2 H2 σ2 ρ2) (hn : ∀ (j : Nat) (y : PV), ρ3[j]? ≠ some (.own y) ∧ ρ3[j]? ≠ some (.prm y)) : Stp I H σ ρ I2 H2 σ3 ρ3 where
  le := x.le.trans s.le
  dom := fun b h => x.dom b (s.dom b h)
  own := fun b ⟨j, y, e, _⟩ => ((hn j y).1 e).elim
  prm := fun b ⟨j, y, e, _⟩ => ((hn j y).2 e).elim
  keep := fun b o t e m h1 h2 => by
    obtain ⟨e1, n1⟩ := x.keep b o t e m h1 h2
    exact s.keep b o t e1 n1 noOw noPm
  tab := x.tab.trans s.tab
theorem backEn_no {j : Nat} {y : PV} {k : Nat} : ((backEn ρ2).set k .dead)[j]? ≠ some (.own y) ∧ ((backEn ρ2).set k .dead)[j]? ≠ some (.prm y) := by
  constructor <;> intro e <;> rcases get_set e with ⟨_, z, _⟩ | ⟨_, e⟩
  · cases z
  · rcases backEn_get e with z | ⟨_, z, _⟩ <;> cases z
  · cases z
  · rcases backEn_get e with z | ⟨_, z, _⟩ <;> cases z
theorem SR.back {k : Nat} (r : SR (eG G a) σ00 I2 H2 σ2 ρ2) (ht : TabI G.tabs I2 H2) : SR G σ0 I2 H2 (σ2.set k none) ((backEn ρ2).set k .dead) where
  same := r.same
  len := by have := r.len; unfold backEn; simp [this]
  val := fun j y e => by
    rcases get_set e with ⟨_, z, _⟩ | ⟨nj, e⟩
    · cases z
    · rcases backEn_get e with z | ⟨x, z, hs, e2⟩
      · cases z
      · cases z
        obtain ⟨v, h1, h2⟩ := r.val j _ e2
        exact ⟨v, by rw [List.getElem?_set_ne (Ne.symm nj)]; exact h1, simpleV_rp hs h2⟩
  own := fun j y e => by
    rcases e with e | e
    · exact (backEn_no.1 e).elim
    · exact (backEn_no.2 e).elim
  prm := fun j y e => (backEn_no.2 e).elim
  sep := fun j l y z b e => by
    rcases e with e | e
    · exact (backEn_no.1 e).elim
    · exact (backEn_no.2 e).elim
  tab := ht
theorem dead_no {j : Nat} {y : PV} : (ρ2.map fun _ => (Slot.dead : Slot))[j]? ≠ some (.own y) ∧ (ρ2.map fun _ => (Slot.dead : Slot))[j]? ≠ some (.prm y) := by
  constructor <;> intro e <;> rw [List.getElem?_map, Option.map_eq_some_iff] at e <;> obtain ⟨_, _, z⟩ := e <;> cases z
theorem SR.deads (r : SR (eG G a) σ00 I2 H2 σ2 ρ2) (ht : TabI G.tabs I2 H2) : SR G σ0 I2 H2 σ2 (ρ2.map fun _ => .dead) where
  same := r.same
  len := by rw [r.len, List.length_map]
  val := fun j y e => by rw [List.getElem?_map, Option.map_eq_some_iff] at e; obtain ⟨_, _, z⟩ := e; cases z
  own := fun j y e => by
    rcases e with e | e
    · exact (dead_no.1 e).elim
    · exact (dead_no.2 e).elim
  prm := fun j y e => (dead_no.2 e).elim
  sep := fun j l y z b e => by
    rcases e with e | e
    · exact (dead_no.1 e).elim
    · exact (dead_no.2 e).elim
  tab := ht
end
section
variable {X : Cx} {C : Dc} {pos : Pos}
theorem ds_try {i m : Nat} {x n : Str} {body suite : List Stmt} {b₀ : Stmt} {np pos' : Pos} {B : SX} {S : Str → SX} {q : Str → Option Bool}
    (hs : X.stack = X.env :: X.outer) (hf : X.env.frame = some X.env.locals) (hN : X.N.Nodup) (hm : X.N.length = m) (hi : X.N[i]? = some n) (hln : X.env.kindOf n = some .local) (hc : Names X x (.ref (C.G.cls x))) (tk : Takes X C.W)
    (hq : ∀ k b, q k = some b → PySem.W.exmOne X.K (.ref (C.G.cls k)) (.ref (C.G.cls x)) = some b)
    (hb : ∀ (W : WX) (pn : List (Addr × Obj)) (xe : Value → Shared → Prop), Takes (X.tr pn xe) W → PassesOwn (model X.prog X.w) X.A X.env xe → DSs (X.tr pn xe) ⟨C.G, C.σ0, W⟩ body B)
    (hsu : ∀ (k : Str) (a : Addr) (oe : Obj) (pn : List (Addr × Obj)), q k = some true → Zc (.ref (C.G.cls k)) none oe → (∃ vs, oe.data = .fields vs) → DSs (X.suite a ((a, oe) :: pn)) ⟨eG C.G a, C.σ0, fun _ _ _ _ => False⟩ (b₀ :: suite) (S k)) :
    DS X C (.Try body [.ExceptHandler (some (.Name x np)) (some n) (b₀ :: suite) pos'] [] [] pos) (sTry m i q B S) := by
  refine PS.imp (ps_try_as (ts := fun a cls d D σ H => ∃ k, cls = .ref (C.G.cls k) ∧ d = none ∧ q k = some true ∧ (σ.length = X.N.length → tSt (eG C.G a) C.σ0 (fun _ _ _ _ => False) (S k) D σ H)) hs hf hN hi hln hc tk
    (fun W pn xe t p => hb W pn xe t p) (fun a oe cls d pn hz hd => ⟨fun pins s σ H D I ⟨k, e1, e2, hqk, h⟩ => ?_⟩)) fun D σ H ⟨I, ρ, r, k⟩ => ?_
  · subst e1; subst e2
    exact (hsu k a oe pn hqk hz hd).run pins s σ H D I (h I.len)
  refine ⟨I, ρ, r, ?_⟩
  unfold sTry at k
  cases eb : B ρ with
  | stuck => rw [eb] at k; exact k
  | ok o =>
    rw [eb] at k
    cases o <;> exact k
  | exc c =>
    rw [eb] at k
    dsimp only at k
    intro I1 H1 σ1 xs
    cases eq : q c with
    | none => rw [eq] at k; exact k.elim
    | some b =>
      rw [eq] at k
      refine ⟨b, hq c b eq, ?_, ?_⟩
      · intro hbt a ha
        subst hbt
        dsimp only at k
        refine ⟨c, rfl, rfl, eq, fun hl => ⟨I1, exEn m i, SR.suite r xs (hl.trans hm), ?_⟩⟩
        have ht := xs.tab.tabs r.tab
        cases es : S c (exEn m i) with
        | stuck => rw [es] at k; exact k.elim
        | exc c' => rw [es] at k; exact k.elim
        | ok o =>
          rw [es] at k
          cases o with
          | nx ρ2 => exact fun I2 H2 σ2 r2 s2 => k I2 H2 _ (r2.back (s2.tab.tabs ht)) (stp_suite xs s2 fun _ _ => backEn_no)
          | bk ρ2 => exact k.elim
          | ct ρ2 => exact k.elim
          | rt s ρ2 =>
            cases s with
            | val y =>
              dsimp only at k
              split at k
              · rename_i hy
                exact fun I2 H2 σ2 v r2 s2 ro => k I2 H2 σ2 v (r2.deads (s2.tab.tabs ht)) (stp_suite xs s2 fun _ _ => dead_no) (simpleV_rp hy ro)
              · exact k.elim
            | _ => exact k.elim
      · intro hbf
        subst hbf
        exact k I1 H1 σ1 xs
/-- isinstance(e, D), e the caught exception -/
def eIsE (i : Nat) (b : Bool) : PX := fun ρ => match ρ[i]? with
  | some (.val (.cl c)) => if c = "#e" then .ok (.val (.bl b), ρ) else .stuck
  | _ => .stuck
theorem room_s {k : Nat} {A : Around} {e : Option Value} (h : L2.Room k A) (n : Nat) (hn : n ≤ 190 := by decide) : (A.mark e).units + n < cLine := room_u h n hn
/-- the classes as isinstance asks -/
theorem kit_of {K : PySem.W.Frag} {c d : Value} {b : Bool} (h : PySem.W.exmOne K c d = some b) (hb : b = true ∨ (c == d) = false) : PySem.W.kitOne K c d = some b := by
  unfold PySem.W.exmOne at h
  split at h
  · unfold PySem.W.kitOne
    rcases hb with rfl | hb
    · split
      · rfl
      · exact h
    · rw [hb, if_neg Bool.false_ne_true]; exact h
  · cases h
/-- isinstance(e, D), D an own exception's class -/
theorem de_isE {T : List Nat} {p p1 p2 : Pos} {n d : Str} {i : Nat} {b : Bool} {D a Dd : Addr} (hcall : CallR X (.builtin "isinstance") (rIsE X.K D a)) (hG : C.G.cls "#e" = a) (hm : X.mg "isinstance" = none) (hd : X.mg d = some (.ref Dd)) (hk : PySem.W.kitOne X.K (.ref D) (.ref Dd) = some b) (hx : PE X (.Name n p1) (tVar i))
    (hgi : Gl X "isinstance" := by rfl) (hgd : Gl X d := by rfl) (hdb : (d == ("__debug__" : Str)) = false := by decide)
    (he : starEach [.Name n p1, .Name d p2] X.env = (false, eval (.Name n p1) X.env) :: starEach [.Name d p2] X.env := by rfl) (hpl : (backTo pos (starEach [.Name d p2] X.env)).any (·.1) = false := by rfl)
    (he2 : starEach [.Name d p2] X.env = (false, eval (.Name d p2) X.env) :: starEach [] X.env := by rfl) :
    DE X C T (.Call (.Name "isinstance" p) [.Name n p1, .Name d p2] [] pos) (eIsE i b) := by
  refine PE.imp (pe_callB hcall hgi hm (by decide +kernel) (pa_cons hx (pa_cons (pe_glob (v := .ref Dd) hgd hd rfl hdb) pa_nil he2) he) (by decide) (by decide) he hpl) fun σ H Q ⟨I, ρ, r, k⟩ => ?_
  unfold eIsE at k
  split at k
  · rename_i c e
    split at k
    · rename_i hc
      subst hc
      obtain ⟨v, h1, h2⟩ := r.val i _ e
      cases h2
      rw [hG] at h1
      exact ⟨.ref a, h1, .ref Dd, .ref Dd, b, rfl, fun u ru => ru, hk, k I H _ (.refl r) (.bl b)⟩
    · exact k.elim
  · exact k.elim
/-- isinstance(e, ValueError) -/
theorem de_isEV {T : List Nat} {p p1 p2 : Pos} {n d : Str} {i : Nat} {b : Bool} {D a : Addr} {t : String} (hcall : CallR X (.builtin "isinstance") (rIsE X.K D a)) (hG : C.G.cls "#e" = a) (hm : X.mg "isinstance" = none) (hd : X.mg d = none) (hv : bootBuiltins d = some (.type t)) (hk : PySem.W.kitOne X.K (.ref D) (.type t) = some b) (hx : PE X (.Name n p1) (tVar i))
    (hgi : Gl X "isinstance" := by rfl) (hgd : Gl X d := by rfl) (hn : d ≠ "__name__" := by decide) (hdb : (d == ("__debug__" : Str)) = false := by decide)
    (he : starEach [.Name n p1, .Name d p2] X.env = (false, eval (.Name n p1) X.env) :: starEach [.Name d p2] X.env := by rfl) (hpl : (backTo pos (starEach [.Name d p2] X.env)).any (·.1) = false := by rfl)
    (he2 : starEach [.Name d p2] X.env = (false, eval (.Name d p2) X.env) :: starEach [] X.env := by rfl) :
    DE X C T (.Call (.Name "isinstance" p) [.Name n p1, .Name d p2] [] pos) (eIsE i b) := by
  have h2 : PE X (.Name d p2) (tC (.ty t)) := ⟨fun pins s σ H Q I h => ld_blt I hgd hd hv ⟨.ty t, H, I, rfl, h⟩ hn hdb⟩
  refine PE.imp (pe_callB hcall hgi hm (by decide +kernel) (pa_cons hx (pa_cons h2 pa_nil he2) he) (by decide) (by decide) he hpl) fun σ H Q ⟨I, ρ, r, k⟩ => ?_
  unfold eIsE at k
  split at k
  · rename_i c e
    split at k
    · rename_i hc
      subst hc
      obtain ⟨v, h1, h2⟩ := r.val i _ e
      cases h2
      rw [hG] at h1
      exact ⟨.ref a, h1, .ty t, .type t, b, rfl, fun u ru => ru, hk, k I H _ (.refl r) (.bl b)⟩
    · exact k.elim
  · exact k.elim
/-- what nothing is known of -/
def sNo : SX := fun _ => .stuck
def eNo : PX := fun _ => .stuck
theorem ds_no {st : Stmt} : DS X C st sNo := ⟨fun _ _ _ _ _ _ ⟨_, _, _, k⟩ => k.elim⟩
theorem de_no {T : List Nat} {e : Expr} : DE X C T e eNo := ⟨fun _ _ _ _ _ _ ⟨_, _, _, k⟩ => k.elim⟩
end
end BF

set_option maxRecDepth 100000
set_option maxHeartbeats 4000000
namespace BF
open PySem PySem.Spec L2
open PyProof.Rows hiding St
set_option autoImplicit false
/-- nothing is raised -/
def nX : Str → Prop := fun _ => False
section
variable {α β γ δ : Type} {X : Str → Prop}
theorem ite_prop {c P R : Prop} [Decidable c] : (if c then P else R) = ((c → P) ∧ (¬ c → R)) := by
  by_cases h : c
  · rw [if_pos h, eq_true h]; simp
  · rw [if_neg h, eq_false h]; simp
end

def vat (i : Nat) (ρ : En) : Res PV := match ρ[i]? with
  | some (.val x) => .ok x
  | _ => .stuck
theorem vat0 {x : PV} {r : En} : vat 0 (.val x :: r) = .ok x := (rfl)
theorem vatS {n : Nat} {s : Slot} {r : En} : vat (n + 1) (s :: r) = vat n r := by simp [vat]
theorem own0 {x : PV} {r : En} : ownAt 0 (.own x :: r) = .ok x := (rfl)
theorem prm0 {x : PV} {r : En} : ownAt 0 (.prm x :: r) = .ok x := (rfl)
theorem ownS {n : Nat} {s : Slot} {r : En} : ownAt (n + 1) (s :: r) = ownAt n r := by simp [ownAt]
theorem putS0 {y : PV} {s : Slot} {r : En} : putS 0 y (s :: r) = reOwn s y :: r := by simp [putS]
theorem putSS {n : Nat} {y : PV} {s : Slot} {r : En} : putS (n + 1) y (s :: r) = s :: putS n y r := by
  simp only [putS, List.getElem?_cons_succ, List.set_cons_succ]
  cases r[n]? <;> rfl
theorem reOwn_val {x y : PV} : reOwn (.val x) y = .val x := (rfl)
theorem frz0 {x : PV} {r : En} : frzE 0 (.own x :: r) = .val x :: r := (rfl)
theorem frzS {n : Nat} {s : Slot} {r : En} : frzE (n + 1) (s :: r) = s :: frzE n r := by
  unfold frzE
  simp only [List.getElem?_cons_succ, List.set_cons_succ]
  cases r[n]? with
  | none => rfl
  | some t => cases t <;> rfl
theorem kill0 {ρ : En} : killE [] ρ = ρ := (rfl)
theorem killS {i : Nat} {is : List Nat} {ρ : En} : killE (i :: is) ρ = killE is (ρ.set i .dead) := (rfl)
theorem set0 {s t : Slot} {r : En} : List.set (t :: r) 0 s = s :: r := (rfl)
theorem setS {n : Nat} {s t : Slot} {r : En} : List.set (t :: r) (n + 1) s = t :: r.set n s := (rfl)
theorem pv_prm (x : PV) : (Slot.prm x).pv = .non := (rfl)

section
variable {X : Str → Prop} {ρ : En} {K : Slot → En → Prop} {KB : Bool → En → Prop} {KA : List PV → En → Prop}
def getR (o : Option PV) : Res PV := match o with
  | some y => .ok y
  | none => .stuck
theorem getR_some {y : PV} : getR (some y) = .ok y := (rfl)
end

theorem allOwn0 {ρ : En} : allOwn ρ [] = true := (rfl)
theorem allOwnN {ρ : En} {bs : List (Option Nat)} : allOwn ρ (none :: bs) = allOwn ρ bs := (rfl)
/-- slot i is own or by reference -/
def isOwn (i : Nat) (ρ : En) : Bool := match ρ[i]? with
  | some (.own _) => true
  | some (.prm _) => true
  | _ => false
theorem allOwnS {ρ : En} {i : Nat} {bs : List (Option Nat)} : allOwn ρ (some i :: bs) = (isOwn i ρ && allOwn ρ bs) := (rfl)
theorem isOwn0 {x : PV} {r : En} : isOwn 0 (.own x :: r) = true := (rfl)
theorem isPrm0 {x : PV} {r : En} : isOwn 0 (.prm x :: r) = true := (rfl)
theorem isOwnS {n : Nat} {s : Slot} {r : En} : isOwn (n + 1) (s :: r) = isOwn n r := by simp [isOwn]
def slotO (i : Nat) (ρ : En) : Slot := match ρ[i]? with
  | some (.own y) => .own y
  | some (.prm y) => .own y
  | _ => .dead
theorem slotO0 {x : PV} {r : En} : slotO 0 (.own x :: r) = .own x := (rfl)
theorem slotP0 {x : PV} {r : En} : slotO 0 (.prm x :: r) = .own x := (rfl)
theorem slotOS {n : Nat} {s : Slot} {r : En} : slotO (n + 1) (s :: r) = slotO n r := by simp [slotO]
theorem argS0 {ρ : En} {xs : List PV} : argS ρ [] xs = [] := (rfl)
theorem argSN {ρ : En} {bs : List (Option Nat)} {x : PV} {xs : List PV} : argS ρ (none :: bs) (x :: xs) = .val x :: argS ρ bs xs := (rfl)
theorem argSS {ρ : En} {i : Nat} {bs : List (Option Nat)} {xs : List PV} : argS ρ (some i :: bs) xs = slotO i ρ :: argS ρ bs xs := (rfl)
theorem putB0 {ss : List Slot} {ρ : En} : putBack [] ss ρ = ρ := by cases ss <;> rfl
theorem putBN {bs : List (Option Nat)} {s : Slot} {ss : List Slot} {ρ : En} : putBack (none :: bs) (s :: ss) ρ = putBack bs ss ρ := (rfl)
theorem putBO {bs : List (Option Nat)} {i : Nat} {y : PV} {ss : List Slot} {ρ : En} : putBack (some i :: bs) (.own y :: ss) ρ = putBack bs ss (putS i y ρ) := (rfl)

section
variable {X : Str → Prop} {ρ : En} {K : Out → Prop}
def ownAt' (i : Nat) (ρ : En) : Res PV := match ρ[i]? with
  | some (.own x) => .ok x
  | _ => .stuck
theorem own0' {x : PV} {r : En} : ownAt' 0 (.own x :: r) = .ok x := (rfl)
theorem ownS' {n : Nat} {s : Slot} {r : En} : ownAt' (n + 1) (s :: r) = ownAt' n r := by simp [ownAt']
theorem own_cases (i : Nat) (ρ : En) : (∃ x, ownAt i ρ = .ok x) ∨ ownAt i ρ = .stuck := by
  unfold ownAt; split
  · exact .inl ⟨_, rfl⟩
  · exact .inl ⟨_, rfl⟩
  · exact .inr rfl
section
variable {Q : En → Prop}
end
end

section
variable {X : Str → Prop} {α : Type}
end

namespace Raw
/-- m comes to an end of which Q holds, or raises what X holds of -/
def WP {α : Type} (m : Res α) (Q : α → Prop) (X : Str → Prop) : Prop := match m with
  | .ok a => Q a
  | .exc c => X c
  | .stuck => False
/-- .. of pairs -/
def W2 {α β : Type} (m : Res (α × β)) (Q : α → β → Prop) (X : Str → Prop) : Prop := WP m (fun p => Q p.1 p.2) X
section
variable {α β γ δ : Type} {X : Str → Prop}
theorem wp_ok {a : α} {Q : α → Prop} : WP (.ok a) Q X = Q a := (rfl)
theorem wp_exc {c : Str} {Q : α → Prop} : WP (.exc c) Q X = X c := (rfl)
theorem wp_stuck {Q : α → Prop} : WP .stuck Q X = False := (rfl)
theorem wp_bind {m : Res α} {f : α → Res β} {Q : β → Prop} : WP (m >>= f) Q X = WP m (fun a => WP (f a) Q X) X := by cases m <;> rfl
theorem w2_ok {a : α} {b : β} {Q : α → β → Prop} : W2 (.ok (a, b)) Q X = Q a b := (rfl)
theorem w2_exc {c : Str} {Q : α → β → Prop} : W2 (.exc c) Q X = X c := (rfl)
theorem w2_stuck {Q : α → β → Prop} : W2 .stuck Q X = False := (rfl)
theorem w2_bind1 {m : Res α} {f : α → Res (β × γ)} {Q : β → γ → Prop} : W2 (m >>= f) Q X = WP m (fun a => W2 (f a) Q X) X := by cases m <;> rfl
theorem w2_bind {m : Res (α × δ)} {f : α × δ → Res (β × γ)} {Q : β → γ → Prop} : W2 (m >>= f) Q X = W2 m (fun a b => W2 (f (a, b)) Q X) X := by cases m <;> rfl
theorem wp_bind2 {m : Res (α × δ)} {f : α × δ → Res β} {Q : β → Prop} : WP (m >>= f) Q X = W2 m (fun a b => WP (f (a, b)) Q X) X := by cases m <;> rfl
theorem WP.mono {m : Res α} {Q R : α → Prop} (h : WP m Q X) (k : ∀ a, Q a → R a) : WP m R X := by
  cases m with
  | ok a => exact k a h
  | exc c => exact h
  | stuck => exact h.elim
theorem W2.mono {m : Res (α × β)} {Q R : α → β → Prop} (h : W2 m Q X) (k : ∀ a b, Q a b → R a b) : W2 m R X := WP.mono h fun a => k a.1 a.2
theorem WP.of {m : Res α} {a : α} {Q : α → Prop} (e : m = .ok a) (h : Q a) : WP m Q X := by subst e; exact h
theorem W2.of {m : Res (α × β)} {a : α} {b : β} {Q : α → β → Prop} (e : m = .ok (a, b)) (h : Q a b) : W2 m Q X := by subst e; exact h
theorem WP.out {m : Res α} {Q : α → Prop} (h : WP m Q nX) : ∃ a, m = .ok a ∧ Q a := by
  cases m with
  | ok a => exact ⟨a, rfl, h⟩
  | exc c => exact h.elim
  | stuck => exact h.elim
theorem W2.out {m : Res (α × β)} {Q : α → β → Prop} (h : W2 m Q nX) : ∃ a b, m = .ok (a, b) ∧ Q a b := by
  obtain ⟨⟨a, b⟩, e, q⟩ := WP.out h
  exact ⟨a, b, e, q⟩
theorem W2.eq {m : Res (α × β)} {a : α} {b : β} (h : W2 m (fun x y => x = a ∧ y = b) nX) : m = .ok (a, b) := by
  obtain ⟨x, y, e, rfl, rfl⟩ := h.out; exact e
theorem WP.eq {m : Res α} {a : α} (h : WP m (fun x => x = a) nX) : m = .ok a := by
  obtain ⟨x, e, rfl⟩ := h.out; exact e
theorem W2.raises {m : Res (α × β)} {c : Str} (h : W2 m (fun _ _ => False) fun d => d = c) : m = .exc c := by
  cases m with
  | ok a => exact h.elim
  | exc c => have e : _ = _ := h; rw [e]
  | stuck => exact h.elim
theorem wp_req {c : Prop} [Decidable c] {m : Res α} {Q : α → Prop} : WP (if c then m else .stuck) Q X = (c ∧ WP m Q X) := by
  by_cases h : c
  · rw [if_pos h, eq_true h, true_and]
  · rw [if_neg h, eq_false h, false_and]; rfl
theorem w2_req {c : Prop} [Decidable c] {m : Res (α × β)} {Q : α → β → Prop} : W2 (if c then m else .stuck) Q X = (c ∧ W2 m Q X) := wp_req
theorem wp_ite {c : Prop} [Decidable c] {m n : Res α} {Q : α → Prop} : WP (if c then m else n) Q X = ((c → WP m Q X) ∧ (¬ c → WP n Q X)) := by
  by_cases h : c
  · rw [if_pos h, eq_true h]; simp
  · rw [if_neg h, eq_false h]; simp
theorem w2_ite {c : Prop} [Decidable c] {m n : Res (α × β)} {Q : α → β → Prop} : W2 (if c then m else n) Q X = ((c → W2 m Q X) ∧ (¬ c → W2 n Q X)) := wp_ite
theorem wp_noX {m : Res α} {Q : α → Prop} : WP (noX m) Q X = WP m Q nX := by cases m <;> rfl
theorem w2_noX {m : Res (α × β)} {Q : α → β → Prop} : W2 (noX m) Q X = W2 m Q nX := by cases m <;> rfl
end

section
variable {X : Str → Prop} {ρ : En} {K : Slot → En → Prop} {KB : Bool → En → Prop} {KA : List PV → En → Prop}
theorem w_eC {x : PV} : W2 (eC x ρ) K X = K (.val x) ρ := (rfl)
theorem w_eV {i : Nat} : W2 (eV i ρ) K X = WP (vat i ρ) (fun x => K (.val x) ρ) X := by
  unfold vat eV; cases ρ[i]? with
  | none => rfl
  | some s => cases s <;> rfl
theorem w_eBin {f : PV → PV → Res Slot} {E F : PX} : W2 (eBin f E F ρ) K X = W2 (E ρ) (fun s ρ1 => W2 (F ρ1) (fun t ρ2 => WP (f s.pv t.pv) (fun u => K u ρ2) X) X) X := by
  unfold eBin; simp only [w2_bind]; try simp only [w2_bind1, w2_ok]; try rfl
theorem w_eUn {f : PV → Res Slot} {E : PX} : W2 (eUn f E ρ) K X = W2 (E ρ) (fun s ρ1 => WP (f s.pv) (fun u => K u ρ1) X) X := by
  unfold eUn; simp only [w2_bind]; try simp only [w2_bind1, w2_ok]; try rfl
theorem w_aNil : W2 (aNil ρ) KA X = KA [] ρ := (rfl)
theorem w_aCons {E : PX} {A : AX} : W2 (aCons E A ρ) KA X = W2 (E ρ) (fun s ρ1 => W2 (A ρ1) (fun xs ρ2 => KA (s.pv :: xs) ρ2) X) X := by
  unfold aCons; simp only [w2_bind]; try simp only [w2_bind1, w2_ok]; try rfl
theorem w_eTup {A : AX} : W2 (eTup A ρ) K X = W2 (A ρ) (fun xs ρ1 => xs.length ≤ sizeLine ∧ K (.val (.tup xs)) ρ1) X := by
  unfold eTup; simp only [w2_bind, w2_req, w2_ok]; try rfl
theorem w_eLst {A : AX} : W2 (eLst A ρ) K X = W2 (A ρ) (fun xs ρ1 => xs.length ≤ sizeLine ∧ K (.own (.lst xs)) ρ1) X := by
  unfold eLst; simp only [w2_bind, w2_req, w2_ok]; try rfl
theorem w_eN {f : List PV → Res Slot} {A : AX} : W2 (eN f A ρ) K X = W2 (A ρ) (fun xs ρ1 => WP (f xs) (fun u => K u ρ1) X) X := by
  unfold eN; simp only [w2_bind]; try simp only [w2_bind1, w2_ok]; try rfl
theorem w_bT {f : PV → Res Bool} {E : PX} : W2 (bT E f ρ) KB X = W2 (E ρ) (fun s ρ1 => WP (f s.pv) (fun b => KB b ρ1) X) X := by
  unfold bT; simp only [w2_bind]; try simp only [w2_bind1, w2_ok]; try rfl
theorem w_bNot {E : BX} : W2 (bNot E ρ) KB X = W2 (E ρ) (fun b ρ1 => KB (!b) ρ1) X := by
  unfold bNot; simp only [w2_bind]; try simp only [w2_bind1, w2_ok]; try rfl
theorem w_bYes : W2 (bYes ρ) KB X = KB true ρ := (rfl)
/-- what is done of a truth value -/
def cond2 (b : Bool) (P R : Prop) : Prop := if b = true then P else R
theorem cond2_t {P R : Prop} : cond2 true P R = P := (rfl)
theorem cond2_f {P R : Prop} : cond2 false P R = R := (rfl)
theorem cond2_not {b : Bool} {P R : Prop} : cond2 (!b) P R = cond2 b R P := by cases b <;> rfl
theorem cond2_d {c P R : Prop} [Decidable c] : cond2 (decide c) P R = ((c → P) ∧ (¬ c → R)) := by
  unfold cond2; simp only [decide_eq_true_eq]; exact ite_prop
theorem cond2_b {b : Bool} {P R : Prop} : cond2 b P R = ((b = true → P) ∧ (b = false → R)) := by cases b <;> simp [cond2]
theorem w2_if {α β : Type} {b : Bool} {m n : Res (α × β)} {Q : α → β → Prop} : W2 (if b = true then m else n) Q X = cond2 b (W2 m Q X) (W2 n Q X) := by cases b <;> rfl
theorem wp_if {α : Type} {b : Bool} {m n : Res α} {Q : α → Prop} : WP (if b = true then m else n) Q X = cond2 b (WP m Q X) (WP n Q X) := by cases b <;> rfl
theorem w_bAnd {E F : BX} : W2 (bAnd E F ρ) KB X = W2 (E ρ) (fun b ρ1 => cond2 b (W2 (F ρ1) KB X) (KB false ρ1)) X := by
  unfold bAnd; simp only [w2_bind, w2_if, w2_ok]; try rfl
theorem w_bOr {E F : BX} : W2 (bOr E F ρ) KB X = W2 (E ρ) (fun b ρ1 => cond2 b (KB true ρ1) (W2 (F ρ1) KB X)) X := by
  unfold bOr; simp only [w2_bind, w2_if, w2_ok]; try rfl
theorem w_eIf {B : BX} {E F : PX} : W2 (eIf B E F ρ) K X = W2 (B ρ) (fun b ρ1 => cond2 b (W2 (E ρ1) K X) (W2 (F ρ1) K X)) X := by
  unfold eIf; simp only [w2_bind, w2_if, w2_ok]; try rfl
theorem w_eAnd {E F : PX} : W2 (eAnd E F ρ) K X = W2 (E ρ) (fun s ρ1 => WP (pTru s.pv) (fun b => cond2 b (W2 (F ρ1) K X) (K (.val s.pv) ρ1)) X) X := by
  unfold eAnd; simp only [w2_bind]; try simp only [w2_bind1, w2_if, w2_ok]; try rfl
theorem w_eOr {E F : PX} : W2 (eOr E F ρ) K X = W2 (E ρ) (fun s ρ1 => WP (pTru s.pv) (fun b => cond2 b (K (.val s.pv) ρ1) (W2 (F ρ1) K X)) X) X := by
  unfold eOr; simp only [w2_bind]; try simp only [w2_bind1, w2_if, w2_ok]; try rfl
theorem w_eNot {E : PX} : W2 (eNot E ρ) K X = W2 (E ρ) (fun s ρ1 => WP (pTru s.pv) (fun b => K (.val (.bl (!b))) ρ1) X) X := by
  unfold eNot; simp only [w2_bind]; try simp only [w2_bind1, w2_if, w2_ok]; try rfl
def chainK (Ks : Slot → Prop) (g : Prop) : Slot → Prop
  | .val (.bl true) => g
  | .val (.bl false) => Ks (.val (.bl false))
  | _ => False
theorem chain_b {Ks : Slot → Prop} {g : Prop} {b : Bool} : chainK Ks g (.val (.bl b)) = cond2 b g (Ks (.val (.bl false))) := by cases b <;> rfl
theorem w_eChain {f g : PV → PV → Res Slot} {E F H : PX} : W2 (eChain f g E F H ρ) K X = W2 (E ρ) (fun s ρ1 => W2 (F ρ1) (fun t ρ2 => WP (f s.pv t.pv) (fun u => chainK (fun v => K v ρ2) (W2 (H ρ2) (fun v ρ3 => WP (g t.pv v.pv) (fun z => K z ρ3) X) X) u) X) X) X := by
  unfold eChain; simp only [w2_bind]; try simp only [w2_bind1]; try rfl
  congr 1; funext s ρ1; congr 1; funext t ρ2; congr 1; funext u
  cases u with
  | val x => cases x with
    | bl b => cases b with
      | true => simp only [chainK, w2_bind]; simp only [w2_bind1]; rfl
      | false => rfl
    | _ => rfl
  | _ => rfl
theorem w_oN {Q : Option Int → En → Prop} : W2 (oN ρ) Q X = Q none ρ := (rfl)
def intK (Q : Int → Prop) : PV → Prop
  | .int i => Q i
  | _ => False
theorem intK_int {Q : Int → Prop} {i : Int} : intK Q (.int i) = Q i := (rfl)
theorem w_oS {E : PX} {Q : Option Int → En → Prop} : W2 (oS E ρ) Q X = W2 (E ρ) (fun s ρ1 => intK (fun i => Q (some i) ρ1) s.pv) X := by
  unfold oS; simp only [w2_bind]; congr 1; funext s ρ1
  cases s.pv <;> rfl
theorem w_eSl {E : PX} {A B : OX} : W2 (eSl E A B ρ) K X = W2 (E ρ) (fun s ρ1 => W2 (A ρ1) (fun a ρ2 => W2 (B ρ2) (fun b ρ3 => WP (pSl s.pv a b) (fun u => K u ρ3) X) X) X) X := by
  unfold eSl; simp only [w2_bind]; try simp only [w2_bind1, w2_ok]; try rfl
theorem w_eDct0 : W2 (eDct0 ρ) K X = K (.own (.dct [])) ρ := (rfl)
theorem w_eBor {i : Nat} {E : PX} : W2 (eBor i E ρ) K X = WP (ownAt i ρ) (fun x => W2 (E (ρ.set i (.val x))) (fun s _ => flatR s = true ∧ K s ρ) X) X := by
  unfold eBor; rw [w2_bind1]; congr 1; funext x; simp only [w2_req, w2_bind]; try simp only [w2_bind1, w2_bind]
  try rfl
theorem w_bBor {i : Nat} {B : BX} : W2 (bBor i B ρ) KB X = WP (ownAt i ρ) (fun x => W2 (B (ρ.set i (.val x))) (fun s _ => KB s ρ) X) X := by
  unfold bBor; rw [w2_bind1]; congr 1; funext x; simp only [w2_req, w2_bind]; try simp only [w2_bind1, w2_bind]
  try rfl
theorem w_eMut {i : Nat} {kd : PV → Bool} {f : MF} {A : AX} : W2 (eMut i kd f A ρ) K X = WP (ownAt i ρ) (fun x0 => kd x0 = true ∧ W2 (A ρ) (fun xs ρ1 => WP (ownAt i ρ1) (fun x => W2 (f x xs) (fun y r => K (.val r) (putS i y ρ1)) X) X) X) X := by
  unfold eMut; rw [w2_bind1]; congr 1; funext x; simp only [w2_req, w2_bind]; try simp only [w2_bind1, w2_bind]
  try rfl
def ownK (Q : PV → Prop) : Slot → Prop
  | .own x => Q x
  | _ => False
theorem ownK_own {Q : PV → Prop} {x : PV} : ownK Q (.own x) = Q x := (rfl)
theorem w_eMutT {E : PX} {kd : PV → Bool} {f : MF} {A : AX} : W2 (eMutT E kd f A ρ) K X = W2 (E ρ) (fun s ρ1 => ownK (fun x => kd x = true ∧ W2 (A ρ1) (fun xs ρ2 => W2 (f x xs) (fun y r => K (.val r) ρ2) X) X) s) X := by
  unfold eMutT; simp only [w2_bind]; congr 1; funext s ρ1
  cases s <;> try rfl
  simp only [ownK, w2_bind, w2_req]
  exact rfl
def lstK (Q : List PV → Int → Prop) : PV → PV → Prop
  | .lst xs, .int i => Q xs i
  | _, _ => False
theorem lstK_li {Q : List PV → Int → Prop} {xs : List PV} {i : Int} : lstK Q (.lst xs) (.int i) = Q xs i := (rfl)
theorem w_eIxO {i : Nat} {E : PX} : W2 (eIxO i E ρ) K X = WP (ownAt i ρ) (fun _ => W2 (E ρ) (fun s ρ1 => WP (ownAt i ρ1) (fun x => lstK (fun xs j => WP (pAt xs j) (fun u => K u ρ1) X) x s.pv) X) X) X := by
  unfold eIxO; rw [w2_bind1]; congr 1; funext x0; rw [w2_bind]; congr 1; funext s ρ1; rw [w2_bind1]; congr 1; funext x
  generalize s.pv = y
  cases x <;> cases y <;> try rfl
  simp only [lstK, pAt]
  rename_i xs j
  cases L2.atI xs j <;> rfl
def dctK (Q : List (Key × PV) → Key → Prop) : PV → Option Key → Prop
  | .dct xs, some i => Q xs i
  | _, _ => False
theorem dctK_dk {Q : List (Key × PV) → Key → Prop} {xs : List (Key × PV)} {i : Key} : dctK Q (.dct xs) (some i) = Q xs i := (rfl)
theorem w_eGetO {i : Nat} {E : PX} : W2 (eGetO i E ρ) K X = WP (ownAt i ρ) (fun _ => W2 (E ρ) (fun s ρ1 => WP (ownAt i ρ1) (fun x => dctK (fun kvs k => WP (getR (dLook kvs k)) (fun u => K (.val u) ρ1) X) x (keyOf s.pv)) X) X) X := by
  unfold eGetO; rw [w2_bind1]; congr 1; funext x0; rw [w2_bind]; congr 1; funext s ρ1; rw [w2_bind1]; congr 1; funext x
  generalize keyOf s.pv = y
  cases x <;> cases y <;> try rfl
  rename_i xs j
  simp only [dctK]
  cases dLook xs j <;> rfl
theorem w_eCall {n : Nat} {m : FM} {A : AX} : W2 (eCall n m A ρ) K X = W2 (A ρ) (fun xs ρ1 => xs.length = n ∧ W2 (m (xs.map .val)) (fun s _ => K s ρ1) X) X := by
  unfold eCall; simp only [w2_bind]; try simp only [w2_bind1, w2_req, w2_ok]; try rfl
def insK (c x : Str) (Q : List (Str × PV) → Prop) : PV → Prop
  | .ins c' fs => (c' = c ∧ fs.lookup x = none) ∧ Q fs
  | _ => False
theorem w_eMeth {c x : Str} {n : Nat} {m : FM} {E : PX} {A : AX} : W2 (eMeth c x n m E A ρ) K X = W2 (E ρ) (fun o ρ1 => insK c x (fun fs => W2 (A ρ1) (fun xs ρ2 => xs.length = n ∧ W2 (m ((.ins c fs :: xs).map .val)) (fun s _ => K s ρ2) X) X) o.pv) X := by
  unfold eMeth; simp only [w2_bind]; congr 1; funext o ρ1
  generalize o.pv = y
  cases y <;> try rfl
  rename_i c' fs
  simp only [insK, w2_req, w2_bind, w2_ok]
  by_cases h : c' = c
  · subst h; rfl
  · simp [h]
def mkK (K : Slot → Prop) : Slot → List Slot → Prop
  | .val .non, .own y :: _ => K (.own y)
  | _, _ => False
theorem mkK_own {K : Slot → Prop} {y : PV} {r : List Slot} : mkK K (.val .non) (.own y :: r) = K (.own y) := (rfl)
theorem w_eMake {c : Str} {n0 nk : Nat} {gp : List PV → List PV → List PV} {m : FM} {A B : AX} : W2 (eMake c n0 nk gp m A B ρ) K X = W2 (A ρ) (fun xs ρ1 => W2 (B ρ1) (fun ys ρ2 => (xs.length = n0 ∧ ys.length = nk) ∧ W2 (m (.own (.ins c []) :: (gp xs ys).map .val)) (fun s ss => mkK (fun u => K u ρ2) s ss) X) X) X := by
  unfold eMake; simp only [w2_bind, w2_req]; congr 1; funext xs ρ1; congr 1; funext ys ρ2; congr 2; funext s ss
  cases s <;> try rfl
  rename_i x
  cases x <;> try rfl
  cases ss with
  | nil => rfl
  | cons t r => cases t <;> rfl
theorem w_eCallR {bs : List (Option Nat)} {n0 : Nat} {m : FM} {A : AX} : W2 (eCallR bs n0 m A ρ) K X = (allOwn ρ bs = true ∧ W2 (A ρ) (fun xs ρ1 => (xs.length = n0 ∧ allOwn ρ1 bs = true) ∧ W2 (m (argS ρ1 bs xs)) (fun s ss => K s (putBack bs ss ρ1)) X) X) := by
  unfold eCallR; simp only [w2_req, w2_bind, w2_ok]
theorem w_iX {f : PV → Res (List PV)} {E : PX} : W2 (iX f E ρ) KA X = W2 (E ρ) (fun s ρ1 => WP (f s.pv) (fun xs => KA xs ρ1) X) X := by
  unfold iX; simp only [w2_bind]; try simp only [w2_bind1, w2_ok]; try rfl
theorem w_iXs {f : List PV → Res (List PV)} {A : AX} : W2 (iXs f A ρ) KA X = W2 (A ρ) (fun xs ρ1 => WP (f xs) (fun ys => KA ys ρ1) X) X := by
  unfold iXs; simp only [w2_bind]; try simp only [w2_bind1, w2_ok]; try rfl
theorem w_iXo {f : PV → Res (List PV)} {E : PX} : W2 (iXo f E ρ) KA X = W2 (E ρ) (fun s ρ1 => ownK (fun x => WP (f x) (fun xs => KA xs ρ1) X) s) X := by
  unfold iXo; simp only [w2_bind]; congr 1; funext s ρ1
  cases s <;> simp only [ownK, w2_bind1, w2_ok, w2_stuck]
end

section
variable {X : Str → Prop} {ρ : En} {K : Out → Prop}
def seqK (U : SX) (K : Out → Prop) (X : Str → Prop) : Out → Prop
  | .nx ρ => WP (U ρ) K X
  | o => K o
theorem seqK_nx {U : SX} : seqK U K X (.nx ρ) = WP (U ρ) K X := (rfl)
theorem seqK_rt {U : SX} {s : Slot} : seqK U K X (.rt s ρ) = K (.rt s ρ) := (rfl)
theorem seqK_bk {U : SX} : seqK U K X (.bk ρ) = K (.bk ρ) := (rfl)
theorem seqK_ct {U : SX} : seqK U K X (.ct ρ) = K (.ct ρ) := (rfl)
theorem w_sSkip : WP (sSkip ρ) K X = K (.nx ρ) := (rfl)
theorem w_sBrk : WP (sBrk ρ) K X = K (.bk ρ) := (rfl)
theorem w_sCnt : WP (sCnt ρ) K X = K (.ct ρ) := (rfl)
theorem w_sSeq {S U : SX} : WP (sSeq S U ρ) K X = WP (S ρ) (seqK U K X) X := by
  unfold sSeq; rw [wp_bind]; congr 1; funext o; cases o <;> rfl
theorem w_sEx {E : PX} : WP (sEx E ρ) K X = W2 (E ρ) (fun _ ρ1 => K (.nx ρ1)) X := by
  unfold sEx; simp only [wp_bind2, wp_ok]
theorem w_sRet {E : PX} : WP (sRet E ρ) K X = W2 (E ρ) (fun s ρ1 => K (.rt s ρ1)) X := by
  unfold sRet; simp only [wp_bind2, wp_ok]
theorem w_sRetN : WP (sRetN ρ) K X = K (.rt (.val .non) ρ) := (rfl)
theorem w_sRaise {c : Str} : WP (sRaise c ρ) K X = X c := (rfl)
theorem w_sRetO {i : Nat} : WP (sRetO i ρ) K X = WP (ownAt' i ρ) (fun x => K (.rt (.own x) (ρ.set i .dead))) X := by
  unfold sRetO ownAt'; cases ρ[i]? with
  | none => rfl
  | some s => cases s <;> rfl
theorem w_sIf {B : BX} {S U : SX} : WP (sIf B S U ρ) K X = W2 (B ρ) (fun b ρ1 => cond2 b (WP (S ρ1) K X) (WP (U ρ1) K X)) X := by
  unfold sIf; simp only [wp_bind2, wp_if]
theorem w_sSet {i : Nat} {E : PX} : WP (sSet i E ρ) K X = W2 (E ρ) (fun s ρ1 => K (.nx (ρ1.set i (.val s.pv)))) X := by
  unfold sSet; simp only [wp_bind2, wp_ok]
theorem w_sSetO {i : Nat} {E : PX} : WP (sSetO i E ρ) K X = W2 (E ρ) (fun s ρ1 => ownK (fun x => K (.nx (ρ1.set i (.own x)))) s) X := by
  unfold sSetO; simp only [wp_bind2]; congr 1; funext s ρ1; cases s <;> rfl
theorem w_sFrz {i : Nat} {S : SX} : WP (sFrz i S ρ) K X = WP (S (frzE i ρ)) K X := (rfl)
theorem w_sPutL {i : Nat} {E F : PX} : WP (sPutL i E F ρ) K X = W2 (F ρ) (fun p ρ1 => WP (ownAt i ρ1) (fun x0 => isLst x0 = true ∧ W2 (E ρ1) (fun q ρ2 => WP (ownAt i ρ2) (fun x => lstK (fun xs n => WP (lstSet xs n p.pv) (fun y => K (.nx (putS i y ρ2))) X) x q.pv) X) X) X) X := by
  unfold sPutL; simp only [wp_bind2]; congr 1; funext p ρ1
  rcases own_cases i ρ1 with ⟨x0, e⟩ | e
  · rw [e]
    cases x0 <;> simp only [isLst, wp_ok, Bool.false_eq_true, false_and, true_and, wp_stuck, wp_bind2]
    congr 1; funext q ρ2
    rcases own_cases i ρ2 with ⟨x, e⟩ | e
    · rw [e]
      generalize q.pv = y
      cases x <;> cases y <;> try rfl
      simp only [wp_bind, wp_ok, lstK]
    · rw [e]; rfl
  · rw [e]; rfl
theorem w_sPutD {i : Nat} {E F : PX} : WP (sPutD i E F ρ) K X = W2 (F ρ) (fun p ρ1 => WP (ownAt i ρ1) (fun x0 => isDct x0 = true ∧ W2 (E ρ1) (fun q ρ2 => WP (ownAt i ρ2) (fun x => dctK (fun kvs k => kvs.length < sizeLine ∧ K (.nx (putS i (.dct (dPut kvs k p.pv)) ρ2))) x (keyOf q.pv)) X) X) X) X := by
  unfold sPutD; simp only [wp_bind2]; congr 1; funext p ρ1
  rcases own_cases i ρ1 with ⟨x0, e⟩ | e
  · rw [e]
    cases x0 <;> simp only [isDct, wp_ok, Bool.false_eq_true, false_and, true_and, wp_stuck, wp_bind2]
    congr 1; funext q ρ2
    rcases own_cases i ρ2 with ⟨x, e⟩ | e
    · rw [e]
      generalize keyOf q.pv = y
      cases x <;> cases y <;> try rfl
      simp only [wp_req, wp_ok, dctK]
    · rw [e]; rfl
  · rw [e]; rfl
def insF (c : Str) (Q : List (Str × PV) → Prop) : PV → Prop
  | .ins c' fs => (c' = c ∧ fs.length < 1000) ∧ Q fs
  | _ => False
theorem w_sPutF {i : Nat} {c f : Str} {E : PX} : WP (sPutF i c f E ρ) K X = W2 (E ρ) (fun p ρ1 => WP (ownAt i ρ1) (fun x => insF c (fun fs => K (.nx (putS i (.ins c (putFP f p.pv fs)) ρ1))) x) X) X := by
  unfold sPutF; simp only [wp_bind2]; congr 1; funext p ρ1
  rcases own_cases i ρ1 with ⟨x0, e⟩ | e
  · rw [e]
    cases x0 <;> try rfl
    rename_i c' fs
    simp only [wp_req, wp_ok, insF]
    by_cases h : c' = c
    · subst h; rfl
    · simp [h]
  · rw [e]; rfl
theorem w_sFor {F : AX} {t : GX} {S : SX} : WP (sFor F t S ρ) K X = W2 (F ρ) (fun xs ρ1 => WP (loopS (tgt t S) xs ρ1) K X) X := by
  unfold sFor; simp only [wp_bind2]
theorem w_sForD {i : Nat} {f : PV → Res (List PV)} {t : GX} {S : SX} : WP (sForD i f t S ρ) K X = WP (vat i ρ) (fun d => WP (f d) (fun xs => WP (loopS (tgt t S) xs ρ) K X) X) X := by
  unfold sForD; simp only [w_sFor, w_iX, w_eV, pv_val]
theorem w_sAsg {E : PX} {t : GX} : WP (sAsg E t ρ) K X = W2 (E ρ) (fun s ρ1 => WP (noX (t s.pv ρ1)) (fun ρ' => K (.nx ρ')) X) X := by
  unfold sAsg; simp only [wp_bind2]; congr 1; funext s ρ1
  cases t s.pv ρ1 <;> rfl
theorem w_sStar {n i : Nat} {E : PX} {t : GXs} : WP (sStar n i E t ρ) K X = W2 (E ρ) (fun s ρ1 => lstK (fun xs _ => (n ≤ xs.length + 1 ∧ xs.length ≤ 16384) ∧ WP (noX (t (starP n i xs) ρ1)) (fun ρ' => K (.nx ρ')) X) s.pv (.int 0)) X := by
  unfold sStar; simp only [wp_bind2]; congr 1; funext s ρ1
  generalize s.pv = y
  cases y <;> try rfl
  simp only [lstK, wp_req]
  congr 1
  cases t _ ρ1 <;> rfl
theorem w_tgt {t : GX} {S : SX} {x : PV} : WP (tgt t S x ρ) K X = WP (noX (t x ρ)) (fun ρ' => WP (S ρ') K X) X := by
  unfold tgt
  cases t x ρ <;> rfl
def tupK (Q : List PV → Prop) : PV → Prop
  | .tup xs => Q xs
  | _ => False
theorem tupK_t {Q : List PV → Prop} {xs : List PV} : tupK Q (.tup xs) = Q xs := (rfl)
section
variable {Q : En → Prop}
theorem w_gN {i : Nat} {x : PV} : WP (gN i x ρ) Q X = Q (ρ.set i (.val x)) := (rfl)
theorem w_gT {n : Nat} {u : GXs} {x : PV} : WP (gT n u x ρ) Q X = tupK (fun xs => xs.length = n ∧ WP (u xs ρ) Q X) x := by
  unfold gT; cases x <;> try rfl
  simp only [tupK, wp_req]
theorem w_gsNil : WP (gsNil [] ρ) Q X = Q ρ := (rfl)
theorem w_gsCons {t : GX} {u : GXs} {x : PV} {xs : List PV} : WP (gsCons t u (x :: xs) ρ) Q X = WP (t x ρ) (fun ρ' => WP (u xs ρ') Q X) X := by
  simp only [gsCons, wp_bind]
end
/-- a def's end -/
def endK (ss : List Slot) (K : Slot → List Slot → Prop) : Out → Prop
  | .rt s ρ => K s (back ss ρ)
  | .nx ρ => K (.val .non) (back ss ρ)
  | _ => False
theorem endK_rt {ss : List Slot} {K : Slot → List Slot → Prop} {s : Slot} : endK ss K (.rt s ρ) = K s (back ss ρ) := (rfl)
theorem endK_nx {ss : List Slot} {K : Slot → List Slot → Prop} : endK ss K (.nx ρ) = K (.val .non) (back ss ρ) := (rfl)
theorem w_fnM {k : Nat} {S : SX} {ss : List Slot} {K : Slot → List Slot → Prop} : W2 (fnM k S ss) K X = WP (S (ss.map toP ++ List.replicate k .dead)) (endK ss K) X := by
  unfold fnM; rw [w2_bind1]; congr 1; funext o; cases o <;> rfl
end

section
variable {X : Str → Prop} {α : Type}
/-- what stands behind one turn -/
def turnK (I : En → Prop) (K : Out → Prop) : Out → Prop
  | .nx ρ => I ρ
  | .ct ρ => I ρ
  | .bk ρ => K (.nx ρ)
  | .rt s ρ => K (.rt s ρ)
theorem turnK_nx {I : En → Prop} {K : Out → Prop} {ρ : En} : turnK I K (.nx ρ) = I ρ := (rfl)
theorem turnK_ct {I : En → Prop} {K : Out → Prop} {ρ : En} : turnK I K (.ct ρ) = I ρ := (rfl)
theorem turnK_bk {I : En → Prop} {K : Out → Prop} {ρ : En} : turnK I K (.bk ρ) = K (.nx ρ) := (rfl)
theorem turnK_rt {I : En → Prop} {K : Out → Prop} {ρ : En} {s : Slot} : turnK I K (.rt s ρ) = K (.rt s ρ) := (rfl)
theorem w_loop {e : α → PV} {body : PV → SX} {K : Out → Prop} (I : List α → En → Prop)
    (step : ∀ a r ρ, I (a :: r) ρ → WP (body (e a) ρ) (turnK (I r) K) X) (fin : ∀ ρ, I [] ρ → K (.nx ρ)) : ∀ (l : List α) (ρ : En), I l ρ → WP (loopS body (l.map e) ρ) K X
  | [], ρ, h => fin ρ h
  | a :: r, ρ, h => by
    show WP (body (e a) ρ >>= _) K X
    rw [wp_bind]
    refine (step a r ρ h).mono fun o ho => ?_
    cases o with
    | nx ρ' => exact w_loop I step fin r ρ' ho
    | ct ρ' => exact w_loop I step fin r ρ' ho
    | bk ρ' => exact ho
    | rt s ρ' => exact ho
/-- .. where each turn does f to what stands in the environment -/
theorem w_fold {σ : Type} {e : α → PV} {body : PV → SX} {K : Out → Prop} (env : σ → En) (f : σ → α → σ) (l : List α) (s : σ)
    (step : ∀ s, ∀ a ∈ l, WP (body (e a) (env s)) (fun o => o = .nx (env (f s a))) X) (fin : K (.nx (env (l.foldl f s)))) : WP (loopS body (l.map e) (env s)) K X := by
  induction l generalizing s with
  | nil => exact fin
  | cons a r ih =>
    show WP (body (e a) (env s) >>= _) K X
    rw [wp_bind]
    refine (step s a (by simp)).mono fun o ho => ?_
    subst ho
    exact ih (f s a) (fun s a h => step s a (by simp [h])) fin
/-- one turn of a comprehension -/
def lcK (acc : List PV) (J : List PV → En → Prop) (E : PX) (b : Bool) (ρ : En) : Prop := cond2 b (W2 (E ρ) (fun s ρ1 => acc.length < sizeLine ∧ J (acc ++ [s.pv]) ρ1) nX) (J acc ρ)
theorem w_lc {vs : List Nat} {t : GX} {B : BX} {E : PX} {e : α → PV} {K : List PV → En → Prop} (I : List α → List PV → En → Prop)
    (step : ∀ a r acc ρ, I (a :: r) acc ρ → WP (noX (t (e a) (killE vs ρ))) (fun ρ1 => W2 (B ρ1) (lcK acc (I r) E) nX) X) (fin : ∀ acc ρ, I [] acc ρ → K acc ρ) :
    ∀ (l : List α) (acc : List PV) (ρ : En), I l acc ρ → W2 (loopC vs t B E (l.map e) acc ρ) K X
  | [], acc, ρ, h => fin acc ρ h
  | a :: r, acc, ρ, h => by
    have s := step a r acc ρ h
    simp only [List.map_cons, loopC]
    cases ht : t (e a) (killE vs ρ) with
    | exc c => rw [ht] at s; exact s.elim
    | stuck => rw [ht] at s; exact s.elim
    | ok ρ1 =>
      rw [ht] at s
      have s' : W2 (B ρ1) (lcK acc (I r) E) nX := s
      simp only [w2_bind, w2_noX]
      cases hB : B ρ1 with
      | exc c => rw [hB] at s'; exact s'.elim
      | stuck => rw [hB] at s'; exact s'.elim
      | ok p =>
        obtain ⟨b, ρ2⟩ := p
        rw [hB] at s'
        have s2 : lcK acc (I r) E b ρ2 := s'
        show W2 (if b = true then _ else _) K X
        cases b with
        | false => exact w_lc I step fin r acc ρ2 s2
        | true =>
          have s3 : W2 (E ρ2) (fun s ρ1 => acc.length < sizeLine ∧ I r (acc ++ [s.pv]) ρ1) nX := s2
          show W2 (noX (E ρ2) >>= _) K X
          simp only [w2_bind, w2_noX, w2_req]
          cases hE : E ρ2 with
          | exc c => rw [hE] at s3; exact s3.elim
          | stuck => rw [hE] at s3; exact s3.elim
          | ok q =>
            obtain ⟨s, ρ3⟩ := q
            rw [hE] at s3
            exact ⟨s3.1, w_lc I step fin r _ ρ3 s3.2⟩
theorem w_eLc {vs : List Nat} {F : AX} {t : GX} {B : BX} {E : PX} {ρ : En} {K : Slot → En → Prop} : W2 (eLc vs F t B E ρ) K X = W2 (F ρ) (fun xs ρ1 => noOwn vs ρ1 = true ∧ W2 (loopC vs t B E xs [] ρ1) (fun ys ρ2 => K (.own (.lst ys)) (mergeE vs ρ1 ρ2)) X) X := by
  unfold eLc; simp only [w2_bind, w2_req, w2_ok]; try rfl
/-- a comprehension that changes nothing: b tells which, g what is told of each -/
theorem w_lcP {vs : List Nat} {t : GX} {B : BX} {E : PX} {e : α → PV} {K : List PV → En → Prop} (b : α → Bool) (g : α → PV) (l : List α) (ρ : En) (acc : List PV) (env : α → En)
    (hl : acc.length + l.length ≤ sizeLine)
    (hk : ∀ a ∈ l, killE vs (env a) = killE vs ρ)
    (ht : ∀ a ∈ l, t (e a) (killE vs ρ) = .ok (env a))
    (hB : ∀ a ∈ l, W2 (B (env a)) (fun c ρ1 => c = b a ∧ ρ1 = env a) nX)
    (hE : ∀ a ∈ l, b a = true → W2 (E (env a)) (fun s ρ1 => s.pv = g a ∧ ρ1 = env a) nX)
    (hK : ∀ ρ', ρ' = ρ ∨ (∃ a ∈ l, ρ' = env a) → K (acc ++ (l.filter b).map g) ρ') : W2 (loopC vs t B E (l.map e) acc ρ) K X := by
  have key : ∀ (l' : List α) (acc : List PV) (ρ1 : En), (∀ a ∈ l', a ∈ l) → killE vs ρ1 = killE vs ρ → acc.length + l'.length ≤ sizeLine → ∃ ρ', (ρ' = ρ1 ∨ ∃ a ∈ l, ρ' = env a) ∧ loopC vs t B E (l'.map e) acc ρ1 = .ok (acc ++ (l'.filter b).map g, ρ') := by
    intro l'
    induction l' with
    | nil => intro acc ρ1 _ _ _; exact ⟨ρ1, .inl rfl, by simp [loopC]⟩
    | cons a r ih =>
      intro acc ρ1 hm hk1 hlen
      have ha : a ∈ l := hm a (by simp)
      simp only [List.map_cons, loopC, hk1, ht a ha]
      have e1 := (hB a ha).eq
      rw [e1]
      simp only [noX, ok_bind]
      cases hb : b a with
      | true =>
        rw [if_pos rfl]
        obtain ⟨s, ρ2, e2, h2, h3⟩ := (hE a ha hb).out
        subst h3
        rw [e2]
        simp only [noX, ok_bind]
        have hl' : acc.length < sizeLine := by simp at hlen; omega
        rw [if_pos hl', h2]
        obtain ⟨ρ', h4, h5⟩ := ih (acc ++ [g a]) (env a) (fun x hx => hm x (by simp [hx])) (hk a ha) (by simp at hlen ⊢; omega)
        refine ⟨ρ', .inr ?_, by rw [h5]; simp [hb]⟩
        rcases h4 with rfl | h4
        · exact ⟨a, ha, rfl⟩
        · exact h4
      | false =>
        rw [if_neg (by simp)]
        obtain ⟨ρ', h4, h5⟩ := ih acc (env a) (fun x hx => hm x (by simp [hx])) (hk a ha) (by simp at hlen; omega)
        refine ⟨ρ', .inr ?_, by rw [h5]; simp [hb]⟩
        rcases h4 with rfl | h4
        · exact ⟨a, ha, rfl⟩
        · exact h4
  obtain ⟨ρ', h1, h2⟩ := key l acc ρ (fun _ h => h) rfl hl
  exact W2.of h2 (hK ρ' h1)
end
theorem w_eLc2 {vs vs1 : List Nat} {F : AX} {t : GX} {B : BX} {F1 : AX} {t1 : GX} {B1 : BX} {E : PX} {ρ : En} {K : Slot → En → Prop} {X : Str → Prop} : W2 (eLc2 vs vs1 F t B F1 t1 B1 E ρ) K X = W2 (F ρ) (fun xs ρ1 => noOwn vs ρ1 = true ∧ W2 (loopG vs t B (K2 vs1 F1 t1 B1 E) xs [] ρ1) (fun ys ρ2 => K (.own (.lst ys)) (mergeE vs ρ1 ρ2)) X) X := by
  unfold eLc2; simp only [w2_bind, w2_req, w2_ok]
end Raw
universe u
/-- a mark: what it speaks of is not walked into -/
class Tg1 {σ : Sort u} (q : σ) : Type
instance tg1 {σ : Sort u} {q : σ} : Tg1 q := ⟨⟩
def WP {α : Type} (m : Res α) (Q : α → Prop) (X : Str → Prop) [Tg1 Q] : Prop := Raw.WP m Q X
def W2 {α β : Type} (m : Res (α × β)) (Q : α → β → Prop) (X : Str → Prop) [Tg1 Q] : Prop := Raw.W2 m Q X
section
variable {α β γ δ : Type} {X : Str → Prop}
theorem wp_ok {a : α} {Q : α → Prop} : WP (.ok a) Q X = Q a := Raw.wp_ok
theorem wp_exc {c : Str} {Q : α → Prop} : WP (.exc c) Q X = X c := Raw.wp_exc
theorem wp_stuck {Q : α → Prop} : WP .stuck Q X = False := Raw.wp_stuck
theorem wp_bind {m : Res α} {f : α → Res β} {Q : β → Prop} : WP (m >>= f) Q X = WP m (fun a => WP (f a) Q X) X := Raw.wp_bind
theorem w2_ok {a : α} {b : β} {Q : α → β → Prop} : W2 (.ok (a, b)) Q X = Q a b := Raw.w2_ok
theorem w2_exc {c : Str} {Q : α → β → Prop} : W2 (.exc c) Q X = X c := Raw.w2_exc
theorem w2_stuck {Q : α → β → Prop} : W2 .stuck Q X = False := Raw.w2_stuck
theorem w2_bind1 {m : Res α} {f : α → Res (β × γ)} {Q : β → γ → Prop} : W2 (m >>= f) Q X = WP m (fun a => W2 (f a) Q X) X := Raw.w2_bind1
theorem w2_bind {m : Res (α × δ)} {f : α × δ → Res (β × γ)} {Q : β → γ → Prop} : W2 (m >>= f) Q X = W2 m (fun a b => W2 (f (a, b)) Q X) X := Raw.w2_bind
theorem wp_bind2 {m : Res (α × δ)} {f : α × δ → Res β} {Q : β → Prop} : WP (m >>= f) Q X = W2 m (fun a b => WP (f (a, b)) Q X) X := Raw.wp_bind2
theorem WP.mono {m : Res α} {Q R : α → Prop} (h : WP m Q X) (k : ∀ a, Q a → R a) : WP m R X := Raw.WP.mono h k
theorem W2.mono {m : Res (α × β)} {Q R : α → β → Prop} (h : W2 m Q X) (k : ∀ a b, Q a b → R a b) : W2 m R X := Raw.W2.mono h k
theorem WP.of {m : Res α} {a : α} {Q : α → Prop} (e : m = .ok a) (h : Q a) : WP m Q X := Raw.WP.of e h
theorem W2.of {m : Res (α × β)} {a : α} {b : β} {Q : α → β → Prop} (e : m = .ok (a, b)) (h : Q a b) : W2 m Q X := Raw.W2.of e h
theorem WP.out {m : Res α} {Q : α → Prop} (h : WP m Q nX) : ∃ a, m = .ok a ∧ Q a := Raw.WP.out h
theorem W2.out {m : Res (α × β)} {Q : α → β → Prop} (h : W2 m Q nX) : ∃ a b, m = .ok (a, b) ∧ Q a b := Raw.W2.out h
theorem W2.eq {m : Res (α × β)} {a : α} {b : β} (h : W2 m (fun x y => x = a ∧ y = b) nX) : m = .ok (a, b) := Raw.W2.eq h
theorem WP.eq {m : Res α} {a : α} (h : WP m (fun x => x = a) nX) : m = .ok a := Raw.WP.eq h
theorem W2.raises {m : Res (α × β)} {c : Str} (h : W2 m (fun _ _ => False) fun d => d = c) : m = .exc c := Raw.W2.raises h
theorem wp_req {c : Prop} [Decidable c] {m : Res α} {Q : α → Prop} : WP (if c then m else .stuck) Q X = (c ∧ WP m Q X) := Raw.wp_req
theorem w2_req {c : Prop} [Decidable c] {m : Res (α × β)} {Q : α → β → Prop} : W2 (if c then m else .stuck) Q X = (c ∧ W2 m Q X) := Raw.w2_req
theorem wp_ite {c : Prop} [Decidable c] {m n : Res α} {Q : α → Prop} : WP (if c then m else n) Q X = ((c → WP m Q X) ∧ (¬ c → WP n Q X)) := Raw.wp_ite
theorem w2_ite {c : Prop} [Decidable c] {m n : Res (α × β)} {Q : α → β → Prop} : W2 (if c then m else n) Q X = ((c → W2 m Q X) ∧ (¬ c → W2 n Q X)) := Raw.w2_ite
theorem wp_noX {m : Res α} {Q : α → Prop} : WP (noX m) Q X = WP m Q nX := Raw.wp_noX
theorem w2_noX {m : Res (α × β)} {Q : α → β → Prop} : W2 (noX m) Q X = W2 m Q nX := Raw.w2_noX
end

section
variable {X : Str → Prop} {ρ : En} {K : Slot → En → Prop} {KB : Bool → En → Prop} {KA : List PV → En → Prop}
theorem w_eC {x : PV} : W2 (eC x ρ) K X = K (.val x) ρ := Raw.w_eC
theorem w_eV {i : Nat} : W2 (eV i ρ) K X = WP (vat i ρ) (fun x => K (.val x) ρ) X := Raw.w_eV
theorem w_eBin {f : PV → PV → Res Slot} {E F : PX} : W2 (eBin f E F ρ) K X = W2 (E ρ) (fun s ρ1 => W2 (F ρ1) (fun t ρ2 => WP (f s.pv t.pv) (fun u => K u ρ2) X) X) X := Raw.w_eBin
theorem w_eUn {f : PV → Res Slot} {E : PX} : W2 (eUn f E ρ) K X = W2 (E ρ) (fun s ρ1 => WP (f s.pv) (fun u => K u ρ1) X) X := Raw.w_eUn
theorem w_aNil : W2 (aNil ρ) KA X = KA [] ρ := Raw.w_aNil
theorem w_aCons {E : PX} {A : AX} : W2 (aCons E A ρ) KA X = W2 (E ρ) (fun s ρ1 => W2 (A ρ1) (fun xs ρ2 => KA (s.pv :: xs) ρ2) X) X := Raw.w_aCons
theorem w_eTup {A : AX} : W2 (eTup A ρ) K X = W2 (A ρ) (fun xs ρ1 => xs.length ≤ sizeLine ∧ K (.val (.tup xs)) ρ1) X := Raw.w_eTup
theorem w_eLst {A : AX} : W2 (eLst A ρ) K X = W2 (A ρ) (fun xs ρ1 => xs.length ≤ sizeLine ∧ K (.own (.lst xs)) ρ1) X := Raw.w_eLst
theorem w_eN {f : List PV → Res Slot} {A : AX} : W2 (eN f A ρ) K X = W2 (A ρ) (fun xs ρ1 => WP (f xs) (fun u => K u ρ1) X) X := Raw.w_eN
theorem w_bT {f : PV → Res Bool} {E : PX} : W2 (bT E f ρ) KB X = W2 (E ρ) (fun s ρ1 => WP (f s.pv) (fun b => KB b ρ1) X) X := Raw.w_bT
theorem w_bNot {E : BX} : W2 (bNot E ρ) KB X = W2 (E ρ) (fun b ρ1 => KB (!b) ρ1) X := Raw.w_bNot
theorem w_bYes : W2 (bYes ρ) KB X = KB true ρ := Raw.w_bYes
def cond2 (b : Bool) (P R : Prop) [Tg1 P] [Tg1 R] : Prop := Raw.cond2 b P R
theorem cond2_t {P R : Prop} : cond2 true P R = P := Raw.cond2_t
theorem cond2_f {P R : Prop} : cond2 false P R = R := Raw.cond2_f
theorem cond2_not {b : Bool} {P R : Prop} : cond2 (!b) P R = cond2 b R P := Raw.cond2_not
theorem cond2_d {c P R : Prop} [Decidable c] : cond2 (decide c) P R = ((c → P) ∧ (¬ c → R)) := Raw.cond2_d
theorem cond2_b {b : Bool} {P R : Prop} : cond2 b P R = ((b = true → P) ∧ (b = false → R)) := Raw.cond2_b
theorem w2_if {α β : Type} {b : Bool} {m n : Res (α × β)} {Q : α → β → Prop} : W2 (if b = true then m else n) Q X = cond2 b (W2 m Q X) (W2 n Q X) := Raw.w2_if
theorem wp_if {α : Type} {b : Bool} {m n : Res α} {Q : α → Prop} : WP (if b = true then m else n) Q X = cond2 b (WP m Q X) (WP n Q X) := Raw.wp_if
theorem w_bAnd {E F : BX} : W2 (bAnd E F ρ) KB X = W2 (E ρ) (fun b ρ1 => cond2 b (W2 (F ρ1) KB X) (KB false ρ1)) X := Raw.w_bAnd
theorem w_bOr {E F : BX} : W2 (bOr E F ρ) KB X = W2 (E ρ) (fun b ρ1 => cond2 b (KB true ρ1) (W2 (F ρ1) KB X)) X := Raw.w_bOr
theorem w_eIf {B : BX} {E F : PX} : W2 (eIf B E F ρ) K X = W2 (B ρ) (fun b ρ1 => cond2 b (W2 (E ρ1) K X) (W2 (F ρ1) K X)) X := Raw.w_eIf
theorem w_eAnd {E F : PX} : W2 (eAnd E F ρ) K X = W2 (E ρ) (fun s ρ1 => WP (pTru s.pv) (fun b => cond2 b (W2 (F ρ1) K X) (K (.val s.pv) ρ1)) X) X := Raw.w_eAnd
theorem w_eOr {E F : PX} : W2 (eOr E F ρ) K X = W2 (E ρ) (fun s ρ1 => WP (pTru s.pv) (fun b => cond2 b (K (.val s.pv) ρ1) (W2 (F ρ1) K X)) X) X := Raw.w_eOr
theorem w_eNot {E : PX} : W2 (eNot E ρ) K X = W2 (E ρ) (fun s ρ1 => WP (pTru s.pv) (fun b => K (.val (.bl (!b))) ρ1) X) X := Raw.w_eNot
def chainK (Ks : Slot → Prop) (g : Prop) [Tg1 Ks] [Tg1 g] : Slot → Prop := Raw.chainK Ks g
theorem chain_b {Ks : Slot → Prop} {g : Prop} {b : Bool} : chainK Ks g (.val (.bl b)) = cond2 b g (Ks (.val (.bl false))) := Raw.chain_b
theorem w_eChain {f g : PV → PV → Res Slot} {E F H : PX} : W2 (eChain f g E F H ρ) K X = W2 (E ρ) (fun s ρ1 => W2 (F ρ1) (fun t ρ2 => WP (f s.pv t.pv) (fun u => chainK (fun v => K v ρ2) (W2 (H ρ2) (fun v ρ3 => WP (g t.pv v.pv) (fun z => K z ρ3) X) X) u) X) X) X := Raw.w_eChain
theorem w_oN {Q : Option Int → En → Prop} : W2 (oN ρ) Q X = Q none ρ := Raw.w_oN
def intK (Q : Int → Prop) [Tg1 Q] : PV → Prop := Raw.intK Q
theorem intK_int {Q : Int → Prop} {i : Int} : intK Q (.int i) = Q i := Raw.intK_int
theorem w_oS {E : PX} {Q : Option Int → En → Prop} : W2 (oS E ρ) Q X = W2 (E ρ) (fun s ρ1 => intK (fun i => Q (some i) ρ1) s.pv) X := Raw.w_oS
theorem w_eSl {E : PX} {A B : OX} : W2 (eSl E A B ρ) K X = W2 (E ρ) (fun s ρ1 => W2 (A ρ1) (fun a ρ2 => W2 (B ρ2) (fun b ρ3 => WP (pSl s.pv a b) (fun u => K u ρ3) X) X) X) X := Raw.w_eSl
theorem w_eDct0 : W2 (eDct0 ρ) K X = K (.own (.dct [])) ρ := Raw.w_eDct0
theorem w_eBor {i : Nat} {E : PX} : W2 (eBor i E ρ) K X = WP (ownAt i ρ) (fun x => W2 (E (ρ.set i (.val x))) (fun s _ => flatR s = true ∧ K s ρ) X) X := Raw.w_eBor
theorem w_bBor {i : Nat} {B : BX} : W2 (bBor i B ρ) KB X = WP (ownAt i ρ) (fun x => W2 (B (ρ.set i (.val x))) (fun s _ => KB s ρ) X) X := Raw.w_bBor
theorem w_eMut {i : Nat} {kd : PV → Bool} {f : MF} {A : AX} : W2 (eMut i kd f A ρ) K X = WP (ownAt i ρ) (fun x0 => kd x0 = true ∧ W2 (A ρ) (fun xs ρ1 => WP (ownAt i ρ1) (fun x => W2 (f x xs) (fun y r => K (.val r) (putS i y ρ1)) X) X) X) X := Raw.w_eMut
def ownK (Q : PV → Prop) [Tg1 Q] : Slot → Prop := Raw.ownK Q
theorem ownK_own {Q : PV → Prop} {x : PV} : ownK Q (.own x) = Q x := Raw.ownK_own
theorem w_eMutT {E : PX} {kd : PV → Bool} {f : MF} {A : AX} : W2 (eMutT E kd f A ρ) K X = W2 (E ρ) (fun s ρ1 => ownK (fun x => kd x = true ∧ W2 (A ρ1) (fun xs ρ2 => W2 (f x xs) (fun y r => K (.val r) ρ2) X) X) s) X := Raw.w_eMutT
def lstK (Q : List PV → Int → Prop) [Tg1 Q] : PV → PV → Prop := Raw.lstK Q
theorem lstK_li {Q : List PV → Int → Prop} {xs : List PV} {i : Int} : lstK Q (.lst xs) (.int i) = Q xs i := Raw.lstK_li
theorem w_eIxO {i : Nat} {E : PX} : W2 (eIxO i E ρ) K X = WP (ownAt i ρ) (fun _ => W2 (E ρ) (fun s ρ1 => WP (ownAt i ρ1) (fun x => lstK (fun xs j => WP (pAt xs j) (fun u => K u ρ1) X) x s.pv) X) X) X := Raw.w_eIxO
def dctK (Q : List (Key × PV) → Key → Prop) [Tg1 Q] : PV → Option Key → Prop := Raw.dctK Q
theorem dctK_dk {Q : List (Key × PV) → Key → Prop} {xs : List (Key × PV)} {i : Key} : dctK Q (.dct xs) (some i) = Q xs i := Raw.dctK_dk
theorem w_eGetO {i : Nat} {E : PX} : W2 (eGetO i E ρ) K X = WP (ownAt i ρ) (fun _ => W2 (E ρ) (fun s ρ1 => WP (ownAt i ρ1) (fun x => dctK (fun kvs k => WP (getR (dLook kvs k)) (fun u => K (.val u) ρ1) X) x (keyOf s.pv)) X) X) X := Raw.w_eGetO
theorem w_eCall {n : Nat} {m : FM} {A : AX} : W2 (eCall n m A ρ) K X = W2 (A ρ) (fun xs ρ1 => xs.length = n ∧ W2 (m (xs.map .val)) (fun s _ => K s ρ1) X) X := Raw.w_eCall
def insK (c x : Str) (Q : List (Str × PV) → Prop) [Tg1 Q] : PV → Prop := Raw.insK c x Q
theorem w_eMeth {c x : Str} {n : Nat} {m : FM} {E : PX} {A : AX} : W2 (eMeth c x n m E A ρ) K X = W2 (E ρ) (fun o ρ1 => insK c x (fun fs => W2 (A ρ1) (fun xs ρ2 => xs.length = n ∧ W2 (m ((.ins c fs :: xs).map .val)) (fun s _ => K s ρ2) X) X) o.pv) X := Raw.w_eMeth
def mkK (K : Slot → Prop) [Tg1 K] : Slot → List Slot → Prop := Raw.mkK K
theorem mkK_own {K : Slot → Prop} {y : PV} {r : List Slot} : mkK K (.val .non) (.own y :: r) = K (.own y) := Raw.mkK_own
theorem w_eMake {c : Str} {n0 nk : Nat} {gp : List PV → List PV → List PV} {m : FM} {A B : AX} : W2 (eMake c n0 nk gp m A B ρ) K X = W2 (A ρ) (fun xs ρ1 => W2 (B ρ1) (fun ys ρ2 => (xs.length = n0 ∧ ys.length = nk) ∧ W2 (m (.own (.ins c []) :: (gp xs ys).map .val)) (fun s ss => mkK (fun u => K u ρ2) s ss) X) X) X := Raw.w_eMake
theorem w_eCallR {bs : List (Option Nat)} {n0 : Nat} {m : FM} {A : AX} : W2 (eCallR bs n0 m A ρ) K X = (allOwn ρ bs = true ∧ W2 (A ρ) (fun xs ρ1 => (xs.length = n0 ∧ allOwn ρ1 bs = true) ∧ W2 (m (argS ρ1 bs xs)) (fun s ss => K s (putBack bs ss ρ1)) X) X) := Raw.w_eCallR
theorem w_iX {f : PV → Res (List PV)} {E : PX} : W2 (iX f E ρ) KA X = W2 (E ρ) (fun s ρ1 => WP (f s.pv) (fun xs => KA xs ρ1) X) X := Raw.w_iX
theorem w_iXs {f : List PV → Res (List PV)} {A : AX} : W2 (iXs f A ρ) KA X = W2 (A ρ) (fun xs ρ1 => WP (f xs) (fun ys => KA ys ρ1) X) X := Raw.w_iXs
theorem w_iXo {f : PV → Res (List PV)} {E : PX} : W2 (iXo f E ρ) KA X = W2 (E ρ) (fun s ρ1 => ownK (fun x => WP (f x) (fun xs => KA xs ρ1) X) s) X := Raw.w_iXo
end

section
variable {X : Str → Prop} {ρ : En} {K : Out → Prop}
def seqK (S : SX) (K : Out → Prop) (X : Str → Prop) [Tg1 S] [Tg1 K] : Out → Prop := Raw.seqK S K X
theorem seqK_nx {U : SX} : seqK U K X (.nx ρ) = WP (U ρ) K X := Raw.seqK_nx
theorem seqK_rt {U : SX} {s : Slot} : seqK U K X (.rt s ρ) = K (.rt s ρ) := Raw.seqK_rt
theorem seqK_bk {U : SX} : seqK U K X (.bk ρ) = K (.bk ρ) := Raw.seqK_bk
theorem seqK_ct {U : SX} : seqK U K X (.ct ρ) = K (.ct ρ) := Raw.seqK_ct
theorem w_sSkip : WP (sSkip ρ) K X = K (.nx ρ) := Raw.w_sSkip
theorem w_sBrk : WP (sBrk ρ) K X = K (.bk ρ) := Raw.w_sBrk
theorem w_sCnt : WP (sCnt ρ) K X = K (.ct ρ) := Raw.w_sCnt
theorem w_sSeq {S U : SX} : WP (sSeq S U ρ) K X = WP (S ρ) (seqK U K X) X := Raw.w_sSeq
theorem w_sEx {E : PX} : WP (sEx E ρ) K X = W2 (E ρ) (fun _ ρ1 => K (.nx ρ1)) X := Raw.w_sEx
theorem w_sRet {E : PX} : WP (sRet E ρ) K X = W2 (E ρ) (fun s ρ1 => K (.rt s ρ1)) X := Raw.w_sRet
theorem w_sRetN : WP (sRetN ρ) K X = K (.rt (.val .non) ρ) := Raw.w_sRetN
theorem w_sRaise {c : Str} : WP (sRaise c ρ) K X = X c := Raw.w_sRaise
theorem w_sRetO {i : Nat} : WP (sRetO i ρ) K X = WP (ownAt' i ρ) (fun x => K (.rt (.own x) (ρ.set i .dead))) X := Raw.w_sRetO
theorem w_sIf {B : BX} {S U : SX} : WP (sIf B S U ρ) K X = W2 (B ρ) (fun b ρ1 => cond2 b (WP (S ρ1) K X) (WP (U ρ1) K X)) X := Raw.w_sIf
theorem w_sSet {i : Nat} {E : PX} : WP (sSet i E ρ) K X = W2 (E ρ) (fun s ρ1 => K (.nx (ρ1.set i (.val s.pv)))) X := Raw.w_sSet
theorem w_sSetO {i : Nat} {E : PX} : WP (sSetO i E ρ) K X = W2 (E ρ) (fun s ρ1 => ownK (fun x => K (.nx (ρ1.set i (.own x)))) s) X := Raw.w_sSetO
theorem w_sFrz {i : Nat} {S : SX} : WP (sFrz i S ρ) K X = WP (S (frzE i ρ)) K X := Raw.w_sFrz
theorem w_sPutL {i : Nat} {E F : PX} : WP (sPutL i E F ρ) K X = W2 (F ρ) (fun p ρ1 => WP (ownAt i ρ1) (fun x0 => isLst x0 = true ∧ W2 (E ρ1) (fun q ρ2 => WP (ownAt i ρ2) (fun x => lstK (fun xs n => WP (lstSet xs n p.pv) (fun y => K (.nx (putS i y ρ2))) X) x q.pv) X) X) X) X := Raw.w_sPutL
theorem w_sPutD {i : Nat} {E F : PX} : WP (sPutD i E F ρ) K X = W2 (F ρ) (fun p ρ1 => WP (ownAt i ρ1) (fun x0 => isDct x0 = true ∧ W2 (E ρ1) (fun q ρ2 => WP (ownAt i ρ2) (fun x => dctK (fun kvs k => kvs.length < sizeLine ∧ K (.nx (putS i (.dct (dPut kvs k p.pv)) ρ2))) x (keyOf q.pv)) X) X) X) X := Raw.w_sPutD
def insF (c : Str) (Q : List (Str × PV) → Prop) [Tg1 Q] : PV → Prop := Raw.insF c Q
theorem w_sPutF {i : Nat} {c f : Str} {E : PX} : WP (sPutF i c f E ρ) K X = W2 (E ρ) (fun p ρ1 => WP (ownAt i ρ1) (fun x => insF c (fun fs => K (.nx (putS i (.ins c (putFP f p.pv fs)) ρ1))) x) X) X := Raw.w_sPutF
theorem w_sFor {F : AX} {t : GX} {S : SX} : WP (sFor F t S ρ) K X = W2 (F ρ) (fun xs ρ1 => WP (loopS (tgt t S) xs ρ1) K X) X := Raw.w_sFor
theorem w_sForD {i : Nat} {f : PV → Res (List PV)} {t : GX} {S : SX} : WP (sForD i f t S ρ) K X = WP (vat i ρ) (fun d => WP (f d) (fun xs => WP (loopS (tgt t S) xs ρ) K X) X) X := Raw.w_sForD
theorem w_sAsg {E : PX} {t : GX} : WP (sAsg E t ρ) K X = W2 (E ρ) (fun s ρ1 => WP (noX (t s.pv ρ1)) (fun ρ' => K (.nx ρ')) X) X := Raw.w_sAsg
theorem w_sStar {n i : Nat} {E : PX} {t : GXs} : WP (sStar n i E t ρ) K X = W2 (E ρ) (fun s ρ1 => lstK (fun xs _ => (n ≤ xs.length + 1 ∧ xs.length ≤ 16384) ∧ WP (noX (t (starP n i xs) ρ1)) (fun ρ' => K (.nx ρ')) X) s.pv (.int 0)) X := Raw.w_sStar
theorem w_tgt {t : GX} {S : SX} {x : PV} : WP (tgt t S x ρ) K X = WP (noX (t x ρ)) (fun ρ' => WP (S ρ') K X) X := Raw.w_tgt
def tupK (Q : List PV → Prop) [Tg1 Q] : PV → Prop := Raw.tupK Q
theorem tupK_t {Q : List PV → Prop} {xs : List PV} : tupK Q (.tup xs) = Q xs := Raw.tupK_t
section
variable {Q : En → Prop}
theorem w_gN {i : Nat} {x : PV} : WP (gN i x ρ) Q X = Q (ρ.set i (.val x)) := Raw.w_gN
theorem w_gT {n : Nat} {u : GXs} {x : PV} : WP (gT n u x ρ) Q X = tupK (fun xs => xs.length = n ∧ WP (u xs ρ) Q X) x := Raw.w_gT
theorem w_gsNil : WP (gsNil [] ρ) Q X = Q ρ := Raw.w_gsNil
theorem w_gsCons {t : GX} {u : GXs} {x : PV} {xs : List PV} : WP (gsCons t u (x :: xs) ρ) Q X = WP (t x ρ) (fun ρ' => WP (u xs ρ') Q X) X := Raw.w_gsCons
end
def endK (ss : List Slot) (K : Slot → List Slot → Prop) [Tg1 K] : Out → Prop := Raw.endK ss K
theorem endK_rt {ss : List Slot} {K : Slot → List Slot → Prop} {s : Slot} : endK ss K (.rt s ρ) = K s (back ss ρ) := Raw.endK_rt
theorem endK_nx {ss : List Slot} {K : Slot → List Slot → Prop} : endK ss K (.nx ρ) = K (.val .non) (back ss ρ) := Raw.endK_nx
theorem w_fnM {k : Nat} {S : SX} {ss : List Slot} {K : Slot → List Slot → Prop} : W2 (fnM k S ss) K X = WP (S (ss.map toP ++ List.replicate k .dead)) (endK ss K) X := Raw.w_fnM
end

section
variable {X : Str → Prop} {α : Type}
def turnK (I : En → Prop) (K : Out → Prop) [Tg1 I] [Tg1 K] : Out → Prop := Raw.turnK I K
theorem turnK_nx {I : En → Prop} {K : Out → Prop} {ρ : En} : turnK I K (.nx ρ) = I ρ := Raw.turnK_nx
theorem turnK_ct {I : En → Prop} {K : Out → Prop} {ρ : En} : turnK I K (.ct ρ) = I ρ := Raw.turnK_ct
theorem turnK_bk {I : En → Prop} {K : Out → Prop} {ρ : En} : turnK I K (.bk ρ) = K (.nx ρ) := Raw.turnK_bk
theorem turnK_rt {I : En → Prop} {K : Out → Prop} {ρ : En} {s : Slot} : turnK I K (.rt s ρ) = K (.rt s ρ) := Raw.turnK_rt
theorem w_loop {e : α → PV} {body : PV → SX} {K : Out → Prop} (I : List α → En → Prop)
    (step : ∀ a r ρ, I (a :: r) ρ → WP (body (e a) ρ) (turnK (I r) K) X) (fin : ∀ ρ, I [] ρ → K (.nx ρ)) : ∀ (l : List α) (ρ : En), I l ρ → WP (loopS body (l.map e) ρ) K X := Raw.w_loop I step fin
/-- .. where each turn does f to what stands in the environment -/
theorem w_fold {σ : Type} {e : α → PV} {body : PV → SX} {K : Out → Prop} (env : σ → En) (f : σ → α → σ) (l : List α) (s : σ)
    (step : ∀ s, ∀ a ∈ l, WP (body (e a) (env s)) (fun o => o = .nx (env (f s a))) X) (fin : K (.nx (env (l.foldl f s)))) : WP (loopS body (l.map e) (env s)) K X := Raw.w_fold env f l s step fin
def lcK (acc : List PV) (J : List PV → En → Prop) (E : PX) [Tg1 J] [Tg1 E] : Bool → En → Prop := Raw.lcK acc J E
theorem w_lc {vs : List Nat} {t : GX} {B : BX} {E : PX} {e : α → PV} {K : List PV → En → Prop} (I : List α → List PV → En → Prop)
    (step : ∀ a r acc ρ, I (a :: r) acc ρ → WP (noX (t (e a) (killE vs ρ))) (fun ρ1 => W2 (B ρ1) (lcK acc (I r) E) nX) X) (fin : ∀ acc ρ, I [] acc ρ → K acc ρ) :
    ∀ (l : List α) (acc : List PV) (ρ : En), I l acc ρ → W2 (loopC vs t B E (l.map e) acc ρ) K X := Raw.w_lc I step fin
theorem w_eLc {vs : List Nat} {F : AX} {t : GX} {B : BX} {E : PX} {ρ : En} {K : Slot → En → Prop} : W2 (eLc vs F t B E ρ) K X = W2 (F ρ) (fun xs ρ1 => noOwn vs ρ1 = true ∧ W2 (loopC vs t B E xs [] ρ1) (fun ys ρ2 => K (.own (.lst ys)) (mergeE vs ρ1 ρ2)) X) X := Raw.w_eLc
/-- a comprehension that changes nothing: b tells which, g what is told of each -/
theorem w_lcP {vs : List Nat} {t : GX} {B : BX} {E : PX} {e : α → PV} {K : List PV → En → Prop} (b : α → Bool) (g : α → PV) (l : List α) (ρ : En) (acc : List PV) (env : α → En)
    (hl : acc.length + l.length ≤ sizeLine)
    (hk : ∀ a ∈ l, killE vs (env a) = killE vs ρ)
    (ht : ∀ a ∈ l, t (e a) (killE vs ρ) = .ok (env a))
    (hB : ∀ a ∈ l, W2 (B (env a)) (fun c ρ1 => c = b a ∧ ρ1 = env a) nX)
    (hE : ∀ a ∈ l, b a = true → W2 (E (env a)) (fun s ρ1 => s.pv = g a ∧ ρ1 = env a) nX)
    (hK : ∀ ρ', ρ' = ρ ∨ (∃ a ∈ l, ρ' = env a) → K (acc ++ (l.filter b).map g) ρ') : W2 (loopC vs t B E (l.map e) acc ρ) K X := Raw.w_lcP b g l ρ acc env hl hk ht hB hE hK
end
theorem w_eLc2 {vs vs1 : List Nat} {F : AX} {t : GX} {B : BX} {F1 : AX} {t1 : GX} {B1 : BX} {E : PX} {ρ : En} {K : Slot → En → Prop} {X : Str → Prop} : W2 (eLc2 vs vs1 F t B F1 t1 B1 E ρ) K X = W2 (F ρ) (fun xs ρ1 => noOwn vs ρ1 = true ∧ W2 (loopG vs t B (K2 vs1 F1 t1 B1 E) xs [] ρ1) (fun ys ρ2 => K (.own (.lst ys)) (mergeE vs ρ1 ρ2)) X) X := Raw.w_eLc2
end BF

set_option maxRecDepth 100000
set_option maxHeartbeats 4000000
namespace BF
open PySem PySem.Spec L2
open PyProof.Rows hiding St
set_option autoImplicit false

/-- a type of data, told alike -/
class PE (α : Type) where
  enc : α → PV
  dat : α → PyData
  dmax : Nat
  pd : ∀ a, (enc a).pd = some (dat a)
  dep : ∀ a, (dat a).depth ≤ dmax
  inj : ∀ a b, PyData.eqv (dat a) (dat b) = true → a = b
  refl : ∀ a, PyData.eqv (dat a) (dat a) = true
open PE (enc)
/-- .. that can be put in order -/
class PO (α : Type) extends PE α where
  al : ∀ a b, PySem.W.alike (dat a) (dat b) = true
  so : (∀ a, firstOk (dat a) = true) ∨ (∀ a, notTup (dat a) = true)
section
variable {α : Type}
theorem enc_inj [PE α] {a b : α} (h : enc a = enc b) : a = b := by
  have : PE.dat a = PE.dat b := by
    have h1 := PE.pd a; have h2 := PE.pd b
    rw [h] at h1; rw [h1] at h2; exact Option.some.inj h2
  exact PE.inj a b (by rw [this]; exact PE.refl b)
theorem enc_enc [PE α] (a : α) : (enc a).enc = PE.dat a := by unfold PV.enc; rw [PE.pd]; rfl
noncomputable instance (priority := low) PE.dec [PE α] : DecidableEq α := fun a b => Classical.propDecidable _
theorem eqv_dec [PE α] (a b : α) [Decidable (a = b)] : PyData.eqv (PE.dat a) (PE.dat b) = decide (a = b) := by
  by_cases h : a = b
  · subst h; simp [PE.refl]
  · simp only [h, decide_false]
    cases e : PyData.eqv (PE.dat a) (PE.dat b) with
    | false => rfl
    | true => exact absurd (PE.inj a b e) h
theorem eqB_enc [PE α] (hd : PE.dmax α ≤ 64) (a b : α) [Decidable (a = b)] : eqB (enc a) (enc b) = some (decide (a = b)) := by
  unfold eqB
  rw [PE.pd, PE.pd]
  have := PE.dep a
  have := PE.dep b
  simp only
  rw [if_pos (by omega), eqv_dec]
def le [PE α] (a b : α) : Bool := leP false (enc a) (enc b)
theorem le_eq [PE α] (a b : α) : le a b = !PySem.W.dataLt (PE.dat b) (PE.dat a) := by
  unfold le leP
  rw [PySem.W.dataLe_eq]
  simp [enc_enc]
theorem le_total [PE α] (a b : α) : (le a b || le b a) = true := by
  rw [le_eq, le_eq]
  cases e1 : PySem.W.dataLt (PE.dat b) (PE.dat a) <;> cases e2 : PySem.W.dataLt (PE.dat a) (PE.dat b) <;> try rfl
  have := lex_trans (O := itemOrd) _ _ _ e1 e2
  rw [lex_irrefl] at this; cases this
theorem le_refl [PE α] (a : α) : le a a = true := by have := le_total a a; simpa using this
theorem le_trans [PE α] (a b c : α) (h1 : le a b = true) (h2 : le b c = true) : le a c = true := by
  rw [le_eq] at *
  simp only [Bool.not_eq_true'] at *
  cases e : PySem.W.dataLt (PE.dat c) (PE.dat a) with
  | false => rfl
  | true =>
    rcases lex_negTrans (O := itemOrd) _ (PySem.W.keyToks (PE.dat b)) _ e with h | h
    · exact absurd (h2.symm.trans h) (by decide)
    · exact absurd (h1.symm.trans h) (by decide)
theorem toks_inj {x y : PyData} (h : PySem.W.alike x y = true) (e : PySem.W.keyToks x = PySem.W.keyToks y) : PyData.eqv x y = true := by
  cases q : PyData.eqv x y with
  | true => rfl
  | false =>
    have h1 := (PySem.W.toks_eqv x y h).2 q [.inl 0] [.inl 1]
    rw [e, PySem.W.lex_pre, lex_irrefl] at h1
    exact absurd h1 (by decide)
theorem le_antisymm [PO α] (a b : α) (h1 : le a b = true) (h2 : le b a = true) : a = b := by
  rw [le_eq] at *
  simp only [Bool.not_eq_true'] at *
  exact PE.inj a b (toks_inj (PO.al a b) (lex_total (O := itemOrd) _ _ h2 h1))
/-- sorted -/
def srt [PE α] (l : List α) : List α := l.mergeSort le
theorem srt_perm [PE α] (l : List α) : (srt l).Perm l := List.mergeSort_perm _ _
theorem srt_sorted [PE α] (l : List α) : (srt l).Pairwise fun a b => le a b = true := List.pairwise_mergeSort (le := le) le_trans le_total l
theorem srt_length [PE α] (l : List α) : (srt l).length = l.length := (srt_perm l).length_eq
theorem srt_mem [PE α] {l : List α} {a : α} : a ∈ srt l ↔ a ∈ l := (srt_perm l).mem_iff
theorem sorted_eq [PO α] {l m : List α} (hp : l.Perm m) (h1 : l.Pairwise fun a b => le a b = true) (h2 : m.Pairwise fun a b => le a b = true) : l = m :=
  List.Perm.eq_of_pairwise (le := fun a b : α => le a b = true) (fun a b _ _ => le_antisymm a b) h1 h2 hp
theorem srt_eq [PO α] {l m : List α} (hp : l.Perm m) : srt l = srt m := sorted_eq ((srt_perm l).trans (hp.trans (srt_perm m).symm)) (srt_sorted l) (srt_sorted m)
theorem srt_id [PO α] {l : List α} (h : l.Pairwise fun a b => le a b = true) : srt l = l := sorted_eq (srt_perm l) (srt_sorted l) h
theorem srt_srt [PO α] (l : List α) : srt (srt l) = srt l := srt_id (srt_sorted l)
theorem sortP_enc [PE α] (l : List α) : sortP false (l.map enc) = (srt l).map enc :=
  (PySem.W.sort_maps (r := le) (s := leP false) enc fun a _ b _ => rfl).symm
theorem srtOk_enc [PO α] (hd : PE.dmax α ≤ 64) (l : List α) : srtOk (l.map enc) = true := by
  unfold srtOk
  simp only [Bool.and_eq_true, Bool.or_eq_true, List.all_eq_true, List.mem_map, forall_exists_index, and_imp, forall_apply_eq_imp_iff₂, enc_enc, PE.pd, Option.isSome_some, decide_eq_true_eq, true_and]
  refine ⟨⟨fun a _ => Nat.le_trans (PE.dep a) hd, fun a _ b _ => PO.al a b⟩, ?_⟩
  rcases PO.so (α := α) with h | h
  · exact .inl fun a _ => h a
  · exact .inr fun a _ => h a
theorem pSorted_enc [PO α] (l : List α) (hd : PE.dmax α ≤ 64 := by decide) : pSortedA false [.lst (l.map enc)] = .ok (.own (.lst ((srt l).map enc))) := by
  unfold pSortedA pSorted
  simp only
  rw [if_pos (srtOk_enc hd l), sortP_enc]
theorem pd_map [PE α] : ∀ l : List α, PV.pds (l.map enc) = some (l.map PE.dat)
  | [] => rfl
  | a :: l => by simp only [List.map_cons, PV.pds, PE.pd, pd_map l]
theorem any_mem [PE α] (l : List α) (a : α) : ((l.map PE.dat).any fun z => PyData.eqv z (PE.dat a)) = decide (a ∈ l) := by
  rw [Bool.eq_iff_iff]
  simp only [List.any_map, List.any_eq_true, decide_eq_true_eq, Function.comp]
  constructor
  · rintro ⟨b, hb, e⟩; rw [← PE.inj b a e]; exact hb
  · intro h; exact ⟨a, h, PE.refl a⟩
theorem depthAll_le [PE α] : ∀ l : List α, PyData.depthAll (l.map PE.dat) ≤ PE.dmax α
  | [] => by simp [PyData.depthAll]
  | a :: l => by
    have := PE.dep a; have := depthAll_le l
    simp only [List.map_cons, PyData.depthAll]; omega
theorem pIn_lst [PE α] (l : List α) (a : α) (neg : Bool) (hd : PE.dmax α ≤ 64 := by decide) : pIn neg (enc a) (.lst (l.map enc)) = .ok (.val (.bl (if neg then !decide (a ∈ l) else decide (a ∈ l)))) := by
  have h := depthAll_le l
  have h2 := PE.dep a
  simp only [pIn, pInS, inB, PE.pd, PV.pd, pd_map, Option.map_some, any_mem]
  rw [if_pos (by omega)]
end

instance : PE Int where
  enc := .int
  dat := .int
  dmax := 0
  pd := fun _ => rfl
  dep := fun a => Nat.le_of_eq rfl
  inj := fun a b h => by simpa [PyData.eqv] using h
  refl := fun a => by simp [PyData.eqv]
instance : PO Int where
  al := fun a b => by simp [PE.dat, PySem.W.alike]
  so := .inr fun a => rfl
instance : PE Str where
  enc := .str
  dat := .str
  dmax := 0
  pd := fun _ => rfl
  dep := fun a => Nat.le_of_eq rfl
  inj := fun a b h => by simpa [PyData.eqv] using h
  refl := fun a => by simp [PyData.eqv]
instance : PO Str where
  al := fun a b => by simp [PE.dat, PySem.W.alike]
  so := .inr fun a => rfl
instance {α β : Type} [PE α] [PE β] : PE (α × β) where
  enc := fun p => .tup [enc p.1, enc p.2]
  dat := fun p => .tuple [PE.dat p.1, PE.dat p.2]
  dmax := max (PE.dmax α) (PE.dmax β) + 1
  pd := fun p => by simp only [PV.pd, PV.pds, PE.pd, Option.map_some]
  dep := fun p => by have := PE.dep p.1; have := PE.dep p.2; simp only [PyData.depth, PyData.depthAll]; omega
  inj := fun a b h => by
    simp only [PyData.eqv, PyData.eqvAll, Bool.and_true, Bool.and_eq_true] at h
    exact Prod.ext (PE.inj _ _ h.1) (PE.inj _ _ h.2)
  refl := fun a => by simp [PyData.eqv, PyData.eqvAll, PE.refl]
instance {α β : Type} [PO α] [PO β] : PO (α × β) where
  al := fun a b => by simp [PE.dat, PySem.W.alike, PySem.W.alikeAll, PO.al]
  so := .inl fun a => rfl
theorem eqvAll_inj {α : Type} [PE α] : ∀ l m : List α, PyData.eqvAll (l.map PE.dat) (m.map PE.dat) = true → l = m
  | [], [], _ => rfl
  | [], _ :: _, h => by simp [PyData.eqvAll] at h
  | _ :: _, [], h => by simp [PyData.eqvAll] at h
  | a :: l, b :: m, h => by
    simp only [List.map_cons, PyData.eqvAll, Bool.and_eq_true] at h
    rw [PE.inj a b h.1, eqvAll_inj l m h.2]
theorem eqvAll_refl {α : Type} [PE α] : ∀ l : List α, PyData.eqvAll (l.map PE.dat) (l.map PE.dat) = true
  | [] => by simp [PyData.eqvAll]
  | a :: l => by simp [PyData.eqvAll, PE.refl, eqvAll_refl l]
theorem alikeAll_map {α : Type} [PO α] : ∀ l m : List α, PySem.W.alikeAll (l.map PE.dat) (m.map PE.dat) = true
  | [], _ => by simp [PySem.W.alikeAll]
  | _ :: _, [] => by simp [PySem.W.alikeAll]
  | a :: l, b :: m => by simp [PySem.W.alikeAll, PO.al, alikeAll_map l m]
instance {α : Type} [PE α] : PE (List α) where
  enc := fun l => .lst (l.map enc)
  dat := fun l => .list (l.map PE.dat)
  dmax := PE.dmax α + 1
  pd := fun l => by simp only [PV.pd, pd_map, Option.map_some]
  dep := fun l => by have := depthAll_le l; simp only [PyData.depth]; omega
  inj := fun a b h => eqvAll_inj a b (by simpa [PyData.eqv] using h)
  refl := fun a => by simp [PyData.eqv, eqvAll_refl]
instance {α : Type} [PO α] : PO (List α) where
  al := fun a b => by simp [PE.dat, PySem.W.alike, alikeAll_map]
  so := .inr fun a => rfl
/-- None, or something -/
instance : PE (Option Int) where
  enc := fun o => match o with
    | none => .non
    | some i => .int i
  dat := fun o => match o with
    | none => .none
    | some i => .int i
  dmax := 0
  pd := fun o => by cases o <;> rfl
  dep := fun o => by cases o <;> simp [PyData.depth]
  inj := fun a b h => by cases a <;> cases b <;> simp_all [PyData.eqv]
  refl := fun a => by cases a <;> simp [PyData.eqv]
theorem enc_int (i : Int) : (enc i : PV) = .int i := (rfl)
theorem enc_str (i : Str) : (enc i : PV) = .str i := (rfl)
theorem enc_pair {α β : Type} [PE α] [PE β] (p : α × β) : enc p = .tup [enc p.1, enc p.2] := (rfl)
theorem enc_list {α : Type} [PE α] (p : List α) : enc p = .lst (p.map enc) := (rfl)
theorem enc_none : (enc (none : Option Int) : PV) = .non := (rfl)
theorem enc_some (i : Int) : (enc (some i) : PV) = .int i := (rfl)

section
variable {X : Str → Prop} {Q : Slot → Prop}
theorem o_pAdd (i j : Int) : pAdd (.int i) (.int j) = .ok (.val (.int (i + j))) := (rfl)
theorem o_pSub (i j : Int) : pSub (.int i) (.int j) = .ok (.val (.int (i - j))) := (rfl)
theorem o_pMod (i j : Int) : WP (pMod (.int i) (.int j)) Q X = (0 < j ∧ Q (.val (.int (i % j)))) := by unfold pMod pI; simp only [wp_req, wp_ok, decide_eq_true_eq]
theorem o_pFdiv (i j : Int) : WP (pFdiv (.int i) (.int j)) Q X = ((0 < j ∧ j.natAbs.log2 < 9000) ∧ Q (.val (.int (i / j)))) := by unfold pFdiv pI; simp only [wp_req, wp_ok, decide_eq_true_eq]
theorem o_pPow (i j : Int) : WP (pPow (.int i) (.int j)) Q X = ((0 ≤ j ∧ j ≤ 1000000 ∧ i.natAbs < 2 ^ 64) ∧ Q (.val (.int (i ^ j.toNat)))) := by unfold pPow pI; simp only [wp_req, wp_ok, decide_eq_true_eq]
theorem o_pMul (i j : Int) : WP (pMul (.int i) (.int j)) Q X = (CMulX i j ∧ Q (.val (.int (i * j)))) := by unfold pMul; simp only [wp_req, wp_ok]
theorem o_pLt (i j : Int) : pLt (.int i) (.int j) = .ok (.val (.bl (decide (i < j)))) := (rfl)
theorem o_pLe (i j : Int) : pLe (.int i) (.int j) = .ok (.val (.bl (decide (i ≤ j)))) := (rfl)
theorem o_pGt (i j : Int) : pGt (.int i) (.int j) = .ok (.val (.bl (decide (j < i)))) := (rfl)
theorem o_pGe (i j : Int) : pGe (.int i) (.int j) = .ok (.val (.bl (decide (j ≤ i)))) := (rfl)
theorem o_pNeg (i : Int) : pNeg (.int i) = .ok (.val (.int (-i))) := (rfl)
theorem o_isN_non : pIsN .non .non = .ok (.val (.bl true)) := (rfl)
theorem o_isN_int (i : Int) : pIsN (.int i) .non = .ok (.val (.bl false)) := (rfl)
theorem o_isN_str (i : Str) : pIsN (.str i) .non = .ok (.val (.bl false)) := (rfl)
theorem o_isN_tup (i : List PV) : pIsN (.tup i) .non = .ok (.val (.bl false)) := (rfl)
theorem o_isN_lst (i : List PV) : pIsN (.lst i) .non = .ok (.val (.bl false)) := (rfl)
theorem o_isN_ins (c : Str) (i : List (Str × PV)) : pIsN (.ins c i) .non = .ok (.val (.bl false)) := (rfl)
theorem o_isN_opt (o : Option Int) : pIsN (enc o) .non = .ok (.val (.bl o.isNone)) := by cases o <;> rfl
theorem o_isnt (x : PV) : pNotN x .non = .ok (.val (.bl (!x.isNon))) := (rfl)
theorem isNon_non : PV.isNon .non = true := (rfl)
theorem isNon_int (i : Int) : PV.isNon (.int i) = false := (rfl)
theorem isNon_str (i : Str) : PV.isNon (.str i) = false := (rfl)
theorem isNon_opt (o : Option Int) : PV.isNon (enc o) = o.isNone := by cases o <;> rfl
theorem o_pB (b : Bool) : pB (.bl b) = .ok b := (rfl)
theorem o_tru_bl (b : Bool) : pTru (.bl b) = .ok b := (rfl)
theorem o_tru_int (i : Int) : pTru (.int i) = .ok (i != 0) := (rfl)
theorem o_tru_lst (xs : List PV) : pTru (.lst xs) = .ok (!xs.isEmpty) := (rfl)
theorem o_tru_tup (xs : List PV) : pTru (.tup xs) = .ok (!xs.isEmpty) := (rfl)
theorem o_tru_non : pTru .non = .ok false := (rfl)
theorem o_len_lst (xs : List PV) : pLenA [.lst xs] = .ok (.val (.int xs.length)) := (rfl)
theorem o_len_tup (xs : List PV) : pLenA [.tup xs] = .ok (.val (.int xs.length)) := (rfl)
theorem o_len_scr (xs : List Int) : pLenA [.scr xs] = .ok (.val (.int xs.length)) := (rfl)
theorem o_len_dct (xs : List (Key × PV)) : pLenA [.dct xs] = .ok (.val (.int xs.length)) := (rfl)
theorem o_list_lst (xs : List PV) : pList [.lst xs] = .ok (.own (.lst xs)) := (rfl)
theorem o_list_tup (xs : List PV) : pList [.tup xs] = .ok (.own (.lst xs)) := (rfl)
theorem o_tuple_lst (xs : List PV) : pTuple [.lst xs] = .ok (.val (.tup xs)) := (rfl)
theorem o_tuple_tup (xs : List PV) : pTuple [.tup xs] = .ok (.val (.tup xs)) := (rfl)
theorem o_addL (xs ys : List PV) : WP (pAdd (.lst xs) (.lst ys)) Q X = (xs.length + ys.length ≤ sizeLine ∧ Q (.own (.lst (xs ++ ys)))) := by unfold pAdd; simp only [wp_req, wp_ok]
theorem o_addT (xs ys : List PV) : WP (pAdd (.tup xs) (.tup ys)) Q X = (xs.length + ys.length ≤ sizeLine ∧ Q (.val (.tup (xs ++ ys)))) := by unfold pAdd; simp only [wp_req, wp_ok]
theorem o_ix_lst (xs : List PV) (i : Int) : pIxA (.lst xs) (.int i) = pAt xs i := (rfl)
theorem o_ix_tup (xs : List PV) (i : Int) : pIxA (.tup xs) (.int i) = pAt xs i := (rfl)
theorem o_ix_scr (xs : List Int) (i : Int) : pIxA (.scr xs) (.int i) = pAt (xs.map .int) i := (rfl)
theorem o_ix_dct (kvs : List (Key × PV)) (k : Key) : WP (pIxA (.dct kvs) (keyV k)) Q X = WP (getR (dLook kvs k)) (fun y => Q (.val y)) X := by
  have : keyOf (keyV k) = some k := by cases k <;> rfl
  simp only [pIxA, pGetD, this]
  cases dLook kvs k <;> rfl
theorem o_ix_dctS (kvs : List (Key × PV)) (k : Str) : WP (pIxA (.dct kvs) (.str k)) Q X = WP (getR (dLook kvs (.inr k))) (fun y => Q (.val y)) X := o_ix_dct kvs (.inr k)
theorem o_ix_dctI (kvs : List (Key × PV)) (k : Int) : WP (pIxA (.dct kvs) (.int k)) Q X = WP (getR (dLook kvs (.inl k))) (fun y => Q (.val y)) X := o_ix_dct kvs (.inl k)
theorem o_in_dctS (neg : Bool) (kvs : List (Key × PV)) (k : Str) : pIn neg (.str k) (.dct kvs) = .ok (.val (.bl (if neg then !(dLook kvs (.inr k)).isSome else (dLook kvs (.inr k)).isSome))) := (rfl)
theorem o_pAt (xs : List PV) (i : Int) : WP (pAt xs i) Q X = WP (getR (atI xs i)) (fun y => Q (.val y)) X := by unfold pAt getR; cases atI xs i <;> rfl
theorem atI_0 {α : Type} (x : α) (r : List α) : atI (x :: r) 0 = some x := by simp [atI, ixN]
theorem atI_1 {α : Type} (x y : α) (r : List α) : atI (x :: y :: r) 1 = some y := by
  have : ((1 : Int) < r.length + 1 + 1) := by omega
  simp [atI, ixN, this]
theorem atI_2 {α : Type} (x y z : α) (r : List α) : atI (x :: y :: z :: r) 2 = some z := by
  have : ((2 : Int) < r.length + 1 + 1 + 1) := by omega
  simp [atI, ixN, this]
theorem atI_3 {α : Type} (x y z a : α) (r : List α) : atI (x :: y :: z :: a :: r) 3 = some a := by
  have : ((3 : Int) < r.length + 1 + 1 + 1 + 1) := by omega
  simp [atI, ixN, this]
theorem atI_4 {α : Type} (x y z a b : α) (r : List α) : atI (x :: y :: z :: a :: b :: r) 4 = some b := by
  have : ((4 : Int) < r.length + 1 + 1 + 1 + 1 + 1) := by omega
  simp [atI, ixN, this]
theorem atI_nat {α : Type} {xs : List α} {i : Int} (h0 : 0 ≤ i) (h1 : i < xs.length) : ∃ (h : i.toNat < xs.length), atI xs i = some xs[i.toNat] := by
  refine ⟨by omega, ?_⟩
  unfold atI ixN
  rw [if_pos h0, if_pos h1]
  simp
theorem atI_map {α β : Type} {f : α → β} (xs : List α) (i : Int) : atI (xs.map f) i = (atI xs i).map f := by
  unfold atI
  rw [List.length_map]
  cases ixN xs.length i <;> simp
theorem atI_mem {α : Type} {xs : List α} {i : Int} (h0 : 0 ≤ i) (h1 : i < xs.length) : ∃ a ∈ xs, atI xs i = some a := by
  obtain ⟨h, e⟩ := atI_nat h0 h1
  exact ⟨_, List.getElem_mem h, e⟩
theorem o_eqII (i j : Int) : pEqA (.int i) (.int j) = .ok (.val (.bl (decide (i = j)))) := by
  have := eqB_enc (α := Int) (by decide) i j
  simp only [enc_int] at this
  unfold pEqA pEq; simp only [this]
theorem o_eqSS (i j : Str) : pEqA (.str i) (.str j) = .ok (.val (.bl (decide (i = j)))) := by
  have := eqB_enc (α := Str) (by decide) i j
  simp only [enc_str] at this
  unfold pEqA pEq; simp only [this]
theorem o_neII (i j : Int) : pNe (.int i) (.int j) = .ok (.val (.bl (!decide (i = j)))) := by
  have := eqB_enc (α := Int) (by decide) i j
  simp only [enc_int] at this
  unfold pNe; simp only [this]
theorem o_neSS (i j : Str) : pNe (.str i) (.str j) = .ok (.val (.bl (!decide (i = j)))) := by
  have := eqB_enc (α := Str) (by decide) i j
  simp only [enc_str] at this
  unfold pNe; simp only [this]
theorem o_ne_enc {α : Type} [PE α] (a b : α) [Decidable (a = b)] (hd : PE.dmax α ≤ 64 := by decide) : pNe (enc a) (enc b) = .ok (.val (.bl (!decide (a = b)))) := by
  unfold pNe; simp only [eqB_enc hd]
theorem o_eq_enc {α : Type} [PE α] (a b : α) [Decidable (a = b)] (hd : PE.dmax α ≤ 64 := by decide) : pEqA (enc a) (enc b) = .ok (.val (.bl (decide (a = b)))) := by
  have h : pEqA (enc a) (enc b) = pEq (enc a) (enc b) := by
    have h1 := PE.pd a
    unfold pEqA
    split
    · rename_i e _; rw [e] at h1; simp [PV.pd] at h1
    · rfl
  rw [h]; unfold pEq; simp only [eqB_enc hd]
theorem o_eq_dct0 (kvs : List (Key × PV)) : pEqA (.dct kvs) (.dct []) = .ok (.val (.bl kvs.isEmpty)) := (rfl)
theorem o_max2 (i j : Int) : pMax [.int i, .int j] = .ok (.val (.int (max i j))) := by
  have : (if j > i then j else i) = max i j := by rw [Int.max_def]; split <;> split <;> omega
  unfold pMax; rw [← this]
theorem o_min2 (i j : Int) : pMin [.int i, .int j] = .ok (.val (.int (min i j))) := by
  have : (if j < i then j else i) = min i j := by rw [Int.min_def]; split <;> split <;> omega
  unfold pMin; rw [← this]
theorem o_rng1 (n : Int) {Q : List PV → Prop} : WP (fRng1 [.int n]) Q X = ((-(2 ^ 62) ≤ n ∧ n < 2 ^ 62) ∧ Q ((List.range n.toNat).map fun (k : Nat) => PV.int k)) := by unfold fRng1; simp only [wp_req, wp_ok]
theorem o_fSeq_lst (xs : List PV) : fSeq (.lst xs) = .ok xs := (rfl)
theorem o_fSeq_tup (xs : List PV) : fSeq (.tup xs) = .ok xs := (rfl)
theorem o_fSeq_scr (xs : List Int) : fSeq (.scr xs) = .ok (xs.map .int) := (rfl)
theorem o_fItems (kvs : List (Key × PV)) : fItems (.dct kvs) = .ok (kvs.map fun p => .tup [keyV p.1, p.2]) := (rfl)
theorem o_fKeys (kvs : List (Key × PV)) : fKeys (.dct kvs) = .ok (kvs.map fun p => keyV p.1) := (rfl)
theorem o_fVals (kvs : List (Key × PV)) : fVals (.dct kvs) = .ok (kvs.map fun p => p.2) := (rfl)
theorem keyOf_int (i : Int) : keyOf (.int i) = some (.inl i) := (rfl)
theorem keyOf_str (i : Str) : keyOf (.str i) = some (.inr i) := (rfl)
theorem o_isLst (xs : List PV) : isLst (.lst xs) = true := (rfl)
theorem o_isDct (xs : List (Key × PV)) : isDct (.dct xs) = true := (rfl)
theorem o_append (xs : List PV) (y : PV) {K : PV → PV → Prop} : W2 (mAppend (.lst xs) [y]) K X = (xs.length < sizeLine ∧ K (.lst (xs ++ [y])) .non) := by unfold mAppend; simp only [w2_req, w2_ok]
theorem o_extend (xs ys : List PV) {K : PV → PV → Prop} : W2 (mExtend (.lst xs) [.lst ys]) K X = (xs.length + ys.length ≤ sizeLine ∧ K (.lst (xs ++ ys)) .non) := by unfold mExtend; simp only [w2_req, w2_ok]
theorem o_slL (xs : List PV) (a b : Option Int) : pSl (.lst xs) a b = .ok (.own (.lst (cutL xs a b))) := (rfl)
theorem o_slT (xs : List PV) (a b : Option Int) : pSl (.tup xs) a b = .ok (.val (.tup (cutL xs a b))) := (rfl)
theorem cutL_from (xs : List PV) (n : Nat) : cutL xs (some (n : Int)) none = xs.drop n := by
  unfold cutL
  rw [HT.sIx_nat, HT.sIx_none]
  by_cases h : n ≤ xs.length
  · rw [Nat.min_eq_left h, List.take_of_length_le]; simp
  · rw [Nat.min_eq_right (by omega)]; simp [List.drop_eq_nil_of_le (show xs.length ≤ n by omega)]
theorem cutL_to (xs : List PV) (n : Nat) : cutL xs none (some (n : Int)) = xs.take n := by
  unfold cutL
  rw [HT.sIx_nat, HT.sIx_none]
  by_cases h : n ≤ xs.length
  · rw [Nat.min_eq_left h]; simp
  · rw [Nat.min_eq_right (by omega), List.take_of_length_le (by simp), List.take_of_length_le (by omega)]; simp
theorem cutL_from_i (xs : List PV) (i : Int) (h : 0 ≤ i) : cutL xs (some i) none = xs.drop i.toNat := by
  have := cutL_from xs i.toNat; rwa [Int.toNat_of_nonneg h] at this
theorem cutL_to_i (xs : List PV) (i : Int) (h : 0 ≤ i) : cutL xs none (some i) = xs.take i.toNat := by
  have := cutL_to xs i.toNat; rwa [Int.toNat_of_nonneg h] at this
theorem cutL_from_lit (xs : List PV) (n : Nat) : cutL xs (some (OfNat.ofNat n : Int)) none = xs.drop n := cutL_from xs n
theorem fld_hit (c f : Str) (x : PV) (r : List (Str × PV)) : pFld c f (.ins c ((f, x) :: r)) = .ok (.val x) := by simp [pFld]
end
end BF

set_option maxRecDepth 100000
set_option maxHeartbeats 4000000
namespace BF
open PySem PySem.Spec L2
open PyProof.Rows hiding St
set_option autoImplicit false
open PE (enc)

theorem sl_true {n : Nat} (h : n ≤ 1000 := by decide) : (n ≤ sizeLine) = True := by
  have : (1000 : Nat) ≤ sizeLine := by decide
  simp; omega
theorem sl_le {n : Nat} (h : n ≤ 16777216) : n ≤ sizeLine := h
theorem sl_lt {n : Nat} (h : n < 16777216) : n < sizeLine := h
theorem toPo {x : PV} : toP (.own x) = .prm x := (rfl)
theorem toPv {x : PV} : toP (.val x) = .val x := (rfl)
theorem backNil {ρ : En} : back [] ρ = [] := (rfl)
theorem backO {x y : PV} {ss : List Slot} {ρ : En} : back (.own x :: ss) (.prm y :: ρ) = .own y :: back ss ρ := (rfl)
theorem backVal {x : PV} {ss : List Slot} {s : Slot} {ρ : En} : back (.val x :: ss) (s :: ρ) = .val x :: back ss ρ := (rfl)
theorem lset0 (x y : PV) (r : List PV) : lstSet (x :: r) 0 y = .ok (.lst (y :: r)) := by simp [lstSet, ixN]
theorem lset1 (x z y : PV) (r : List PV) : lstSet (x :: z :: r) 1 y = .ok (.lst (x :: y :: r)) := by
  have : ((1 : Int) < r.length + 1 + 1) := by omega
  simp [lstSet, ixN, this]
theorem lset2 (x z a y : PV) (r : List PV) : lstSet (x :: z :: a :: r) 2 y = .ok (.lst (x :: z :: y :: r)) := by
  have : ((2 : Int) < r.length + 1 + 1 + 1) := by omega
  simp [lstSet, ixN, this]
theorem noOwn0 {ρ : En} : noOwn [] ρ = true := (rfl)
def nv (i : Nat) (ρ : En) : Bool := !isOwn i ρ
theorem noOwnS {i : Nat} {vs : List Nat} {ρ : En} : noOwn (i :: vs) ρ = (nv i ρ && noOwn vs ρ) := by
  unfold noOwn nv isOwn
  simp only [List.all_cons]
  congr 1
  cases ρ[i]? with
  | none => rfl
  | some s => cases s <;> rfl
theorem nvS {n : Nat} {s : Slot} {r : En} : nv (n + 1) (s :: r) = nv n r := by unfold nv; rw [isOwnS]
theorem nvV {x : PV} {r : En} : nv 0 (.val x :: r) = true := (rfl)
theorem nvD {r : En} : nv 0 (.dead :: r) = true := (rfl)
theorem flat_int (i : Int) : flatR (.val (.int i)) = true := (rfl)
theorem flat_bl (i : Bool) : flatR (.val (.bl i)) = true := (rfl)
theorem flat_str (i : Str) : flatR (.val (.str i)) = true := (rfl)
theorem flat_non : flatR (.val .non) = true := (rfl)
theorem cmulX_r {i j : Int} (h : j.natAbs < 2 ^ 64) : CMulX i j := .inr (.inr h)
theorem cmulX_l {i j : Int} (h : i.natAbs < 2 ^ 64) : CMulX i j := .inr (.inl h)
theorem fnM_run {k : Nat} {S : SX} {ss : List Slot} {K : Slot → List Slot → Prop} {X : Str → Prop} : W2 (fnM k S ss) K X = WP (S (ss.map toP ++ List.replicate k .dead)) (endK ss K) X := w_fnM
theorem roOwn {x y : PV} : reOwn (.own x) y = .own y := (rfl)
theorem roPrm {x y : PV} : reOwn (.prm x) y = .prm y := (rfl)
theorem cmulXr {i j : Int} (h : j.natAbs < 2 ^ 64) : CMulX i j = True := by simp only [eq_iff_iff, iff_true]; exact cmulX_r h
theorem cmulXl {i j : Int} (h : i.natAbs < 2 ^ 64) : CMulX i j = True := by simp only [eq_iff_iff, iff_true]; exact cmulX_l h
theorem lgS {n : Nat} (h : n < 2 ^ 128) : (n.log2 < 9000) = True := by
  simp only [eq_iff_iff, iff_true]
  have : n.log2 < 128 ∨ n = 0 := by
    by_cases h0 : n = 0
    · exact .inr h0
    · exact .inl ((Nat.log2_lt h0).mpr h)
  rcases this with h | rfl
  · omega
  · decide
theorem natAbsL (n : Nat) : (@OfNat.ofNat Int n instOfNat).natAbs = @OfNat.ofNat Nat n (instOfNatNat n) := (rfl)
theorem castZ0 : ((0 : Nat) : Int) = 0 := (rfl)
theorem castZ1 : ((1 : Nat) : Int) = 1 := (rfl)
theorem lcK_eq {acc : List PV} {J : List PV → En → Prop} {E : PX} {b : Bool} {ρ : En} : lcK acc J E b ρ = cond2 b (W2 (E ρ) (fun s ρ1 => acc.length < sizeLine ∧ J (acc ++ [s.pv]) ρ1) nX) (J acc ρ) := (rfl)
theorem insF_eq {c : Str} {Q : List (Str × PV) → Prop} {fs : List (Str × PV)} : insF c Q (.ins c fs) = (fs.length < 1000 ∧ Q fs) := by
  show ((c = c ∧ fs.length < 1000) ∧ Q fs) = _
  simp
end BF

set_option maxRecDepth 100000
set_option maxHeartbeats 4000000
namespace BF
open PySem PySem.Spec L2
open PyProof.Rows hiding St
set_option autoImplicit false
open PE (enc)
theorem isi_non_int (cs : List Str)  : pIsi cs [.non, .ty "int"] = .ok (.val (.bl false)) := (rfl)
theorem isi_non_bool (cs : List Str)  : pIsi cs [.non, .ty "bool"] = .ok (.val (.bl false)) := (rfl)
theorem isi_non_str (cs : List Str)  : pIsi cs [.non, .ty "str"] = .ok (.val (.bl false)) := (rfl)
theorem isi_non_tuple (cs : List Str)  : pIsi cs [.non, .ty "tuple"] = .ok (.val (.bl false)) := (rfl)
theorem isi_non_list (cs : List Str)  : pIsi cs [.non, .ty "list"] = .ok (.val (.bl false)) := (rfl)
theorem isi_non_dict (cs : List Str)  : pIsi cs [.non, .ty "dict"] = .ok (.val (.bl false)) := (rfl)
theorem isi_bl_int (cs : List Str) (b : Bool) : pIsi cs [(.bl b), .ty "int"] = .ok (.val (.bl true)) := (rfl)
theorem isi_bl_bool (cs : List Str) (b : Bool) : pIsi cs [(.bl b), .ty "bool"] = .ok (.val (.bl true)) := (rfl)
theorem isi_bl_str (cs : List Str) (b : Bool) : pIsi cs [(.bl b), .ty "str"] = .ok (.val (.bl false)) := (rfl)
theorem isi_bl_tuple (cs : List Str) (b : Bool) : pIsi cs [(.bl b), .ty "tuple"] = .ok (.val (.bl false)) := (rfl)
theorem isi_bl_list (cs : List Str) (b : Bool) : pIsi cs [(.bl b), .ty "list"] = .ok (.val (.bl false)) := (rfl)
theorem isi_bl_dict (cs : List Str) (b : Bool) : pIsi cs [(.bl b), .ty "dict"] = .ok (.val (.bl false)) := (rfl)
theorem isi_int_int (cs : List Str) (b : Int) : pIsi cs [(.int b), .ty "int"] = .ok (.val (.bl true)) := (rfl)
theorem isi_int_bool (cs : List Str) (b : Int) : pIsi cs [(.int b), .ty "bool"] = .ok (.val (.bl false)) := (rfl)
theorem isi_int_str (cs : List Str) (b : Int) : pIsi cs [(.int b), .ty "str"] = .ok (.val (.bl false)) := (rfl)
theorem isi_int_tuple (cs : List Str) (b : Int) : pIsi cs [(.int b), .ty "tuple"] = .ok (.val (.bl false)) := (rfl)
theorem isi_int_list (cs : List Str) (b : Int) : pIsi cs [(.int b), .ty "list"] = .ok (.val (.bl false)) := (rfl)
theorem isi_int_dict (cs : List Str) (b : Int) : pIsi cs [(.int b), .ty "dict"] = .ok (.val (.bl false)) := (rfl)
theorem isi_str_int (cs : List Str) (b : Str) : pIsi cs [(.str b), .ty "int"] = .ok (.val (.bl false)) := (rfl)
theorem isi_str_bool (cs : List Str) (b : Str) : pIsi cs [(.str b), .ty "bool"] = .ok (.val (.bl false)) := (rfl)
theorem isi_str_str (cs : List Str) (b : Str) : pIsi cs [(.str b), .ty "str"] = .ok (.val (.bl true)) := (rfl)
theorem isi_str_tuple (cs : List Str) (b : Str) : pIsi cs [(.str b), .ty "tuple"] = .ok (.val (.bl false)) := (rfl)
theorem isi_str_list (cs : List Str) (b : Str) : pIsi cs [(.str b), .ty "list"] = .ok (.val (.bl false)) := (rfl)
theorem isi_str_dict (cs : List Str) (b : Str) : pIsi cs [(.str b), .ty "dict"] = .ok (.val (.bl false)) := (rfl)
theorem isi_tup_int (cs : List Str) (b : List PV) : pIsi cs [(.tup b), .ty "int"] = .ok (.val (.bl false)) := (rfl)
theorem isi_tup_bool (cs : List Str) (b : List PV) : pIsi cs [(.tup b), .ty "bool"] = .ok (.val (.bl false)) := (rfl)
theorem isi_tup_str (cs : List Str) (b : List PV) : pIsi cs [(.tup b), .ty "str"] = .ok (.val (.bl false)) := (rfl)
theorem isi_tup_tuple (cs : List Str) (b : List PV) : pIsi cs [(.tup b), .ty "tuple"] = .ok (.val (.bl true)) := (rfl)
theorem isi_tup_list (cs : List Str) (b : List PV) : pIsi cs [(.tup b), .ty "list"] = .ok (.val (.bl false)) := (rfl)
theorem isi_tup_dict (cs : List Str) (b : List PV) : pIsi cs [(.tup b), .ty "dict"] = .ok (.val (.bl false)) := (rfl)
theorem isi_lst_int (cs : List Str) (b : List PV) : pIsi cs [(.lst b), .ty "int"] = .ok (.val (.bl false)) := (rfl)
theorem isi_lst_bool (cs : List Str) (b : List PV) : pIsi cs [(.lst b), .ty "bool"] = .ok (.val (.bl false)) := (rfl)
theorem isi_lst_str (cs : List Str) (b : List PV) : pIsi cs [(.lst b), .ty "str"] = .ok (.val (.bl false)) := (rfl)
theorem isi_lst_tuple (cs : List Str) (b : List PV) : pIsi cs [(.lst b), .ty "tuple"] = .ok (.val (.bl false)) := (rfl)
theorem isi_lst_list (cs : List Str) (b : List PV) : pIsi cs [(.lst b), .ty "list"] = .ok (.val (.bl true)) := (rfl)
theorem isi_lst_dict (cs : List Str) (b : List PV) : pIsi cs [(.lst b), .ty "dict"] = .ok (.val (.bl false)) := (rfl)
theorem isi_scr_int (cs : List Str) (b : List Int) : pIsi cs [(.scr b), .ty "int"] = .ok (.val (.bl false)) := (rfl)
theorem isi_scr_bool (cs : List Str) (b : List Int) : pIsi cs [(.scr b), .ty "bool"] = .ok (.val (.bl false)) := (rfl)
theorem isi_scr_str (cs : List Str) (b : List Int) : pIsi cs [(.scr b), .ty "str"] = .ok (.val (.bl false)) := (rfl)
theorem isi_scr_tuple (cs : List Str) (b : List Int) : pIsi cs [(.scr b), .ty "tuple"] = .ok (.val (.bl false)) := (rfl)
theorem isi_scr_list (cs : List Str) (b : List Int) : pIsi cs [(.scr b), .ty "list"] = .ok (.val (.bl true)) := (rfl)
theorem isi_scr_dict (cs : List Str) (b : List Int) : pIsi cs [(.scr b), .ty "dict"] = .ok (.val (.bl false)) := (rfl)
theorem isi_dct_int (cs : List Str) (b : List (Key × PV)) : pIsi cs [(.dct b), .ty "int"] = .ok (.val (.bl false)) := (rfl)
theorem isi_dct_bool (cs : List Str) (b : List (Key × PV)) : pIsi cs [(.dct b), .ty "bool"] = .ok (.val (.bl false)) := (rfl)
theorem isi_dct_str (cs : List Str) (b : List (Key × PV)) : pIsi cs [(.dct b), .ty "str"] = .ok (.val (.bl false)) := (rfl)
theorem isi_dct_tuple (cs : List Str) (b : List (Key × PV)) : pIsi cs [(.dct b), .ty "tuple"] = .ok (.val (.bl false)) := (rfl)
theorem isi_dct_list (cs : List Str) (b : List (Key × PV)) : pIsi cs [(.dct b), .ty "list"] = .ok (.val (.bl false)) := (rfl)
theorem isi_dct_dict (cs : List Str) (b : List (Key × PV)) : pIsi cs [(.dct b), .ty "dict"] = .ok (.val (.bl true)) := (rfl)
theorem isi_cl_ins (cs : List Str) (c d : Str) (fs : List (Str × PV)) (h1 : cs.contains d = true) (h2 : cs.contains c = true) : pIsi cs [.ins c fs, .cl d] = .ok (.val (.bl (decide (c = d)))) := by
  simp only [pIsi, h1, h2, if_true]
theorem isi_cl_int (cs : List Str) (d : Str) (i : Int) (h1 : cs.contains d = true) : pIsi cs [.int i, .cl d] = .ok (.val (.bl false)) := by
  simp only [pIsi, h1, if_true, PV.tyN]
theorem isi_cl_str (cs : List Str) (d : Str) (i : Str) (h1 : cs.contains d = true) : pIsi cs [.str i, .cl d] = .ok (.val (.bl false)) := by
  simp only [pIsi, h1, if_true, PV.tyN]
theorem isi_cl_tup (cs : List Str) (d : Str) (i : List PV) (h1 : cs.contains d = true) : pIsi cs [.tup i, .cl d] = .ok (.val (.bl false)) := by
  simp only [pIsi, h1, if_true, PV.tyN]
theorem isi_cl_lst (cs : List Str) (d : Str) (i : List PV) (h1 : cs.contains d = true) : pIsi cs [.lst i, .cl d] = .ok (.val (.bl false)) := by
  simp only [pIsi, h1, if_true, PV.tyN]
theorem isi_cl_non (cs : List Str) (d : Str) (h1 : cs.contains d = true) : pIsi cs [.non, .cl d] = .ok (.val (.bl false)) := by
  simp only [pIsi, h1, if_true, PV.tyN]
theorem kill_get : ∀ (vs : List Nat) (ρ : En) (i : Nat), i ∉ vs → (killE vs ρ)[i]? = ρ[i]?
  | [], _, _, _ => rfl
  | v :: vs, ρ, i, h => by
    have h' : i ≠ v ∧ i ∉ vs := by simpa using h
    show (killE vs (ρ.set v .dead))[i]? = _
    rw [kill_get vs _ i h'.2, List.getElem?_set_ne (Ne.symm h'.1)]
theorem kill_len : ∀ (vs : List Nat) (ρ : En), (killE vs ρ).length = ρ.length
  | [], _ => rfl
  | v :: vs, ρ => by
    show (killE vs (ρ.set v .dead)).length = _
    rw [kill_len vs]; simp
theorem merge_len : ∀ (vs : List Nat) (ρ ρ' : En), (mergeE vs ρ ρ').length = ρ'.length
  | [], _, _ => rfl
  | v :: vs, ρ, ρ' => by
    unfold mergeE
    split
    · simp [merge_len vs ρ ρ']
    · exact merge_len vs ρ ρ'
theorem merge_get : ∀ (vs : List Nat) (ρ ρ' : En) (i : Nat), ρ'.length = ρ.length → (i ∈ vs ∨ ρ'[i]? = ρ[i]?) → (mergeE vs ρ ρ')[i]? = ρ[i]?
  | [], ρ, ρ', i, _, h => by
    rcases h with h | h
    · cases h
    · exact h
  | v :: vs, ρ, ρ', i, hl, h => by
    unfold mergeE
    have ih : i ≠ v → (mergeE vs ρ ρ')[i]? = ρ[i]? := fun hv => merge_get vs ρ ρ' i hl (h.imp (fun h => (List.mem_cons.mp h).resolve_left hv) id)
    split
    · rename_i s hs
      by_cases hv : i = v
      · subst hv
        have : i < (mergeE vs ρ ρ').length := by rw [merge_len, hl]; exact (List.getElem?_eq_some_iff.mp hs).1
        rw [List.getElem?_set_self this, hs]
      · rw [List.getElem?_set_ne (Ne.symm hv)]; exact ih hv
    · rename_i hs
      by_cases hv : i = v
      · subst hv
        rw [hs, List.getElem?_eq_none]
        rw [merge_len, hl]
        exact List.getElem?_eq_none_iff.mp hs
      · exact ih hv
theorem merge_kill {vs : List Nat} {ρ ρ' : En} (h : killE vs ρ' = killE vs ρ) : mergeE vs ρ ρ' = ρ := by
  refine List.ext_getElem? fun i => ?_
  have hl : ρ'.length = ρ.length := by rw [← kill_len vs ρ', h, kill_len]
  refine merge_get vs ρ ρ' i hl ?_
  by_cases hi : i ∈ vs
  · exact .inl hi
  · exact .inr (by rw [← kill_get vs ρ' i hi, h, kill_get vs ρ i hi])
section
variable {X : Str → Prop} {α : Type}
theorem w_comp {vs : List Nat} {t : GX} {B : BX} {E : PX} {e : α → PV} {K : List PV → En → Prop} {l : List α} {ρ : En} (b : α → Bool) (g : α → PV) (env : α → En)
    (ht : ∀ a ∈ l, t (e a) (killE vs ρ) = .ok (env a))
    (hk : ∀ a ∈ l, killE vs (env a) = killE vs ρ)
    (hB : ∀ a ∈ l, W2 (B (env a)) (fun c ρ1 => c = b a ∧ ρ1 = env a) nX)
    (hE : ∀ a ∈ l, b a = true → W2 (E (env a)) (fun s ρ1 => s.pv = g a ∧ ρ1 = env a) nX)
    (hl : l.length ≤ sizeLine)
    (hK : ∀ ρ', mergeE vs ρ ρ' = ρ → K ((l.filter b).map g) ρ') : W2 (loopC vs t B E (l.map e) [] ρ) K X := by
  refine w_lcP b g l ρ [] env (by simpa using hl) hk ht hB hE fun ρ' h => hK ρ' (merge_kill ?_)
  rcases h with rfl | ⟨a, ha, rfl⟩
  · rfl
  · exact hk a ha
theorem w_comp0 {vs : List Nat} {t : GX} {E : PX} {e : α → PV} {K : List PV → En → Prop} {l : List α} {ρ : En} (g : α → PV) (env : α → En)
    (ht : ∀ a ∈ l, t (e a) (killE vs ρ) = .ok (env a))
    (hk : ∀ a ∈ l, killE vs (env a) = killE vs ρ)
    (hE : ∀ a ∈ l, W2 (E (env a)) (fun s ρ1 => s.pv = g a ∧ ρ1 = env a) nX)
    (hl : l.length ≤ sizeLine)
    (hK : ∀ ρ', mergeE vs ρ ρ' = ρ → K (l.map g) ρ') : W2 (loopC vs t bYes E (l.map e) [] ρ) K X := by
  refine w_comp (fun _ => true) g env ht hk (fun a _ => ⟨rfl, rfl⟩) (fun a h _ => hE a h) hl fun ρ' h => ?_
  rw [List.filter_eq_self.mpr (by simp)]
  exact hK ρ' h
end
theorem bls_map {α : Type} (b : α → Bool) : ∀ l : List α, bls? (l.map fun a => PV.bl (b a)) = some (l.map b)
  | [] => rfl
  | a :: l => by simp [bls?, bls_map b l]
theorem ints_map : ∀ l : List Int, ints? (l.map PV.int) = some l
  | [] => rfl
  | a :: l => by simp [ints?, ints_map l]
theorem o_allB {α : Type} (b : α → Bool) (l : List α) : pBls (fun bs => bs.all id) [.lst (l.map fun a => PV.bl (b a))] = .ok (.val (.bl (l.all b))) := by
  simp [pBls, bls_map]
theorem o_anyB {α : Type} (b : α → Bool) (l : List α) : pBls (fun bs => bs.any id) [.lst (l.map fun a => PV.bl (b a))] = .ok (.val (.bl (l.any b))) := by
  simp [pBls, bls_map]
theorem o_sumI (l : List Int) : pSum [.lst (l.map PV.int)] = .ok (.val (.int l.sum)) := by
  simp [pSum, pInts, intsOf, ints_map]
def sdct {α : Type} (f : α → PV) (l : List (Str × α)) : List (Key × PV) := l.map fun p => (.inr p.1, f p.2)
theorem sdct_len {α : Type} (f : α → PV) (l : List (Str × α)) : (sdct f l).length = l.length := by simp [sdct]
theorem sdct_look {α : Type} (f : α → PV) (k : Str) : ∀ l : List (Str × α), dLook (sdct f l) (.inr k) = (l.lookup k).map f
  | [] => rfl
  | (j, a) :: l => by
    have ih := sdct_look f k l
    unfold dLook sdct at *
    simp only [List.map_cons, List.find?_cons, List.lookup_cons]
    by_cases h : k = j
    · subst h; simp
    · have h1 : (k == j) = false := by simpa using h
      have h2 : ¬ (Sum.inr j : Key) = .inr k := fun e => h (Sum.inr.inj e).symm
      simp only [h1, h2, decide_false]
      simpa using ih
theorem sdct_items {α : Type} (f : α → PV) (l : List (Str × α)) : fItems (.dct (sdct f l)) = .ok (l.map fun p => .tup [.str p.1, f p.2]) := by
  simp [fItems, sdct, keyV, Function.comp_def]
theorem sdct_keys {α : Type} (f : α → PV) (l : List (Str × α)) : fKeys (.dct (sdct f l)) = .ok (l.map fun p => .str p.1) := by
  simp [fKeys, sdct, keyV, Function.comp_def]
theorem sdct_vals {α : Type} (f : α → PV) (l : List (Str × α)) : fVals (.dct (sdct f l)) = .ok (l.map fun p => f p.2) := by
  simp [fVals, sdct, Function.comp_def]
theorem sdct_put {α : Type} (f : α → PV) (k : Str) (a : α) (l : List (Str × α)) (h : ∀ p ∈ l, p.1 ≠ k) : dPut (sdct f l) (.inr k) (f a) = sdct f (l ++ [(k, a)]) := by
  unfold dPut
  have : ¬ (sdct f l).any (fun kv => decide (kv.1 = .inr k)) = true := by
    simp only [sdct, List.any_map, List.any_eq_true, not_exists, Function.comp, decide_eq_true_eq, not_and]
    exact fun p hp e => h p hp (Sum.inr.inj e)
  rw [if_neg this]; simp [sdct]
theorem sdct_isEmpty {α : Type} (f : α → PV) (l : List (Str × α)) : (sdct f l).isEmpty = l.isEmpty := by cases l <;> rfl
theorem strKeys_sdct {α : Type} (f : α → PV) : ∀ l : List (Str × α), strKeys? (sdct f l) = some (l.map Prod.fst)
  | [] => rfl
  | p :: l => by
    have := strKeys_sdct f l
    simp only [sdct, List.map_cons, strKeys?] at *
    rw [this]; rfl
theorem o_sorted_dct {α : Type} (f : α → PV) (l : List (Str × α)) (h : l.length < 64) : pSortedA false [.dct (sdct f l)] = .ok (.own (.lst ((srt (l.map Prod.fst)).map enc))) := by
  have e : sortP false ((l.map Prod.fst).map PV.str) = (srt (l.map Prod.fst)).map enc := sortP_enc (α := Str) _
  simp only [pSortedA, strKeys_sdct, List.length_map, h, true_and, if_true, e]
theorem pairs_sdct {α : Type} (f : α → PV) : ∀ l : List (Str × α), pairs? (l.map fun p => .tup [.str p.1, f p.2]) = some (sdct f l)
  | [] => rfl
  | p :: l => by
    have := pairs_sdct f l
    simp only [sdct, List.map_cons, pairs?, keyOf] at *
    rw [this]; rfl
theorem dMerge_sdct {α : Type} (f : α → PV) : ∀ (l acc : List (Str × α)), ((acc ++ l).map Prod.fst).Nodup → dMerge (sdct f acc) (sdct f l) = sdct f (acc ++ l)
  | [], acc, _ => by simp [dMerge, sdct]
  | p :: l, acc, h => by
    have hp : ∀ q ∈ acc, q.1 ≠ p.1 := by
      intro q hq e
      rw [List.map_append, List.nodup_append] at h
      exact h.2.2 q.1 (List.mem_map_of_mem hq) p.1 (by simp) e
    have := sdct_put f p.1 p.2 acc hp
    show dMerge (dPut (sdct f acc) (.inr p.1) (f p.2)) (sdct f l) = _
    rw [this, dMerge_sdct f l (acc ++ [(p.1, p.2)]) (by simpa using h)]
    simp
theorem o_dictS {α : Type} (f : α → PV) (l : List (Str × α)) (h : (l.map Prod.fst).Nodup) : pDict [.lst (l.map fun p => .tup [.str p.1, f p.2])] = .ok (.own (.dct (sdct f l))) := by
  simp only [pDict, pairs_sdct]
  rw [show dMerge [] (sdct f l) = sdct f l by simpa [sdct] using dMerge_sdct f l [] (by simpa using h)]
theorem lookup_mem {α : Type} {k : Str} {a : α} : ∀ {l : List (Str × α)}, l.lookup k = some a → (k, a) ∈ l
  | [], h => by simp at h
  | (j, b) :: l, h => by
    rw [List.lookup_cons] at h
    by_cases e : k = j
    · subst e; simp at h; subst h; simp
    · have : (k == j) = false := by simpa using e
      rw [this] at h
      exact List.mem_cons_of_mem _ (lookup_mem h)
theorem lookup_of_mem {α : Type} {k : Str} : ∀ {l : List (Str × α)}, k ∈ l.map Prod.fst → ∃ a, l.lookup k = some a ∧ (k, a) ∈ l
  | [], h => by simp at h
  | (j, b) :: l, h => by
    rw [List.lookup_cons]
    by_cases e : k = j
    · subst e; exact ⟨b, by simp, by simp⟩
    · have h1 : (k == j) = false := by simpa using e
      rw [h1]
      have h2 : k ∈ l.map Prod.fst := by
        simp only [List.map_cons, List.mem_cons] at h
        exact h.resolve_left e
      obtain ⟨a, e1, e2⟩ := lookup_of_mem h2
      exact ⟨a, e1, List.mem_cons_of_mem _ e2⟩
theorem lookup_nodup {α : Type} {k : Str} {a : α} : ∀ {l : List (Str × α)}, (l.map Prod.fst).Nodup → (k, a) ∈ l → l.lookup k = some a
  | [], _, h => by simp at h
  | (j, b) :: l, hn, h => by
    rw [List.lookup_cons]
    simp only [List.map_cons, List.nodup_cons] at hn
    by_cases e : k = j
    · subst e
      simp only [beq_self_eq_true]
      rcases List.mem_cons.mp h with h | h
      · rw [(Prod.mk.inj h).2]
      · exact absurd (List.mem_map_of_mem (f := Prod.fst) h) hn.1
    · have h1 : (k == j) = false := by simpa using e
      rw [h1]
      rcases List.mem_cons.mp h with h | h
      · exact absurd (Prod.mk.inj h).1 e
      · exact lookup_nodup hn.2 h
theorem o_fSeq_str (z : Str) : fSeq (.str z) = .ok (z.cps.toList.map fun c => .str ⟨#[c]⟩) := (rfl)
theorem o_in_sign (c : Nat) (z : Str) : pIn false (.str ⟨#[c]⟩) (.str z) = .ok (.val (.bl (decide (c ∈ z.cps.toList)))) := by
  simp only [pIn, pInS, inB]; rfl
theorem o_len_str (z : Str) {Q : Slot → Prop} {X : Str → Prop} : WP (pLenA [.str z]) Q X = (z.length ≤ sizeLine ∧ Q (.val (.int z.length))) := by
  simp only [pLenA, pLen, wp_req, wp_ok]
end BF

set_option maxRecDepth 100000
set_option maxHeartbeats 4000000
namespace BF
open PySem PySem.Spec L2
open PyProof.Rows hiding St
set_option autoImplicit false
open PE (enc)
section
variable {X : Str → Prop} {α β : Type}
theorem loopG_K1 {vs : List Nat} {t : GX} {B : BX} {E : PX} : ∀ (xs acc : List PV) (ρ : En), loopG vs t B (K1 E) xs acc ρ = loopC vs t B E xs acc ρ
  | [], _, _ => rfl
  | x :: xs, acc, ρ => by
    unfold loopG loopC
    cases t x (killE vs ρ) with
    | exc c => rfl
    | stuck => rfl
    | ok ρ1 =>
      simp only
      congr 1
      funext p
      by_cases h : p.1 = true
      · rw [if_pos h, if_pos h]
        unfold K1
        rw [res_assoc]
        congr 1
        funext q
        by_cases h2 : acc.length < sizeLine
        · rw [if_pos h2, if_pos h2]; exact loopG_K1 xs _ _
        · rw [if_neg h2, if_neg h2]; rfl
      · rw [if_neg h, if_neg h]; exact loopG_K1 xs _ _
/-- a pure comprehension's end, as an equation -/
theorem loopC_eq {vs : List Nat} {t : GX} {B : BX} {E : PX} {e : α → PV} (b : α → Bool) (g : α → PV) (l : List α) (ρ : En) (acc : List PV) (env : α → En)
    (hl : acc.length + l.length ≤ sizeLine)
    (hk : ∀ a ∈ l, killE vs (env a) = killE vs ρ)
    (ht : ∀ a ∈ l, t (e a) (killE vs ρ) = .ok (env a))
    (hB : ∀ a ∈ l, W2 (B (env a)) (fun c ρ1 => c = b a ∧ ρ1 = env a) nX)
    (hE : ∀ a ∈ l, b a = true → W2 (E (env a)) (fun s ρ1 => s.pv = g a ∧ ρ1 = env a) nX) :
    ∃ ρ', (ρ' = ρ ∨ ∃ a ∈ l, ρ' = env a) ∧ loopC vs t B E (l.map e) acc ρ = .ok (acc ++ (l.filter b).map g, ρ') := by
  obtain ⟨ys, ρ', h1, h2, h3⟩ := (w_lcP (X := nX) (K := fun ys ρ' => ys = acc ++ (l.filter b).map g ∧ (ρ' = ρ ∨ ∃ a ∈ l, ρ' = env a)) b g l ρ acc env hl hk ht hB hE fun ρ' h => ⟨rfl, h⟩).out
  subst h2
  exact ⟨ρ', h3, h1⟩
theorem w_comp2 {vs vs1 : List Nat} {t : GX} {B : BX} {F1 : AX} {t1 : GX} {B1 : BX} {E : PX} {e : α → PV} {e1 : β → PV} {K : List PV → En → Prop} {l : List α} {ρ : En}
    (b : α → Bool) (inner : α → List β) (b1 : α → β → Bool) (g : α → β → PV) (env : α → En) (env1 : α → β → En)
    (ht : ∀ a ∈ l, t (e a) (killE vs ρ) = .ok (env a))
    (hk : ∀ a ∈ l, killE vs (env a) = killE vs ρ)
    (hB : ∀ a ∈ l, W2 (B (env a)) (fun c ρ1 => c = b a ∧ ρ1 = env a) nX)
    (hF : ∀ a ∈ l, b a = true → W2 (F1 (env a)) (fun xs ρ1 => xs = (inner a).map e1 ∧ ρ1 = env a) nX)
    (ht1 : ∀ a ∈ l, ∀ c ∈ inner a, t1 (e1 c) (killE vs1 (env a)) = .ok (env1 a c))
    (hk1 : ∀ a ∈ l, ∀ c ∈ inner a, killE vs1 (env1 a c) = killE vs1 (env a))
    (hk2 : ∀ a ∈ l, ∀ c ∈ inner a, killE vs (env1 a c) = killE vs ρ)
    (hB1 : ∀ a ∈ l, ∀ c ∈ inner a, W2 (B1 (env1 a c)) (fun d ρ1 => d = b1 a c ∧ ρ1 = env1 a c) nX)
    (hE : ∀ a ∈ l, ∀ c ∈ inner a, b1 a c = true → W2 (E (env1 a c)) (fun s ρ1 => s.pv = g a c ∧ ρ1 = env1 a c) nX)
    (hl : (l.flatMap inner).length ≤ sizeLine)
    (hK : ∀ ρ', mergeE vs ρ ρ' = ρ → K ((l.filter b).flatMap fun a => ((inner a).filter (b1 a)).map (g a)) ρ') : W2 (loopG vs t B (K2 vs1 F1 t1 B1 E) (l.map e) [] ρ) K X := by
  have key : ∀ (l' : List α) (acc : List PV) (ρ1 : En), (∀ a ∈ l', a ∈ l) → killE vs ρ1 = killE vs ρ → acc.length + (l'.flatMap inner).length ≤ sizeLine →
      ∃ ρ', killE vs ρ' = killE vs ρ ∧ loopG vs t B (K2 vs1 F1 t1 B1 E) (l'.map e) acc ρ1 = .ok (acc ++ (l'.filter b).flatMap fun a => ((inner a).filter (b1 a)).map (g a), ρ') := by
    intro l'
    induction l' with
    | nil => intro acc ρ1 _ h _; exact ⟨ρ1, h, by simp [loopG]⟩
    | cons a r ih =>
      intro acc ρ1 hm hk0 hlen
      have ha : a ∈ l := hm a (by simp)
      simp only [List.flatMap_cons, List.length_append] at hlen
      simp only [List.map_cons, loopG, hk0, ht a ha]
      rw [(hB a ha).eq]
      simp only [noX, ok_bind]
      cases hb : b a with
      | false =>
        rw [if_neg (by simp)]
        obtain ⟨ρ', h4, h5⟩ := ih acc (env a) (fun x hx => hm x (by simp [hx])) (hk a ha) (by omega)
        exact ⟨ρ', h4, by rw [h5]; simp [hb]⟩
      | true =>
        rw [if_pos rfl]
        rw [show K2 vs1 F1 t1 B1 E acc (env a) = loopG vs1 t1 B1 (K1 E) ((inner a).map e1) acc (env a) by unfold K2; rw [(hF a ha hb).eq]; rfl, loopG_K1]
        obtain ⟨ρ2, h2, h3⟩ := loopC_eq (vs := vs1) (t := t1) (B := B1) (E := E) (e := e1) (b1 a) (g a) (inner a) (env a) acc (env1 a) (by omega) (hk1 a ha) (ht1 a ha) (hB1 a ha) (hE a ha)
        rw [h3]
        simp only [ok_bind]
        have hkk : killE vs ρ2 = killE vs ρ := by
          rcases h2 with rfl | ⟨c, hc, rfl⟩
          · exact hk a ha
          · exact hk2 a ha c hc
        have hf : (((inner a).filter (b1 a)).map (g a)).length ≤ (inner a).length := by rw [List.length_map]; exact List.length_filter_le _ _
        obtain ⟨ρ', h4, h5⟩ := ih (acc ++ ((inner a).filter (b1 a)).map (g a)) ρ2 (fun x hx => hm x (by simp [hx])) hkk (by rw [List.length_append]; omega)
        exact ⟨ρ', h4, by rw [h5]; simp [hb]⟩
  obtain ⟨ρ', h1, h2⟩ := key l [] ρ (fun _ h => h) rfl (by simpa using hl)
  exact W2.of h2 (hK ρ' (merge_kill h1))
/-- .. without conditions -/
theorem w_comp20 {vs vs1 : List Nat} {t : GX} {F1 : AX} {t1 : GX} {E : PX} {e : α → PV} {e1 : β → PV} {K : List PV → En → Prop} {l : List α} {ρ : En}
    (inner : α → List β) (g : α → β → PV) (env : α → En) (env1 : α → β → En)
    (ht : ∀ a ∈ l, t (e a) (killE vs ρ) = .ok (env a))
    (hk : ∀ a ∈ l, killE vs (env a) = killE vs ρ)
    (hF : ∀ a ∈ l, W2 (F1 (env a)) (fun xs ρ1 => xs = (inner a).map e1 ∧ ρ1 = env a) nX)
    (ht1 : ∀ a ∈ l, ∀ c ∈ inner a, t1 (e1 c) (killE vs1 (env a)) = .ok (env1 a c))
    (hk1 : ∀ a ∈ l, ∀ c ∈ inner a, killE vs1 (env1 a c) = killE vs1 (env a))
    (hk2 : ∀ a ∈ l, ∀ c ∈ inner a, killE vs (env1 a c) = killE vs ρ)
    (hE : ∀ a ∈ l, ∀ c ∈ inner a, W2 (E (env1 a c)) (fun s ρ1 => s.pv = g a c ∧ ρ1 = env1 a c) nX)
    (hl : (l.flatMap inner).length ≤ sizeLine)
    (hK : ∀ ρ', mergeE vs ρ ρ' = ρ → K (l.flatMap fun a => (inner a).map (g a)) ρ') : W2 (loopG vs t bYes (K2 vs1 F1 t1 bYes E) (l.map e) [] ρ) K X := by
  refine w_comp2 (fun _ => true) inner (fun _ _ => true) g env env1 ht hk (fun _ _ => ⟨rfl, rfl⟩) (fun a h _ => hF a h) ht1 hk1 hk2 (fun _ _ _ _ => ⟨rfl, rfl⟩) (fun a h c hc _ => hE a h c hc) hl fun ρ' h => ?_
  have := hK ρ' h
  rw [List.filter_eq_self.mpr (by simp)]
  have e : (fun a => ((inner a).filter fun _ => true).map (g a)) = fun a => (inner a).map (g a) := by
    funext a; rw [List.filter_eq_self.mpr (by simp)]
  rw [e]; exact this
end
/-- while: n falls with each turn -/
theorem w_while {B : BX} {S : SX} {K : Out → Prop} {X : Str → Prop} (I : Nat → En → Prop)
    (step : ∀ n ρ, I n ρ → W2 (B ρ) (fun b ρ1 => cond2 b (WP (S ρ1) (turnK (fun ρ' => ∃ n', n' < n ∧ I n' ρ') K) X) (K (.nx ρ1))) X) : ∀ (fuel n : Nat) (ρ : En), n < fuel → I n ρ → WP (loopW B S fuel ρ) K X
  | 0, n, _, h, _ => absurd h (by omega)
  | f + 1, n, ρ, h, hi => by
    show WP (B ρ >>= _) K X
    rw [wp_bind2]
    refine (step n ρ hi).mono fun b ρ1 hb => ?_
    cases b with
    | false => exact hb
    | true =>
      have hb' : WP (S ρ1) (turnK (fun ρ' => ∃ n', n' < n ∧ I n' ρ') K) X := hb
      show WP (S ρ1 >>= _) K X
      rw [wp_bind]
      refine hb'.mono fun o ho => ?_
      cases o with
      | nx ρ' => obtain ⟨n', h1, h2⟩ := ho; exact w_while I step f n' ρ' (by omega) h2
      | ct ρ' => obtain ⟨n', h1, h2⟩ := ho; exact w_while I step f n' ρ' (by omega) h2
      | bk ρ' => exact ho
      | rt s ρ' => exact ho
end BF

set_option maxRecDepth 100000
set_option maxHeartbeats 4000000
namespace BF
open PySem PySem.Spec L2 TL
open PyProof.Rows hiding St
open PySem.Builtin.Str (reprChar)
set_option autoImplicit false

def lower (x : Str) : Bool := x.cps.toList.all fun c => decide (97 ≤ c) && decide (c ≤ 122)
mutual
/-- None, whole numbers from 0 on, small letters, lists and tuples of such -/
def simple : PyData → Bool
  | .none => true
  | .int i => decide (0 ≤ i)
  | .str x => lower x
  | .list xs => simpleAll xs
  | .tuple xs => simpleAll xs
  | _ => false
def simpleAll : List PyData → Bool
  | [] => true
  | x :: xs => simple x && simpleAll xs
end
/-- signs of the text of a datum -/
abbrev sg (d : PyData) : List Nat := tl d.shown
def jp : List (List Nat) → List Nat
  | [] => []
  | x :: r => 44 :: 32 :: (x ++ jp r)
theorem sg_none : sg .none = [78, 111, 110, 101] := by decide +kernel
theorem sg_int {i : Int} (h : 0 ≤ i) : sg (.int i) = numL i.toNat := by
  have e : ((i.toNat : Nat) : Int) = i := Int.toNat_of_nonneg h
  have := tl_num i.toNat
  rw [e] at this
  exact this
theorem reprChar_lower : ∀ n : Nat, n < 26 → reprChar 39 (97 + n) = [97 + n] := by decide +kernel
theorem foldl_lower : ∀ (l : List Nat) (acc : Array Nat), (∀ c ∈ l, 97 ≤ c ∧ c ≤ 122) → (l.foldl (fun out c => out ++ (reprChar 39 c).toArray) acc).toList = acc.toList ++ l
  | [], acc, _ => by simp
  | c :: r, acc, h => by
    have hc := h c (by simp)
    have e : reprChar 39 c = [c] := by
      have := reprChar_lower (c - 97) (by omega)
      have h2 : 97 + (c - 97) = c := by omega
      rwa [h2] at this
    rw [List.foldl_cons, foldl_lower r _ fun x hx => h x (by simp [hx]), e]
    simp
theorem lower_mem {x : Str} (h : lower x = true) : ∀ c ∈ x.cps.toList, 97 ≤ c ∧ c ≤ 122 := by
  intro c hc
  unfold lower at h
  rw [List.all_eq_true] at h
  simpa using h c hc
theorem sg_str {x : Str} (h : lower x = true) : sg (.str x) = 39 :: (tl x ++ [39]) := by
  have hm := lower_mem h
  have hq : reprQuote x = 39 := by
    unfold reprQuote
    have : x.cps.contains 39 = false := by
      rw [Bool.eq_false_iff]
      intro hc
      have h39 : (39 : Nat) ∈ x.cps.toList := by simpa using hc
      have := hm 39 h39; omega
    rw [this]; rfl
  show tl (PyData.shown (.str x)) = _
  simp only [PyData.shown]
  show (reprText x).cps.toList = _
  unfold reprText
  rw [hq]
  show ((x.cps.foldl (fun out c => out ++ (reprChar 39 c).toArray) #[39]).push 39).toList = _
  rw [Array.toList_push, ← Array.foldl_toList, foldl_lower _ _ hm]
  rfl
theorem textFrom_sg : ∀ (ts : List Str) (k : Nat) (acc : Str), tl (textFrom (k + 1) acc ts) = tl acc ++ jp (ts.map tl)
  | [], _, _ => by simp [textFrom, jp]
  | t :: ts, k, acc => by
    show tl (textFrom (k + 1 + 1) (acc ++ (if k + 1 > 0 then ", " else "" : String) ++ t) ts) = _
    rw [textFrom_sg ts (k + 1) _, tl_append, tl_append, if_pos (Nat.succ_pos k)]
    have : tl (", " : String) = [44, 32] := by decide +kernel
    rw [this]
    simp [jp]
theorem shownAll_map : ∀ xs : List PyData, PyData.shownAll xs = xs.map PyData.shown
  | [] => by simp [PyData.shownAll]
  | x :: xs => by simp [PyData.shownAll, shownAll_map xs]
def lsg : List PyData → List Nat
  | [] => [91, 93]
  | x :: r => 91 :: (sg x ++ (jp (r.map sg) ++ [93]))
def tsg : List PyData → List Nat
  | [] => [40, 41]
  | [x] => 40 :: (sg x ++ [44, 41])
  | x :: y :: r => 40 :: (sg x ++ (jp ((y :: r).map sg) ++ [41]))
theorem sg_list : ∀ xs : List PyData, sg (.list xs) = lsg xs
  | [] => by
    show tl (PyData.shown (.list [])) = _
    simp only [PyData.shown, PyData.shownAll]
    decide +kernel
  | x :: r => by
    show tl (PyData.shown (.list (x :: r))) = _
    simp only [PyData.shown, PyData.shownAll, listText, textFrom]
    rw [tl_append, textFrom_sg, tl_append, tl_append, shownAll_map]
    have h1 : tl ("[" : Str) = [91] := by decide +kernel
    have h2 : tl ("]" : Str) = [93] := by decide +kernel
    have h3 : tl (Str.ofString (if 0 > 0 then ", " else "")) = [] := by decide +kernel
    have h4 : (r.map PyData.shown).map tl = r.map sg := by simp
    rw [h1, h2, h4]
    first
      | rw [h3]; simp [lsg]
      | (simp [h3, lsg])
theorem join_sg : ∀ (t : Str) (ts : List Str), tl (Str.join ", " (t :: ts)) = tl t ++ jp (ts.map tl)
  | t, [] => by simp [Str.join, jp]
  | t, u :: r => by
    have e : Str.join ", " (t :: u :: r) = t ++ ", " ++ Str.join ", " (u :: r) := rfl
    rw [e, tl_append, tl_append, join_sg u r]
    have : tl (", " : Str) = [44, 32] := by decide +kernel
    rw [this]
    simp [jp]
theorem sg_tuple : ∀ xs : List PyData, sg (.tuple xs) = tsg xs
  | [] => by
    show tl (PyData.shown (.tuple [])) = _
    simp only [PyData.shown, PyData.shownAll]
    decide +kernel
  | [x] => by
    show tl (PyData.shown (.tuple [x])) = _
    simp only [PyData.shown, PyData.shownAll, tupleText, List.length_singleton]
    rw [tl_append, tl_append, join_sg]
    have h1 : tl ("(" : Str) = [40] := by decide +kernel
    have h2 : tl (Str.ofString ",)") = [44, 41] := by decide +kernel
    rw [h1]
    simp [h2, jp, tsg]
  | x :: y :: r => by
    show tl (PyData.shown (.tuple (x :: y :: r))) = _
    simp only [PyData.shown, PyData.shownAll, tupleText]
    rw [tl_append, tl_append, join_sg, shownAll_map]
    have h1 : tl ("(" : Str) = [40] := by decide +kernel
    have h2 : tl (Str.ofString ")") = [41] := by decide +kernel
    rw [h1]
    simp [h2, tsg, PyData.shownAll]
    rfl
def Dl (s : List Nat) : Prop := s = [] ∨ ∃ c r, s = c :: r ∧ (c = 44 ∨ c = 93 ∨ c = 41)
theorem dl_cons {c : Nat} {r : List Nat} (h : c = 44 ∨ c = 93 ∨ c = 41) : Dl (c :: r) := .inr ⟨c, r, rfl, h⟩
theorem digits_dec : ∀ {l m s t : List Nat}, NumText.AllDigits l → NumText.AllDigits m → Dl s → Dl t → l ++ s = m ++ t → l = m ∧ s = t
  | [], [], _, _, _, _, _, _, e => ⟨rfl, e⟩
  | [], c :: m, s, t, _, hm, hs, _, e => by
    have hc := hm c (by simp)
    simp only [List.nil_append] at e
    subst e
    rcases hs with h | ⟨d, r, h, hd⟩
    · cases h
    · simp only [List.cons_append, List.cons.injEq] at h; obtain ⟨h, _⟩ := h; omega
  | c :: l, [], s, t, hl, _, _, ht, e => by
    have hc := hl c (by simp)
    simp only [List.nil_append] at e
    subst e
    rcases ht with h | ⟨d, r, h, hd⟩
    · cases h
    · simp only [List.cons_append, List.cons.injEq] at h; obtain ⟨h, _⟩ := h; omega
  | c :: l, d :: m, s, t, hl, hm, hs, ht, e => by
    simp only [List.cons_append, List.cons.injEq] at e
    obtain ⟨h1, h2⟩ := digits_dec (fun x hx => hl x (by simp [hx])) (fun x hx => hm x (by simp [hx])) hs ht e.2
    rw [e.1, h1]; exact ⟨rfl, h2⟩
theorem quote_dec : ∀ {l m s t : List Nat}, (∀ c ∈ l, c ≠ 39) → (∀ c ∈ m, c ≠ 39) → l ++ 39 :: s = m ++ 39 :: t → l = m ∧ s = t
  | [], [], _, _, _, _, e => ⟨rfl, by simpa using e⟩
  | [], c :: m, s, t, _, hm, e => by
    simp only [List.nil_append, List.cons_append, List.cons.injEq] at e
    exact absurd e.1.symm (hm c (by simp))
  | c :: l, [], s, t, hl, _, e => by
    simp only [List.nil_append, List.cons_append, List.cons.injEq] at e
    exact absurd e.1 (hl c (by simp))
  | c :: l, d :: m, s, t, hl, hm, e => by
    simp only [List.cons_append, List.cons.injEq] at e
    obtain ⟨h1, h2⟩ := quote_dec (fun x hx => hl x (by simp [hx])) (fun x hx => hm x (by simp [hx])) e.2
    rw [e.1, h1]; exact ⟨rfl, h2⟩
/-- the kind of a datum by its first sign -/
def kd : PyData → Nat
  | .none => 0
  | .int _ => 1
  | .str _ => 2
  | .list _ => 3
  | .tuple _ => 4
  | _ => 5
def kc (c : Nat) : Nat := if c = 78 then 0 else if 48 ≤ c ∧ c ≤ 57 then 1 else if c = 39 then 2 else if c = 91 then 3 else if c = 40 then 4 else 6
theorem kd_sg : ∀ d : PyData, simple d = true → ∃ c r, sg d = c :: r ∧ kc c = kd d
  | .none, _ => ⟨78, _, sg_none, rfl⟩
  | .int i, h => by
    have hi : 0 ≤ i := by simpa [simple] using h
    rw [sg_int hi]
    have h1 := numL_ne i.toNat
    have h2 := numL_digits i.toNat
    cases e : numL i.toNat with
    | nil => exact absurd e h1
    | cons c r =>
      rw [e] at h2
      have := h2 c (by simp)
      refine ⟨c, r, rfl, ?_⟩
      unfold kc kd
      rw [if_neg (by omega), if_pos (by omega)]
  | .str x, h => ⟨39, _, sg_str (by simpa [simple] using h), rfl⟩
  | .list xs, _ => by
    cases xs with
    | nil => exact ⟨91, _, sg_list [], rfl⟩
    | cons x r => exact ⟨91, _, sg_list (x :: r), rfl⟩
  | .tuple xs, _ => by
    match xs with
    | [] => exact ⟨40, _, sg_tuple [], rfl⟩
    | [x] => exact ⟨40, _, sg_tuple [x], rfl⟩
    | x :: y :: r => exact ⟨40, _, sg_tuple (x :: y :: r), rfl⟩
  | .bool _, h => by simp [simple] at h
  | .dict _, h => by simp [simple] at h
theorem kd_eq {d e : PyData} {s t : List Nat} (hd : simple d = true) (he : simple e = true) (h : sg d ++ s = sg e ++ t) : kd d = kd e := by
  obtain ⟨c, r, h1, h2⟩ := kd_sg d hd
  obtain ⟨c', r', h3, h4⟩ := kd_sg e he
  rw [h1, h3] at h
  simp only [List.cons_append, List.cons.injEq] at h
  rw [← h2, ← h4, h.1]
mutual
theorem sg_dec : ∀ (d e : PyData) (s t : List Nat), simple d = true → simple e = true → Dl s → Dl t → sg d ++ s = sg e ++ t → d = e ∧ s = t
  | .none, e, s, t, hd, he, hs, ht, h => by
    have hk := kd_eq hd he h
    cases e <;> first | (simp [kd] at hk; done) | skip
    exact ⟨rfl, List.append_cancel_left h⟩
  | .int i, e, s, t, hd, he, hs, ht, h => by
    have hk := kd_eq hd he h
    cases e <;> first | (simp [kd] at hk; done) | skip
    rename_i j
    have hi : 0 ≤ i := by simpa [simple] using hd
    have hj : 0 ≤ j := by simpa [simple] using he
    rw [sg_int hi, sg_int hj] at h
    obtain ⟨h1, h2⟩ := digits_dec (numL_digits _) (numL_digits _) hs ht h
    have := numL_inj h1
    exact ⟨by rw [show i = j by omega], h2⟩
  | .str x, e, s, t, hd, he, hs, ht, h => by
    have hk := kd_eq hd he h
    cases e <;> first | (simp [kd] at hk; done) | skip
    rename_i y
    have hx : lower x = true := by simpa [simple] using hd
    have hy : lower y = true := by simpa [simple] using he
    rw [sg_str hx, sg_str hy] at h
    simp only [lsg, tsg, List.cons_append, List.cons.injEq, true_and, List.append_assoc, List.nil_append] at h
    obtain ⟨h1, h2⟩ := quote_dec (fun c hc => by have := lower_mem hx c hc; omega) (fun c hc => by have := lower_mem hy c hc; omega) h
    exact ⟨by rw [PySem.W.str_of_cps h1], h2⟩
  | .list xs, e, s, t, hd, he, hs, ht, h => by
    have hk := kd_eq hd he h
    cases e <;> first | (simp [kd] at hk; done) | skip
    rename_i ys
    have h1 : simpleAll xs = true := by simpa [simple] using hd
    have h2 : simpleAll ys = true := by simpa [simple] using he
    rw [sg_list xs, sg_list ys] at h
    match xs, ys, h1, h2, h with
    | [], [], h1, h2, h => exact ⟨rfl, by simpa [lsg] using h⟩
    | [], y :: ys, h1, h2, h =>
      simp only [lsg, tsg, List.cons_append, List.cons.injEq, true_and, List.append_assoc, List.nil_append] at h
      have hy : simple y = true := by simp only [simpleAll, Bool.and_eq_true] at h2; exact h2.1
      obtain ⟨c, r, e1, e2⟩ := kd_sg y hy
      rw [e1] at h
      simp only [List.cons_append, List.cons.injEq] at h
      obtain ⟨rfl, _⟩ := h
      cases y <;> simp [kc, kd] at e2
    | x :: xs, [], h1, h2, h =>
      simp only [lsg, tsg, List.cons_append, List.cons.injEq, true_and, List.append_assoc, List.nil_append] at h
      have hx : simple x = true := by simp only [simpleAll, Bool.and_eq_true] at h1; exact h1.1
      obtain ⟨c, r, e1, e2⟩ := kd_sg x hx
      rw [e1] at h
      simp only [List.cons_append, List.cons.injEq] at h
      obtain ⟨rfl, _⟩ := h
      cases x <;> simp [kc, kd] at e2
    | x :: xs, y :: ys, h1, h2, h =>
      simp only [lsg, tsg, List.cons_append, List.cons.injEq, true_and, List.append_assoc, List.nil_append] at h
      simp only [simpleAll, Bool.and_eq_true] at h1 h2
      obtain ⟨e1, e2⟩ := sg_dec x y _ _ h1.1 h2.1 (by cases xs <;> exact dl_cons (by simp)) (by cases ys <;> exact dl_cons (by simp)) h
      obtain ⟨e3, e4⟩ := sg_decAll xs ys 93 s t h1.2 h2.2 (by simp) e2
      rw [e1, e3]; exact ⟨rfl, e4⟩
  | .tuple xs, e, s, t, hd, he, hs, ht, h => by
    have hk := kd_eq hd he h
    cases e <;> first | (simp [kd] at hk; done) | skip
    rename_i ys
    have h1 : simpleAll xs = true := by simpa [simple] using hd
    have h2 : simpleAll ys = true := by simpa [simple] using he
    rw [sg_tuple xs, sg_tuple ys] at h
    have hd41 : ∀ z : PyData, simple z = true → ∀ u v : List Nat, 41 :: u ≠ sg z ++ v := by
      intro z hz u v hh
      obtain ⟨c, r, e1, e2⟩ := kd_sg z hz
      rw [e1] at hh
      simp only [List.cons_append, List.cons.injEq] at hh
      obtain ⟨rfl, _⟩ := hh
      cases z <;> simp [kc, kd] at e2
    match xs, ys, h1, h2, h with
    | [], [], h1, h2, h => exact ⟨rfl, by simpa [tsg] using h⟩
    | [], [y], h1, h2, h =>
      simp only [lsg, tsg, List.cons_append, List.cons.injEq, true_and, List.append_assoc, List.nil_append] at h
      simp only [simpleAll, Bool.and_eq_true] at h2
      exact absurd h (hd41 y h2.1 _ _)
    | [], y :: z :: ys, h1, h2, h =>
      simp only [lsg, tsg, List.cons_append, List.cons.injEq, true_and, List.append_assoc, List.nil_append] at h
      simp only [simpleAll, Bool.and_eq_true] at h2
      exact absurd h (hd41 y h2.1 _ _)
    | [x], [], h1, h2, h =>
      simp only [lsg, tsg, List.cons_append, List.cons.injEq, true_and, List.append_assoc, List.nil_append] at h
      simp only [simpleAll, Bool.and_eq_true] at h1
      exact absurd h.symm (hd41 x h1.1 _ _)
    | x :: z :: xs, [], h1, h2, h =>
      simp only [lsg, tsg, List.cons_append, List.cons.injEq, true_and, List.append_assoc, List.nil_append] at h
      simp only [simpleAll, Bool.and_eq_true] at h1
      exact absurd h.symm (hd41 x h1.1 _ _)
    | [x], [y], h1, h2, h =>
      simp only [lsg, tsg, List.cons_append, List.cons.injEq, true_and, List.append_assoc, List.nil_append] at h
      simp only [simpleAll, Bool.and_eq_true] at h1 h2
      obtain ⟨e1, e2⟩ := sg_dec x y _ _ h1.1 h2.1 (dl_cons (by simp)) (dl_cons (by simp)) h
      rw [e1]; exact ⟨rfl, by simpa using e2⟩
    | [x], y :: z :: ys, h1, h2, h =>
      simp only [lsg, tsg, List.cons_append, List.cons.injEq, true_and, List.append_assoc, List.nil_append, List.map_cons, jp] at h
      simp only [simpleAll, Bool.and_eq_true] at h1 h2
      obtain ⟨e1, e2⟩ := sg_dec x y _ _ h1.1 h2.1 (dl_cons (by simp)) (dl_cons (by simp)) h
      simp at e2
    | x :: z :: xs, [y], h1, h2, h =>
      simp only [lsg, tsg, List.cons_append, List.cons.injEq, true_and, List.append_assoc, List.nil_append, List.map_cons, jp] at h
      simp only [simpleAll, Bool.and_eq_true] at h1 h2
      obtain ⟨e1, e2⟩ := sg_dec x y _ _ h1.1 h2.1 (dl_cons (by simp)) (dl_cons (by simp)) h
      simp at e2
    | x :: x2 :: xs, y :: y2 :: ys, h1, h2, h =>
      simp only [lsg, tsg, List.cons_append, List.cons.injEq, true_and, List.append_assoc, List.nil_append] at h
      have h1' : simple x = true ∧ simpleAll (x2 :: xs) = true := by simpa [simpleAll] using h1
      have h2' : simple y = true ∧ simpleAll (y2 :: ys) = true := by simpa [simpleAll] using h2
      obtain ⟨e1, e2⟩ := sg_dec x y _ _ h1'.1 h2'.1 (dl_cons (by simp)) (dl_cons (by simp)) h
      obtain ⟨e3, e4⟩ := sg_decAll (x2 :: xs) (y2 :: ys) 41 s t h1'.2 h2'.2 (by simp) e2
      rw [e1, e3]; exact ⟨rfl, e4⟩
  | .bool _, _, _, _, hd, _, _, _, _ => by simp [simple] at hd
  | .dict _, _, _, _, hd, _, _, _, _ => by simp [simple] at hd
theorem sg_decAll : ∀ (xs ys : List PyData) (c : Nat) (s t : List Nat), simpleAll xs = true → simpleAll ys = true → (c = 93 ∨ c = 41) → jp (xs.map sg) ++ (c :: s) = jp (ys.map sg) ++ (c :: t) → xs = ys ∧ s = t
  | [], [], _, _, _, _, _, _, h => ⟨rfl, by simpa [jp] using h⟩
  | [], y :: ys, c, s, t, _, _, hc, h => by simp [jp] at h; omega
  | x :: xs, [], c, s, t, _, _, hc, h => by simp [jp] at h; omega
  | x :: xs, y :: ys, c, s, t, h1, h2, hc, h => by
    simp only [List.map_cons, jp, List.cons_append, List.cons.injEq, true_and, List.append_assoc] at h
    simp only [simpleAll, Bool.and_eq_true] at h1 h2
    have hcc : c = 44 ∨ c = 93 ∨ c = 41 := by omega
    obtain ⟨e1, e2⟩ := sg_dec x y _ _ h1.1 h2.1 (by cases xs <;> exact dl_cons (by simp [hcc])) (by cases ys <;> exact dl_cons (by simp [hcc])) h
    obtain ⟨e3, e4⟩ := sg_decAll xs ys c s t h1.2 h2.2 hc e2
    rw [e1, e3]; exact ⟨rfl, e4⟩
end
theorem shown_inj {d e : PyData} (hd : simple d = true) (he : simple e = true) (h : d.shown = e.shown) : d = e :=
  (sg_dec d e [] [] hd he (.inl rfl) (.inl rfl) (by unfold sg; rw [h])).1
mutual
def nodes : PyData → Nat
  | .list xs => 1 + nodesAll xs
  | .tuple xs => 1 + nodesAll xs
  | _ => 1
def nodesAll : List PyData → Nat
  | [] => 0
  | x :: xs => nodes x + nodesAll xs
end
mutual
def smallB (k : Nat) : PyData → Bool
  | .int i => decide (i < 10 ^ k)
  | .str x => decide (x.length ≤ k)
  | .list xs => smallAll k xs
  | .tuple xs => smallAll k xs
  | _ => true
def smallAll (k : Nat) : List PyData → Bool
  | [] => true
  | x :: xs => smallB k x && smallAll k xs
end
mutual
theorem sg_len (k : Nat) (hk : 4 ≤ k) : ∀ d : PyData, simple d = true → smallB k d = true → (sg d).length + 2 ≤ (k + 8) * nodes d
  | .none, _, _ => by rw [sg_none]; simp only [nodes, List.length_cons, List.length_nil]; omega
  | .int i, h, h2 => by
    have hi : 0 ≤ i := by simpa [simple] using h
    have hb : i < 10 ^ k := by simpa [smallB] using h2
    rw [sg_int hi]
    have : (numL i.toNat).length ≤ k := numL_len (by omega) (by
      have e : ((10 ^ k : Nat) : Int) = (10 : Int) ^ k := by simp
      omega)
    simp only [nodes]; omega
  | .str x, h, h2 => by
    have hx : lower x = true := by simpa [simple] using h
    have hb : x.length ≤ k := by simpa [smallB] using h2
    rw [sg_str hx]
    rw [len_tl] at hb
    simp only [nodes, List.length_cons, List.length_append, List.length_nil]; omega
  | .list xs, h, h2 => by
    have h1 : simpleAll xs = true := by simpa [simple] using h
    have h3 : smallAll k xs = true := by simpa [smallB] using h2
    rw [sg_list xs]
    simp only [nodes]
    match xs, h1, h3 with
    | [], _, _ => simp only [lsg, nodesAll, List.length_cons, List.length_nil]; omega
    | x :: r, h1, h3 =>
      simp only [simpleAll, smallAll, Bool.and_eq_true] at h1 h3
      have a := sg_len k hk x h1.1 h3.1
      have b := sg_lenAll k hk r h1.2 h3.2
      simp only [lsg, nodesAll, List.length_cons, List.length_append, List.length_nil, Nat.mul_add] at a b ⊢
      omega
  | .tuple xs, h, h2 => by
    have h1 : simpleAll xs = true := by simpa [simple] using h
    have h3 : smallAll k xs = true := by simpa [smallB] using h2
    rw [sg_tuple xs]
    simp only [nodes]
    match xs, h1, h3 with
    | [], _, _ => simp only [tsg, nodesAll, List.length_cons, List.length_nil]; omega
    | [x], h1, h3 =>
      simp only [simpleAll, smallAll, Bool.and_eq_true] at h1 h3
      have a := sg_len k hk x h1.1 h3.1
      simp only [tsg, nodesAll, List.length_cons, List.length_append, List.length_nil, Nat.mul_add] at a ⊢
      omega
    | x :: y :: r, h1, h3 =>
      have h1' : simple x = true ∧ simpleAll (y :: r) = true := by simpa [simpleAll] using h1
      have h3' : smallB k x = true ∧ smallAll k (y :: r) = true := by simpa [smallAll] using h3
      have a := sg_len k hk x h1'.1 h3'.1
      have b := sg_lenAll k hk (y :: r) h1'.2 h3'.2
      have e : nodesAll (x :: y :: r) = nodes x + nodesAll (y :: r) := by simp [nodesAll]
      rw [e]
      simp only [tsg, List.length_cons, List.length_append, List.length_nil, Nat.mul_add] at a b ⊢
      omega
  | .bool _, h, _ => by simp [simple] at h
  | .dict _, h, _ => by simp [simple] at h
theorem sg_lenAll (k : Nat) (hk : 4 ≤ k) : ∀ xs : List PyData, simpleAll xs = true → smallAll k xs = true → (jp (xs.map sg)).length ≤ (k + 8) * nodesAll xs
  | [], _, _ => by simp [jp]
  | x :: r, h1, h3 => by
    simp only [simpleAll, smallAll, Bool.and_eq_true] at h1 h3
    have a := sg_len k hk x h1.1 h3.1
    have b := sg_lenAll k hk r h1.2 h3.2
    simp only [List.map_cons, jp, nodesAll, List.length_cons, List.length_append, Nat.mul_add] at a b ⊢
    omega
end
mutual
theorem showable_of (k : Nat) (hk : k ≤ 500) : ∀ d : PyData, simple d = true → smallB k d = true → d.showable = true
  | .none, _, _ => rfl
  | .int i, h, h2 => by
    have hi : 0 ≤ i := by simpa [simple] using h
    have hb : i < 10 ^ k := by simpa [smallB] using h2
    simp only [PyData.showable, decide_eq_true_eq]
    by_cases h0 : i.natAbs = 0
    · rw [h0]; decide
    · rw [Nat.log2_lt h0]
      have e : ((10 ^ k : Nat) : Int) = (10 : Int) ^ k := by simp
      have h1 : i.natAbs < 10 ^ k := by omega
      have h2 : (10 : Nat) ^ k ≤ 10 ^ 500 := Nat.pow_le_pow_right (by omega) hk
      have h3 : (10 : Nat) ^ 500 ≤ 2 ^ 1920 := by decide +kernel
      omega
  | .str x, _, _ => by simp [PyData.showable]
  | .list xs, h, h2 => by
    simp only [PyData.showable]
    exact showable_ofAll k hk xs (by simpa [simple] using h) (by simpa [smallB] using h2)
  | .tuple xs, h, h2 => by
    simp only [PyData.showable]
    exact showable_ofAll k hk xs (by simpa [simple] using h) (by simpa [smallB] using h2)
  | .bool _, h, _ => by simp [simple] at h
  | .dict _, h, _ => by simp [simple] at h
theorem showable_ofAll (k : Nat) (hk : k ≤ 500) : ∀ xs : List PyData, simpleAll xs = true → smallAll k xs = true → PyData.showableAll xs = true
  | [], _, _ => by simp [PyData.showableAll]
  | x :: r, h1, h3 => by
    simp only [simpleAll, smallAll, Bool.and_eq_true] at h1 h3
    simp only [PyData.showableAll, showable_of k hk x h1.1 h3.1, showable_ofAll k hk r h1.2 h3.2, Bool.and_self]
end
/-- str(..) of simple data -/
theorem o_str_tup {xs : List PV} {d : PyData} {k : Nat} (e : (PV.tup xs).pd = some d) (h1 : simple d = true) (h2 : smallB k d = true) (hk : 4 ≤ k) (hk2 : k ≤ 500) (hd : d.depth ≤ 64) (hn : nodes d ≤ 10000) : pStr [.tup xs] = .ok (.val (.str d.shown)) := by
  have hl : (tl d.shown).length + 2 ≤ (k + 8) * nodes d := sg_len k hk d h1 h2
  have : d.shown.length ≤ sizeLine := by
    rw [len_tl]
    have : (k + 8) * nodes d ≤ 508 * 10000 := Nat.mul_le_mul (by omega) hn
    exact sl_le (by omega)
  simp only [pStr, e, showable_of k hk2 d h1 h2, hd, this, and_self, if_true]
end BF

set_option maxRecDepth 100000
set_option maxHeartbeats 4000000
namespace BF
open PySem PySem.Spec L2
open PyProof.Rows hiding St
set_option autoImplicit false
namespace Raw
theorem w_eMq {kd : PV → Bool} {f : PV → List PV → Res Slot} {E : PX} {A : AX} {ρ : En} {K : Slot → En → Prop} {X : Str → Prop} : Raw.W2 (eMq kd f E A ρ) K X = Raw.W2 (E ρ) (fun s ρ1 => kd s.pv = true ∧ Raw.W2 (A ρ1) (fun xs ρ2 => Raw.WP (f s.pv xs) (fun u => K u ρ2) X) X) X := by
  unfold eMq; simp only [Raw.w2_bind]; congr 1; funext s ρ1
  by_cases h : kd s.pv = true
  · simp only [h, if_true, true_and, Raw.w2_bind]; try simp only [Raw.w2_bind1, Raw.w2_ok]; try rfl
  · rw [if_neg h, Raw.w2_stuck]; simp only [h, Bool.false_eq_true, false_and]
theorem w_eIsE {i : Nat} {b : Bool} {ρ : En} {K : Slot → En → Prop} {X : Str → Prop} (h : ρ[i]? = some (.val (.cl "#e"))) : Raw.W2 (eIsE i b ρ) K X = K (.val (.bl b)) ρ := by
  unfold eIsE; rw [h]; rfl
/-- the pairs of a display -/
theorem w_aPairs0 {ρ : En} {K : List (PV × PV) → En → Prop} {X : Str → Prop} : Raw.W2 (aPairs [] ρ) K X = K [] ρ := rfl
theorem w_aPairsS {E F : PX} {Es : List (PX × PX)} {ρ : En} {K : List (PV × PV) → En → Prop} {X : Str → Prop} :
    Raw.W2 (aPairs ((E, F) :: Es) ρ) K X = Raw.W2 (E ρ) (fun s ρ1 => Raw.W2 (F ρ1) (fun t ρ2 => Raw.W2 (aPairs Es ρ2) (fun zs ρ3 => K ((s.pv, t.pv) :: zs) ρ3) X) X) X := by
  show Raw.W2 (E ρ >>= _) K X = _
  rw [Raw.w2_bind]; congr 1; funext s ρ1
  rw [Raw.w2_bind]; congr 1; funext t ρ2
  rw [Raw.w2_bind]; rfl
def dispK (K : Slot → Prop) : Option (List (Key × PV)) → Prop
  | some kvs => kvs.length ≤ 15 ∧ K (.own (.dct (dMerge [] kvs)))
  | none => False
theorem w_eDisp {Es : List (PX × PX)} {ρ : En} {K : Slot → En → Prop} {X : Str → Prop} : Raw.W2 (eDisp Es ρ) K X = Raw.W2 (aPairs Es ρ) (fun zs ρ1 => dispK (fun s => K s ρ1) (keys? zs)) X := by
  unfold eDisp; rw [Raw.w2_bind]; congr 1; funext zs ρ1
  cases h : keys? zs with
  | none => simp only [h]; exact Raw.w2_stuck
  | some kvs =>
    simp only [h, dispK]
    by_cases hl : kvs.length ≤ 15
    · simp only [hl, if_true, true_and]; exact Raw.w2_ok
    · rw [if_neg hl, Raw.w2_stuck]; simp only [hl, false_and]
/-- how a suite ends -/
def suiteK (K : Out → Prop) (i : Nat) : Out → Prop
  | .nx ρ => K (.nx ((backEn ρ).set i .dead))
  | .rt (.val x) ρ => simpleV x = true ∧ K (.rt (.val x) (ρ.map fun _ => .dead))
  | _ => False
def tryX (n i : Nat) (q : Str → Option Bool) (S : Str → SX) (K : Out → Prop) (X : Str → Prop) : Str → Prop := fun c => match q c with
  | some true => Raw.WP (S c (exEn n i)) (suiteK K i) fun _ => False
  | some false => X c
  | none => False
theorem w_sTry {n i : Nat} {q : Str → Option Bool} {B : SX} {S : Str → SX} {ρ : En} {K : Out → Prop} {X : Str → Prop} : Raw.WP (sTry n i q B S ρ) K X = Raw.WP (B ρ) K (tryX n i q S K X) := by
  unfold sTry
  cases eb : B ρ with
  | ok o => rfl
  | stuck => rfl
  | exc c =>
    show _ = tryX n i q S K X c
    unfold tryX
    cases eq : q c with
    | none => simp only [eq]; exact Raw.wp_stuck
    | some b =>
      cases b with
      | false => simp only [eq]; exact Raw.wp_exc
      | true =>
        simp only [eq]
        cases es : S c (exEn n i) with
        | stuck => simp only [es]; rfl
        | exc c' => simp only [es]; rfl
        | ok o =>
          cases o with
          | nx ρ2 => simp only [es]; rfl
          | bk ρ2 => simp only [es]; rfl
          | ct ρ2 => simp only [es]; rfl
          | rt s ρ2 =>
            cases s with
            | val y =>
              simp only [es]
              by_cases hy : simpleV y = true
              · rw [if_pos hy]; show _ = (simpleV y = true ∧ _); simp only [hy, true_and]; rfl
              · rw [if_neg hy]; show _ = (simpleV y = true ∧ _); rw [Raw.wp_stuck]; simp only [hy, Bool.false_eq_true, false_and]
            | _ => simp only [es]; rfl
end Raw
open PE (enc)
theorem w_eIsE {i : Nat} {b : Bool} {ρ : En} {K : Slot → En → Prop} {X : Str → Prop} (h : ρ[i]? = some (.val (.cl "#e"))) : W2 (eIsE i b ρ) K X = K (.val (.bl b)) ρ := Raw.w_eIsE h
theorem w_aPairs0 {ρ : En} {K : List (PV × PV) → En → Prop} {X : Str → Prop} : W2 (aPairs [] ρ) K X = K [] ρ := Raw.w_aPairs0
theorem w_aPairsS {E F : PX} {Es : List (PX × PX)} {ρ : En} {K : List (PV × PV) → En → Prop} {X : Str → Prop} :
    W2 (aPairs ((E, F) :: Es) ρ) K X = W2 (E ρ) (fun s ρ1 => W2 (F ρ1) (fun t ρ2 => W2 (aPairs Es ρ2) (fun zs ρ3 => K ((s.pv, t.pv) :: zs) ρ3) X) X) X := Raw.w_aPairsS
def dispK (K : Slot → Prop) [Tg1 K] : Option (List (Key × PV)) → Prop := Raw.dispK K
theorem dispK_s {K : Slot → Prop} {kvs : List (Key × PV)} : dispK K (some kvs) = (kvs.length ≤ 15 ∧ K (.own (.dct (dMerge [] kvs)))) := (rfl)
theorem w_eDisp {Es : List (PX × PX)} {ρ : En} {K : Slot → En → Prop} {X : Str → Prop} : W2 (eDisp Es ρ) K X = W2 (aPairs Es ρ) (fun zs ρ1 => dispK (fun s => K s ρ1) (keys? zs)) X := Raw.w_eDisp
def tryX (n i : Nat) (q : Str → Option Bool) (S : Str → SX) (K : Out → Prop) (X : Str → Prop) [Tg1 S] [Tg1 K] : Str → Prop := Raw.tryX n i q S K X
theorem w_sTry {n i : Nat} {q : Str → Option Bool} {B : SX} {S : Str → SX} {ρ : En} {K : Out → Prop} {X : Str → Prop} : WP (sTry n i q B S ρ) K X = WP (B ρ) K (tryX n i q S K X) := Raw.w_sTry
def suiteK (K : Out → Prop) (i : Nat) [Tg1 K] : Out → Prop := Raw.suiteK K i
theorem suiteK_nx {K : Out → Prop} {i : Nat} {ρ : En} : suiteK K i (.nx ρ) = K (.nx ((backEn ρ).set i .dead)) := (rfl)
theorem suiteK_rt {K : Out → Prop} {i : Nat} {ρ : En} {x : PV} : suiteK K i (.rt (.val x) ρ) = (simpleV x = true ∧ K (.rt (.val x) (ρ.map fun _ => .dead))) := (rfl)
theorem tryX_t {n i : Nat} {q : Str → Option Bool} {S : Str → SX} {K : Out → Prop} {X : Str → Prop} {c : Str} (h : q c = some true) : tryX n i q S K X c = WP (S c (exEn n i)) (suiteK K i) nX := by
  show Raw.tryX n i q S K X c = _
  unfold Raw.tryX
  rw [h]
  rfl
theorem simpleV_non : simpleV .non = true := (rfl)
theorem simpleV_bl (b : Bool) : simpleV (.bl b) = true := (rfl)
theorem simpleV_int (i : Int) : simpleV (.int i) = true := (rfl)
theorem simpleV_str (x : Str) : simpleV (.str x) = true := (rfl)
theorem keys?_nil : keys? [] = some [] := (rfl)
theorem keys?_int (i : Int) (y : PV) (r : List (PV × PV)) : keys? ((.int i, y) :: r) = (keys? r).map ((.inl i, y) :: ·) := (rfl)
theorem keys?_str (x : Str) (y : PV) (r : List (PV × PV)) : keys? ((.str x, y) :: r) = (keys? r).map ((.inr x, y) :: ·) := (rfl)
theorem dMerge_one (k : Key) (y : PV) : dMerge [] [(k, y)] = [(k, y)] := (rfl)
theorem w_eMq {kd : PV → Bool} {f : PV → List PV → Res Slot} {E : PX} {A : AX} {ρ : En} {K : Slot → En → Prop} {X : Str → Prop} : W2 (eMq kd f E A ρ) K X = W2 (E ρ) (fun s ρ1 => kd s.pv = true ∧ W2 (A ρ1) (fun xs ρ2 => WP (f s.pv xs) (fun u => K u ρ2) X) X) X := Raw.w_eMq
theorem pIn_enc {α : Type} [PE α] (l : List α) (a : α) (neg b : Bool) (hb : b = true ↔ a ∈ l) (hd : PE.dmax α ≤ 64 := by decide) : pIn neg (enc a) (.lst (l.map enc)) = .ok (.val (.bl (if neg then !b else b))) := by
  rw [pIn_lst l a neg hd]
  have e : decide (a ∈ l) = b := by rw [Bool.eq_iff_iff, decide_eq_true_eq, hb]
  rw [e]
theorem o_index_enc {α : Type} [PE α] (l : List α) (a : α) (j : Nat) (h : l[j]? = some a) (hn : ∀ i, i < j → l[i]? ≠ some a) (hd : PE.dmax α ≤ 64 := by decide) : pIndex (.lst (l.map enc)) [enc a] = .ok (.val (.int (j : Nat))) := by
  have h1 := depthAll_le l
  have e : SeqAt.dataPlace (l.map PE.dat) (PE.dat a) = some j := by
    unfold SeqAt.dataPlace
    rw [List.findIdx?_eq_some_iff_getElem]
    obtain ⟨hj, ej⟩ := List.getElem?_eq_some_iff.mp h
    refine ⟨by simpa using hj, ?_, fun i hi => ?_⟩
    · simp only [List.getElem_map, ej]; exact PE.refl a
    · simp only [List.getElem_map, Bool.not_eq_true]
      cases q : PyData.eqv (PE.dat l[i]) (PE.dat a) with
      | false => simp
      | true =>
        exfalso
        refine hn i hi ?_
        rw [List.getElem?_eq_getElem (by omega), PE.inj _ _ q]
  simp only [pIndex, pd_map, PE.pd]
  rw [if_pos (by omega), e]
theorem o_count_enc {α : Type} [PE α] [DecidableEq α] (l : List α) (a : α) (hd : PE.dmax α ≤ 64 := by decide) : pCount (.lst (l.map enc)) [enc a] = .ok (.val (.int ((l.countP fun b => decide (b = a) : Nat)))) := by
  have h1 := depthAll_le l
  have e : ((l.map PE.dat).countP fun y => PyData.eqv y (PE.dat a)) = l.countP fun b => decide (b = a) := by
    rw [List.countP_map]
    refine List.countP_congr fun b _ => ?_
    simp only [Function.comp, eqv_dec]
  simp only [pCount, pd_map, PE.pd]
  rw [if_pos (by omega), e]
/-- e.append(x), e a new list -/
theorem o_pMulL (xs : List PV) (k : Int) {Q : Slot → Prop} {X : Str → Prop} : WP (pMul (.lst xs) (.int k)) Q X = ((-(2 ^ 63) ≤ k ∧ k < 2 ^ 63 ∧ xs.length * k.toNat ≤ sizeLine) ∧ Q (.own (.lst (List.replicate k.toNat xs).flatten))) := by
  unfold pMul
  by_cases h : -(2 ^ 63) ≤ k ∧ k < 2 ^ 63 ∧ xs.length * k.toNat ≤ sizeLine
  · simp only [h, and_self, if_true, wp_ok, true_and]
  · simp only [h, if_false, wp_stuck, false_and]
theorem o_pIntB (b : Bool) : pInt [.bl b] = .ok (.val (.int (if b then 1 else 0))) := (rfl)
theorem o_pRevL (xs : List PV) : pRev (.lst xs) = .ok (.own (.lst xs.reverse)) := (rfl)
theorem cutL_mid_i (xs : List PV) (a b : Int) (h : 0 ≤ a) (h2 : a ≤ b) : cutL xs (some a) (some b) = (xs.drop a.toNat).take (b.toNat - a.toNat) := by
  have ea : a = (a.toNat : Int) := by omega
  have eb : b = (b.toNat : Int) := by omega
  unfold cutL
  rw [ea, eb, HT.sIx_nat, HT.sIx_nat]
  simp only [Int.toNat_natCast]
  generalize a.toNat = i at *
  generalize b.toNat = j at *
  have hij : i ≤ j := by omega
  by_cases h : i ≤ xs.length
  · rw [Nat.min_eq_left h]
    by_cases h3 : j ≤ xs.length
    · rw [Nat.min_eq_left h3]
    · rw [Nat.min_eq_right (by omega), List.take_of_length_le (by simp), List.take_of_length_le (by simp; omega)]
  · rw [Nat.min_eq_right (by omega), Nat.min_eq_right (by omega), List.drop_eq_nil_of_le (Nat.le_refl _), List.drop_eq_nil_of_le (show xs.length ≤ i by omega)]; simp
end BF

set_option maxRecDepth 100000
set_option maxHeartbeats 4000000
namespace LW
open PySem PySem.Spec L2 BF
open PyProof.Rows hiding St
set_option autoImplicit false
def top (i : Nat) : Stmt := PySem.Challenge.pw_bandforks_k02_what_is_no_place.main.body.getD i (.Pass ⟨0, 0, 0, 0⟩)
def inC (i j : Nat) : Stmt := match top i with
  | .ClassDef _ _ _ b _ _ _ _ _ _ _ => b.getD j (.Pass ⟨0, 0, 0, 0⟩)
  | _ => .Pass ⟨0, 0, 0, 0⟩
def clsN : List Str := ["Place"]
def excN : List Str := ["BandError", "NoPlace", "NoRules", "NoState"]
def isaL : List (Str × Str) := [("BandError", "BandError"), ("NoPlace", "BandError"), ("NoPlace", "NoPlace"), ("NoRules", "BandError"), ("NoRules", "NoRules"), ("NoState", "BandError"), ("NoState", "NoState")]
def isaT (k d : Str) : Bool := isaL.contains (k, d)
def qx (x k : Str) : Option Bool := if k ∈ excN then some (isaT k x) else none
theorem qx_in {x k : Str} {b : Bool} (h : qx x k = some b) : k ∈ excN := by
  unfold qx at h
  split at h
  · assumption
  · cases h
abbrev st_is_whole : Stmt := top 8
theorem sc_is_whole : FnScope ["thing", "least"] ["thing", "least"] (defScope st_is_whole) := ⟨rfl, rfl, rfl, by decide +kernel, rfl, by decide +kernel, by decide +kernel⟩
abbrev st_is_name : Stmt := top 9
theorem sc_is_name : FnScope ["thing", "letter"] ["thing"] (defScope st_is_name) := ⟨rfl, rfl, rfl, by decide +kernel, rfl, by decide +kernel, by decide +kernel⟩
abbrev st_is_way : Stmt := top 10
theorem sc_is_way : FnScope ["thing"] ["thing"] (defScope st_is_way) := ⟨rfl, rfl, rfl, by decide +kernel, rfl, by decide +kernel, by decide +kernel⟩
abbrev st_are_ways : Stmt := top 11
theorem sc_are_ways : FnScope ["thing", "bounds", "last", "one", "bound", "name", "other"] ["thing"] (defScope st_are_ways) := ⟨rfl, rfl, rfl, by decide +kernel, rfl, by decide +kernel, by decide +kernel⟩
abbrev st_Place___init__ : Stmt := inC 12 0
theorem sc_Place___init__ : FnScope ["self", "ways", "few", "most", "cut"] ["self", "ways", "few", "most", "cut"] (defScope st_Place___init__) := ⟨rfl, rfl, rfl, by decide +kernel, rfl, by decide +kernel, by decide +kernel⟩
abbrev st_Place_ways : Stmt := inC 12 1
theorem sc_Place_ways : FnScope ["self"] ["self"] (defScope st_Place_ways) := ⟨rfl, rfl, rfl, by decide +kernel, rfl, by decide +kernel, by decide +kernel⟩
abbrev st_Place_few : Stmt := inC 12 2
theorem sc_Place_few : FnScope ["self"] ["self"] (defScope st_Place_few) := ⟨rfl, rfl, rfl, by decide +kernel, rfl, by decide +kernel, by decide +kernel⟩
abbrev st_Place_most : Stmt := inC 12 3
theorem sc_Place_most : FnScope ["self"] ["self"] (defScope st_Place_most) := ⟨rfl, rfl, rfl, by decide +kernel, rfl, by decide +kernel, by decide +kernel⟩
abbrev st_Place_cut : Stmt := inC 12 4
theorem sc_Place_cut : FnScope ["self"] ["self"] (defScope st_Place_cut) := ⟨rfl, rfl, rfl, by decide +kernel, rfl, by decide +kernel, by decide +kernel⟩
abbrev st_Place_way : Stmt := inC 12 5
theorem sc_Place_way : FnScope ["self", "size", "bound", "name"] ["self", "size"] (defScope st_Place_way) := ⟨rfl, rfl, rfl, by decide +kernel, rfl, by decide +kernel, by decide +kernel⟩
abbrev st_Place_told : Stmt := inC 12 6
theorem sc_Place_told : FnScope ["self"] ["self"] (defScope st_Place_told) := ⟨rfl, rfl, rfl, by decide +kernel, rfl, by decide +kernel, by decide +kernel⟩
abbrev st_Place___eq__ : Stmt := inC 12 7
theorem sc_Place___eq__ : FnScope ["self", "other"] ["self", "other"] (defScope st_Place___eq__) := ⟨rfl, rfl, rfl, by decide +kernel, rfl, by decide +kernel, by decide +kernel⟩
abbrev st_Place_is_joining : Stmt := inC 12 8
theorem sc_Place_is_joining : FnScope ["self", "sizes"] ["self", "sizes"] (defScope st_Place_is_joining) := ⟨rfl, rfl, rfl, by decide +kernel, rfl, by decide +kernel, by decide +kernel⟩
abbrev st_Place_is_splitting : Stmt := inC 12 9
theorem sc_Place_is_splitting : FnScope ["self", "size"] ["self", "size"] (defScope st_Place_is_splitting) := ⟨rfl, rfl, rfl, by decide +kernel, rfl, by decide +kernel, by decide +kernel⟩
abbrev st_Place_parts : Stmt := inC 12 10
theorem sc_Place_parts : FnScope ["self", "size", "part"] ["self", "size"] (defScope st_Place_parts) := ⟨rfl, rfl, rfl, by decide +kernel, rfl, by decide +kernel, by decide +kernel⟩
abbrev st_Place_leave : Stmt := inC 12 11
theorem sc_Place_leave : FnScope ["self", "sizes", "found", "size", "part"] ["self", "sizes"] (defScope st_Place_leave) := ⟨rfl, rfl, rfl, by decide +kernel, rfl, by decide +kernel, by decide +kernel⟩
abbrev st_checked_rules : Stmt := top 13
theorem sc_checked_rules : FnScope ["rules", "name", "place", "bound", "there"] ["rules"] (defScope st_checked_rules) := ⟨rfl, rfl, rfl, by decide +kernel, rfl, by decide +kernel, by decide +kernel⟩
abbrev st_is_band : Stmt := top 14
theorem sc_is_band : FnScope ["rules", "thing"] ["rules", "thing"] (defScope st_is_band) := ⟨rfl, rfl, rfl, by decide +kernel, rfl, by decide +kernel, by decide +kernel⟩
abbrev st_checked_state : Stmt := top 15
theorem sc_checked_state : FnScope ["rules", "state", "band"] ["rules", "state"] (defScope st_checked_state) := ⟨rfl, rfl, rfl, by decide +kernel, rfl, by decide +kernel, by decide +kernel⟩
abbrev st_arrived : Stmt := top 17
theorem sc_arrived : FnScope ["rules", "bands", "found", "name", "band"] ["rules", "bands"] (defScope st_arrived) := ⟨rfl, rfl, rfl, by decide +kernel, rfl, by decide +kernel, by decide +kernel⟩
abbrev st_day_behind : Stmt := top 18
theorem sc_day_behind : FnScope ["rules", "state", "found", "name", "bands", "size", "band"] ["rules", "state"] (defScope st_day_behind) := ⟨rfl, rfl, rfl, by decide +kernel, rfl, by decide +kernel, by decide +kernel⟩
abbrev st_next_day : Stmt := top 19
theorem sc_next_day : FnScope ["rules", "state"] ["rules", "state"] (defScope st_next_day) := ⟨rfl, rfl, rfl, by decide +kernel, rfl, by decide +kernel, by decide +kernel⟩
abbrev st__law_cell_at : Stmt := top 21
theorem sc__law_cell_at : FnScope ["_law_script", "_law_k"] ["_law_script", "_law_k"] (defScope st__law_cell_at) := ⟨rfl, rfl, rfl, by decide +kernel, rfl, by decide +kernel, by decide +kernel⟩
abbrev st__law_mixed : Stmt := top 22
theorem sc__law_mixed : FnScope ["_law_cell", "_law_k", "_law_low"] ["_law_cell", "_law_k"] (defScope st__law_mixed) := ⟨rfl, rfl, rfl, by decide +kernel, rfl, by decide +kernel, by decide +kernel⟩
abbrev st__law_source : Stmt := top 23
theorem sc__law_source : FnScope ["_law_script", "_law_k", "_law_cell"] ["_law_script", "_law_k"] (defScope st__law_source) := ⟨rfl, rfl, rfl, by decide +kernel, rfl, by decide +kernel, by decide +kernel⟩
abbrev st__law_next : Stmt := top 24
theorem sc__law_next : FnScope ["_law_source_here", "_law_many", "_law_found"] ["_law_source_here", "_law_many"] (defScope st__law_next) := ⟨rfl, rfl, rfl, by decide +kernel, rfl, by decide +kernel, by decide +kernel⟩
abbrev st__law_names : Stmt := top 25
theorem sc__law_names : FnScope ["_law_source_here", "_law_many", "_law_at", "_law_some"] ["_law_source_here", "_law_many"] (defScope st__law_names) := ⟨rfl, rfl, rfl, by decide +kernel, rfl, by decide +kernel, by decide +kernel⟩
abbrev st__law_place : Stmt := top 26
theorem sc__law_place : FnScope ["_law_source_here", "_law_names_here", "_law_top", "_law_ways", "_law_bound", "_law_k", "_law_least", "_law_greatest", "_law_part"] ["_law_source_here", "_law_names_here", "_law_top"] (defScope st__law_place) := ⟨rfl, rfl, rfl, by decide +kernel, rfl, by decide +kernel, by decide +kernel⟩
abbrev st__law_model : Stmt := top 27
theorem sc__law_model : FnScope ["_law_source_here", "_law_many", "_law_top", "_law_names_here", "_law_found", "_law_name"] ["_law_source_here", "_law_many", "_law_top"] (defScope st__law_model) := ⟨rfl, rfl, rfl, by decide +kernel, rfl, by decide +kernel, by decide +kernel⟩
abbrev st__law_made : Stmt := top 28
theorem sc__law_made : FnScope ["_law_model_here", "_law_found", "_law_made_here", "_law_name", "_law_told"] ["_law_model_here"] (defScope st__law_made) := ⟨rfl, rfl, rfl, by decide +kernel, rfl, by decide +kernel, by decide +kernel⟩
abbrev st__law_no_ways : Stmt := top 29
theorem sc__law_no_ways : FnScope ["_law_source_here", "_law_some"] ["_law_source_here"] (defScope st__law_no_ways) := ⟨rfl, rfl, rfl, by decide +kernel, rfl, by decide +kernel, by decide +kernel⟩
abbrev st__law_word : Stmt := top 30
theorem sc__law_word : FnScope ["_law_ways", "_law_least", "_law_greatest", "_law_part", "e", "_law_marks"] ["_law_ways", "_law_least", "_law_greatest", "_law_part"] (defScope st__law_word) := ⟨rfl, rfl, rfl, by decide +kernel, rfl, by decide +kernel, by decide +kernel⟩
abbrev st__law_way_word : Stmt := top 31
theorem sc__law_way_word : FnScope ["_law_place_here", "_law_size", "e", "_law_marks"] ["_law_place_here", "_law_size"] (defScope st__law_way_word) := ⟨rfl, rfl, rfl, by decide +kernel, rfl, by decide +kernel, by decide +kernel⟩
abbrev st__law_rules_word : Stmt := top 32
theorem sc__law_rules_word : FnScope ["_law_rules", "e", "_law_marks"] ["_law_rules"] (defScope st__law_rules_word) := ⟨rfl, rfl, rfl, by decide +kernel, rfl, by decide +kernel, by decide +kernel⟩
abbrev st_law : Stmt := top 33
theorem sc_law : FnScope ["_law_script", "_law_k", "_law_source_here", "_law_model_here", "_law_name", "_law_ways", "_law_least", "_law_greatest", "_law_part", "_law_odd", "_law_no_most", "_law_no_cut", "_law_words", "_law_rules", "_law_sizes", "_law_bad", "_law_size"] ["_law_script"] (defScope st_law) := ⟨rfl, rfl, rfl, by decide +kernel, rfl, by decide +kernel, by decide +kernel⟩
structure Fs (K : PySem.W.Frag) (mg : Str → Option Value) (base : Heap) (G : Gm) : Prop where
  d_is_whole : ∃ (f : Addr) (fd : FuncData), FunD K "is_whole" "is_whole" (defArgs st_is_whole) (defBody st_is_whole) (defScope st_is_whole) [(.int 0)] [] f fd ∧ mg "is_whole" = some (.ref f)
  d_is_name : ∃ (f : Addr) (fd : FuncData), FunD K "is_name" "is_name" (defArgs st_is_name) (defBody st_is_name) (defScope st_is_name) [] [] f fd ∧ mg "is_name" = some (.ref f)
  d_is_way : ∃ (f : Addr) (fd : FuncData), FunD K "is_way" "is_way" (defArgs st_is_way) (defBody st_is_way) (defScope st_is_way) [] [] f fd ∧ mg "is_way" = some (.ref f)
  d_are_ways : ∃ (f : Addr) (fd : FuncData), FunD K "are_ways" "are_ways" (defArgs st_are_ways) (defBody st_are_ways) (defScope st_are_ways) [] [] f fd ∧ mg "are_ways" = some (.ref f)
  d_Place___init__ : ∃ (f : Addr) (fd : FuncData), FunD K "__init__" "Place.__init__" (defArgs st_Place___init__) (defBody st_Place___init__) (defScope st_Place___init__) [] [("few", (.int 0)), ("most", .non), ("cut", .non)] f fd ∧ Mk K (G.cls "Place") f
  d_Place_ways : ∃ (f : Addr) (fd : FuncData), FunD K "ways" "Place.ways" (defArgs st_Place_ways) (defBody st_Place_ways) (defScope st_Place_ways) [] [] f fd ∧ Meth K (G.cls "Place") "ways" f
  d_Place_few : ∃ (f : Addr) (fd : FuncData), FunD K "few" "Place.few" (defArgs st_Place_few) (defBody st_Place_few) (defScope st_Place_few) [] [] f fd ∧ Meth K (G.cls "Place") "few" f
  d_Place_most : ∃ (f : Addr) (fd : FuncData), FunD K "most" "Place.most" (defArgs st_Place_most) (defBody st_Place_most) (defScope st_Place_most) [] [] f fd ∧ Meth K (G.cls "Place") "most" f
  d_Place_cut : ∃ (f : Addr) (fd : FuncData), FunD K "cut" "Place.cut" (defArgs st_Place_cut) (defBody st_Place_cut) (defScope st_Place_cut) [] [] f fd ∧ Meth K (G.cls "Place") "cut" f
  d_Place_way : ∃ (f : Addr) (fd : FuncData), FunD K "way" "Place.way" (defArgs st_Place_way) (defBody st_Place_way) (defScope st_Place_way) [] [] f fd ∧ Meth K (G.cls "Place") "way" f
  d_Place_told : ∃ (f : Addr) (fd : FuncData), FunD K "told" "Place.told" (defArgs st_Place_told) (defBody st_Place_told) (defScope st_Place_told) [] [] f fd ∧ Meth K (G.cls "Place") "told" f
  d_Place___eq__ : ∃ (f : Addr) (fd : FuncData), FunD K "__eq__" "Place.__eq__" (defArgs st_Place___eq__) (defBody st_Place___eq__) (defScope st_Place___eq__) [] [] f fd ∧ Meth K (G.cls "Place") "__eq__" f
  d_Place_is_joining : ∃ (f : Addr) (fd : FuncData), FunD K "is_joining" "Place.is_joining" (defArgs st_Place_is_joining) (defBody st_Place_is_joining) (defScope st_Place_is_joining) [] [] f fd ∧ Meth K (G.cls "Place") "is_joining" f
  d_Place_is_splitting : ∃ (f : Addr) (fd : FuncData), FunD K "is_splitting" "Place.is_splitting" (defArgs st_Place_is_splitting) (defBody st_Place_is_splitting) (defScope st_Place_is_splitting) [] [] f fd ∧ Meth K (G.cls "Place") "is_splitting" f
  d_Place_parts : ∃ (f : Addr) (fd : FuncData), FunD K "parts" "Place.parts" (defArgs st_Place_parts) (defBody st_Place_parts) (defScope st_Place_parts) [] [] f fd ∧ Meth K (G.cls "Place") "parts" f
  d_Place_leave : ∃ (f : Addr) (fd : FuncData), FunD K "leave" "Place.leave" (defArgs st_Place_leave) (defBody st_Place_leave) (defScope st_Place_leave) [] [] f fd ∧ Meth K (G.cls "Place") "leave" f
  d_checked_rules : ∃ (f : Addr) (fd : FuncData), FunD K "checked_rules" "checked_rules" (defArgs st_checked_rules) (defBody st_checked_rules) (defScope st_checked_rules) [] [] f fd ∧ mg "checked_rules" = some (.ref f)
  d_is_band : ∃ (f : Addr) (fd : FuncData), FunD K "is_band" "is_band" (defArgs st_is_band) (defBody st_is_band) (defScope st_is_band) [] [] f fd ∧ mg "is_band" = some (.ref f)
  d_checked_state : ∃ (f : Addr) (fd : FuncData), FunD K "checked_state" "checked_state" (defArgs st_checked_state) (defBody st_checked_state) (defScope st_checked_state) [] [] f fd ∧ mg "checked_state" = some (.ref f)
  d_arrived : ∃ (f : Addr) (fd : FuncData), FunD K "arrived" "arrived" (defArgs st_arrived) (defBody st_arrived) (defScope st_arrived) [] [] f fd ∧ mg "arrived" = some (.ref f)
  d_day_behind : ∃ (f : Addr) (fd : FuncData), FunD K "day_behind" "day_behind" (defArgs st_day_behind) (defBody st_day_behind) (defScope st_day_behind) [] [] f fd ∧ mg "day_behind" = some (.ref f)
  d_next_day : ∃ (f : Addr) (fd : FuncData), FunD K "next_day" "next_day" (defArgs st_next_day) (defBody st_next_day) (defScope st_next_day) [] [] f fd ∧ mg "next_day" = some (.ref f)
  d__law_cell_at : ∃ (f : Addr) (fd : FuncData), FunD K "_law_cell_at" "_law_cell_at" (defArgs st__law_cell_at) (defBody st__law_cell_at) (defScope st__law_cell_at) [] [] f fd ∧ mg "_law_cell_at" = some (.ref f)
  d__law_mixed : ∃ (f : Addr) (fd : FuncData), FunD K "_law_mixed" "_law_mixed" (defArgs st__law_mixed) (defBody st__law_mixed) (defScope st__law_mixed) [] [] f fd ∧ mg "_law_mixed" = some (.ref f)
  d__law_source : ∃ (f : Addr) (fd : FuncData), FunD K "_law_source" "_law_source" (defArgs st__law_source) (defBody st__law_source) (defScope st__law_source) [] [] f fd ∧ mg "_law_source" = some (.ref f)
  d__law_next : ∃ (f : Addr) (fd : FuncData), FunD K "_law_next" "_law_next" (defArgs st__law_next) (defBody st__law_next) (defScope st__law_next) [] [] f fd ∧ mg "_law_next" = some (.ref f)
  d__law_names : ∃ (f : Addr) (fd : FuncData), FunD K "_law_names" "_law_names" (defArgs st__law_names) (defBody st__law_names) (defScope st__law_names) [] [] f fd ∧ mg "_law_names" = some (.ref f)
  d__law_place : ∃ (f : Addr) (fd : FuncData), FunD K "_law_place" "_law_place" (defArgs st__law_place) (defBody st__law_place) (defScope st__law_place) [] [] f fd ∧ mg "_law_place" = some (.ref f)
  d__law_model : ∃ (f : Addr) (fd : FuncData), FunD K "_law_model" "_law_model" (defArgs st__law_model) (defBody st__law_model) (defScope st__law_model) [] [] f fd ∧ mg "_law_model" = some (.ref f)
  d__law_made : ∃ (f : Addr) (fd : FuncData), FunD K "_law_made" "_law_made" (defArgs st__law_made) (defBody st__law_made) (defScope st__law_made) [] [] f fd ∧ mg "_law_made" = some (.ref f)
  d__law_no_ways : ∃ (f : Addr) (fd : FuncData), FunD K "_law_no_ways" "_law_no_ways" (defArgs st__law_no_ways) (defBody st__law_no_ways) (defScope st__law_no_ways) [] [] f fd ∧ mg "_law_no_ways" = some (.ref f)
  d__law_word : ∃ (f : Addr) (fd : FuncData), FunD K "_law_word" "_law_word" (defArgs st__law_word) (defBody st__law_word) (defScope st__law_word) [] [] f fd ∧ mg "_law_word" = some (.ref f)
  d__law_way_word : ∃ (f : Addr) (fd : FuncData), FunD K "_law_way_word" "_law_way_word" (defArgs st__law_way_word) (defBody st__law_way_word) (defScope st__law_way_word) [] [] f fd ∧ mg "_law_way_word" = some (.ref f)
  d__law_rules_word : ∃ (f : Addr) (fd : FuncData), FunD K "_law_rules_word" "_law_rules_word" (defArgs st__law_rules_word) (defBody st__law_rules_word) (defScope st__law_rules_word) [] [] f fd ∧ mg "_law_rules_word" = some (.ref f)
  d_law : ∃ (f : Addr) (fd : FuncData), FunD K "law" "law" (defArgs st_law) (defBody st_law) (defScope st_law) [] [] f fd ∧ mg "law" = some (.ref f)
  b_all : mg "all" = none
  b_bool : mg "bool" = none
  b_dict : mg "dict" = none
  b_int : mg "int" = none
  b_isinstance : mg "isinstance" = none
  b_len : mg "len" = none
  b_list : mg "list" = none
  b_max : mg "max" = none
  b_min : mg "min" = none
  b_range : mg "range" = none
  b_sorted : mg "sorted" = none
  b_str : mg "str" = none
  b_tuple : mg "tuple" = none
  b_zip : mg "zip" = none
  k_Place : mg "Place" = some (.ref (G.cls "Place"))
  c_MOST_LETTERS : ∃ t, mg "MOST_LETTERS" = some (.int 8 t)
  c_SMALL : ∃ t, mg "SMALL" = some (.str "abcdefghijklmnopqrstuvwxyz" t)
  x_BandError : XF K mg G "BandError"
  x_NoPlace : XF K mg G "NoPlace"
  x_NoRules : XF K mg G "NoRules"
  x_NoState : XF K mg G "NoState"
  f_Place_held_cut : Cls K (G.cls "Place") ∧ NoAttr K (G.cls "Place") "held_cut"
  f_Place_held_few : Cls K (G.cls "Place") ∧ NoAttr K (G.cls "Place") "held_few"
  f_Place_held_most : Cls K (G.cls "Place") ∧ NoAttr K (G.cls "Place") "held_most"
  f_Place_held_ways : Cls K (G.cls "Place") ∧ NoAttr K (G.cls "Place") "held_ways"
  cl_Place : Cls K (G.cls "Place")
  gk : GK K G clsN
  em : ∀ k ∈ excN, ∀ d ∈ excN, PySem.W.exmOne K (.ref (G.cls k)) (.ref (G.cls d)) = some (isaT k d)
  ev : ∀ k ∈ excN, ExcV K (G.cls k)
section
variable {P : Program} {w : World} {K : PySem.W.Frag} {mg : Str → Option Value} {base : Heap} {G : Gm}
theorem qx_em (h : Fs K mg base G) {x k : Str} {b : Bool} (hx : x ∈ excN) (e : qx x k = some b) : PySem.W.exmOne K (.ref (G.cls k)) (.ref (G.cls x)) = some b := by
  have hk := qx_in e
  unfold qx at e
  rw [if_pos hk] at e
  rw [← Option.some.inj e]
  exact h.em k hk x hx
theorem isa_refl : ∀ k ∈ excN, isaT k k = true := by decide
theorem kit_at (h : Fs K mg base G) {k d : Str} (hk : k ∈ excN) (hd : d ∈ excN) : PySem.W.kitOne K (.ref (G.cls k)) (.ref (G.cls d)) = some (isaT k d) := by
  refine kit_of (h.em k hk d hd) ?_
  cases e : isaT k d with
  | true => exact .inl rfl
  | false =>
    refine .inr (beq_eq_false_iff_ne.mpr fun z => ?_)
    have h1 := h.em k hk k hk
    have h2 := h.em k hk d hd
    rw [← z, h1, e, isa_refl k hk] at h2
    cases h2
def S_is_whole : SX := sRet (eAnd (eN (pIsi clsN) (aCons (eV 0) (aCons (eC (.ty "int")) (aNil)))) (eAnd (eNot (eN (pIsi clsN) (aCons (eV 0) (aCons (eC (.ty "bool")) (aNil))))) (eBin pGe (eV 0) (eV 1))))
def m_is_whole : FM := fnM 0 S_is_whole
theorem ok_is_whole_d1 (h : Fs K mg base G) : FG P w K mg base G 1 2 "is_whole" [(.int 0)] m_is_whole := by
  obtain ⟨f, fd, F, g⟩ := h.d_is_whole
  have sc := sc_is_whole
  obtain ⟨ds, hv, hb⟩ := F.binds1 (ps := ["thing", "least"]) 1 0 (by simp) (by decide) fun _ _ _ _ _ _ _ us its hl hi => match us, its, hl, hi with | [_], [_], _, _ => ⟨_, rfl, rfl⟩
  exact ⟨f, fd, ["thing", "least"], ds, dfn F sc rfl fun cdv A outer s H vs E hr => (dss_one (ds_ret (T := []) (de_and (de_isi h.gk h.b_isinstance (da_cons (de_v (pv 0)) (da_cons (de_ty h.b_int bt_int) da_nil))) (de_and (de_not (de_isi h.gk h.b_isinstance (da_cons (de_v (pv 0)) (da_cons (de_ty h.b_bool bt_bool) da_nil)))) (de_and1 (de_ge (de_v (pv 0)) (de_v (pv 1)))))))), g, F.kp, hb, hv⟩
theorem ok_is_whole (h : Fs K mg base G) : FG P w K mg base G 1 2 "is_whole" [] m_is_whole := by
  obtain ⟨f, fd, F, g⟩ := h.d_is_whole
  have sc := sc_is_whole
  obtain ⟨ds, hv, hb⟩ := F.binds1 (ps := ["thing", "least"]) 2 1 (by simp) (by decide) fun _ _ _ _ _ _ _ us its hl hi => match us, its, hl, hi with | [_, _], [_], _, _ => ⟨_, rfl, rfl⟩
  exact ⟨f, fd, ["thing", "least"], ds, dfn F sc rfl fun cdv A outer s H vs E hr => (dss_one (ds_ret (T := []) (de_and (de_isi h.gk h.b_isinstance (da_cons (de_v (pv 0)) (da_cons (de_ty h.b_int bt_int) da_nil))) (de_and (de_not (de_isi h.gk h.b_isinstance (da_cons (de_v (pv 0)) (da_cons (de_ty h.b_bool bt_bool) da_nil)))) (de_and1 (de_ge (de_v (pv 0)) (de_v (pv 1)))))))), g, F.kp, hb, hv⟩
def S_is_name : SX := sSeq (sIf (bOr (bNot (bT (eN (pIsi clsN) (aCons (eV 0) (aCons (eC (.ty "str")) (aNil)))) pTru)) (bNot (bT (eChain pLe pLe (eC (.int 1)) (eN pLenA (aCons (eV 0) (aNil))) (eC (.int 8))) pB))) (sRet (eC (.bl false))) (sSkip)) (sRet (eN (pBls fun bs => bs.all id) (aCons (eLc [1] (iX fSeq (eV 0)) (gN 1) (bYes) (eBin (pIn false) (eV 1) (eC (.str "abcdefghijklmnopqrstuvwxyz")))) (aNil))))
def m_is_name : FM := fnM 1 S_is_name
theorem ok_is_name (h : Fs K mg base G) : FG P w K mg base G 1 1 "is_name" [] m_is_name := by
  obtain ⟨f, fd, F, g⟩ := h.d_is_name
  have sc := sc_is_name
  exact ⟨f, fd, ["thing"], [], dfn F sc rfl fun cdv A outer s H vs E hr => (dss_cons (ds_if (T := []) (dt_w (dw_or (dt_not (dt_tru (de_isi h.gk h.b_isinstance (da_cons (de_v (pv 0)) (da_cons (de_ty h.b_str bt_str) da_nil))))) (dw_or1 (dt_not (dt_chain op_le o_le op_le o_le de_int (de_len h.b_len (da_cons (de_v (pv 0)) da_nil)) (de_gInt h.c_MOST_LETTERS)))))) (dss_one (ds_ret (T := []) de_bl)) dss_nil) (dss_one (ds_ret (T := []) (de_all rfl h.b_all (da_cons (de_lc (own := [("letter", 1)]) rfl sc.nd (by show BlkOk ["thing", "letter"] (defScope st_is_name) _ _; exact ⟨rfl, by decide +kernel, by decide +kernel, by decide +kernel, by decide +kernel⟩) (by decide) tg_n (di_seq (de_v (pv 0))) (fun s2 H2 L2 cl2 fp2 => (dg_n sc.nd)) (fun s2 H2 L2 cl2 fp2 => dt_yes) (fun s2 H2 L2 cl2 fp2 => (de_in (room_u hr 66) (de_v (pv 1)) (de_gStr h.c_SMALL)))) da_nil))))), g, F.kp, F.bindsN fun _ _ _ _ _ _ us hl => match us, hl with | [_], _ => rfl, .nil⟩
def S_is_way : SX := sSeq (sIf (bOr (bNot (bT (eN (pIsi clsN) (aCons (eV 0) (aCons (eC (.ty "tuple")) (aNil)))) pTru)) (bOr (bT (eBin pNe (eN pLenA (aCons (eV 0) (aNil))) (eC (.int 2))) pB) (bNot (bT (eCall 1 m_is_name (aCons (eBin pIxA (eV 0) (eC (.int 1))) (aNil))) pTru)))) (sRet (eC (.bl false))) (sSkip)) (sRet (eOr (eBin pIsN (eBin pIxA (eV 0) (eC (.int 0))) (eC .non)) (eCall 2 m_is_whole (aCons (eBin pIxA (eV 0) (eC (.int 0))) (aCons (eC (.int 1)) (aNil))))))
def m_is_way : FM := fnM 0 S_is_way
theorem ok_is_way (h : Fs K mg base G) : FG P w K mg base G 2 1 "is_way" [] m_is_way := by
  obtain ⟨f, fd, F, g⟩ := h.d_is_way
  have sc := sc_is_way
  exact ⟨f, fd, ["thing"], [], dfn F sc rfl fun cdv A outer s H vs E hr => (dss_cons (ds_if (T := []) (dt_w (dw_or (dt_not (dt_tru (de_isi h.gk h.b_isinstance (da_cons (de_v (pv 0)) (da_cons (de_ty h.b_tuple bt_tuple) da_nil))))) (dw_or (dt_ne (room_u hr 64) (de_len h.b_len (da_cons (de_v (pv 0)) da_nil)) de_int) (dw_or1 (dt_not (dt_tru (de_callN ((ok_is_name h).mono (by decide)).d hr takes_own rfl (da_cons (de_ixA (room_u hr 1) (de_v (pv 0)) de_int) da_nil)))))))) (dss_one (ds_ret (T := []) de_bl)) dss_nil) (dss_one (ds_ret (T := []) (de_or (de_is (de_ixA (room_u hr 1) (de_v (pv 0)) de_int) de_non) (de_or1 (de_callN ((ok_is_whole h).mono (by decide)).d hr takes_own rfl (da_cons (de_ixA (room_u hr 1) (de_v (pv 0)) de_int) (da_cons de_int da_nil)))))))), g, F.kp, F.bindsN fun _ _ _ _ _ _ us hl => match us, hl with | [_], _ => rfl, .nil⟩
def S_are_ways : SX := sSeq (sIf (bOr (bNot (bT (eN (pIsi clsN) (aCons (eV 0) (aCons (eC (.ty "list")) (aNil)))) pTru)) (bOr (bT (eBin pEqA (eV 0) (eLst (aNil))) pB) (bNot (bT (eN (pBls fun bs => bs.all id) (aCons (eLc [3] (iX fSeq (eV 0)) (gN 3) (bYes) (eCall 1 m_is_way (aCons (eV 3) (aNil)))) (aNil))) pTru)))) (sRet (eC (.bl false))) (sSkip)) (sSeq (sStar 2 0 (eLc [4, 5] (iX fSeq (eV 0)) (gT 2 (gsCons (gN 4) (gsCons (gN 5) (gsNil)))) (bYes) (eV 4)) (gsCons (gN 1) (gsCons (gN 2) (gsNil)))) (sSeq (sIf (bOr (bT (eBin pNotN (eV 2) (eC .non)) pB) (bT (eBin (pIn false) (eC .non) (eV 1)) pB)) (sRet (eC (.bl false))) (sSkip)) (sRet (eN (pBls fun bs => bs.all id) (aCons (eLc [3, 6] (iXs fZip (aCons (eV 1) (aCons (eSl (eV 1) (oS (eC (.int 1))) (oN)) (aNil)))) (gT 2 (gsCons (gN 3) (gsCons (gN 6) (gsNil)))) (bYes) (eBin pLt (eV 3) (eV 6))) (aNil))))))
def m_are_ways : FM := fnM 6 S_are_ways
theorem ok_are_ways (h : Fs K mg base G) : FG P w K mg base G 3 1 "are_ways" [] m_are_ways := by
  obtain ⟨f, fd, F, g⟩ := h.d_are_ways
  have sc := sc_are_ways
  exact ⟨f, fd, ["thing"], [], dfn F sc rfl fun cdv A outer s H vs E hr => (dss_cons (ds_if (T := []) (dt_w (dw_or (dt_not (dt_tru (de_isi h.gk h.b_isinstance (da_cons (de_v (pv 0)) (da_cons (de_ty h.b_list bt_list) da_nil))))) (dw_or (dt_eqA (room_u hr 64) (de_v (pv 0)) (de_lst da_nil)) (dw_or1 (dt_not (dt_tru (de_all rfl h.b_all (da_cons (de_lc (own := [("one", 3)]) rfl sc.nd (by show BlkOk ["thing", "bounds", "last", "one", "bound", "name", "other"] (defScope st_are_ways) _ _; exact ⟨rfl, by decide +kernel, by decide +kernel, by decide +kernel, by decide +kernel⟩) (by decide) tg_n (di_seq (de_v (pv 0))) (fun s2 H2 L2 cl2 fp2 => (dg_n sc.nd)) (fun s2 H2 L2 cl2 fp2 => dt_yes) (fun s2 H2 L2 cl2 fp2 => (de_callN ((ok_is_way h).mono (by decide)).d hr tk0 rfl (da_cons (de_v (pv 3)) da_nil)))) da_nil)))))))) (dss_one (ds_ret (T := []) de_bl)) dss_nil) (dss_cons (ds_star (T := []) rfl (de_lc (own := [("bound", 4), ("name", 5)]) rfl sc.nd (by show BlkOk ["thing", "bounds", "last", "one", "bound", "name", "other"] (defScope st_are_ways) _ _; exact ⟨rfl, by decide +kernel, by decide +kernel, by decide +kernel, by decide +kernel⟩) (by decide) (tg_t (tgs_cons tg_n (tgs_cons tg_n tgs_nil))) (di_seq (de_v (pv 0))) (fun s2 H2 L2 cl2 fp2 => (dg_t rfl (dgs_cons (dg_n sc.nd) (dgs_cons (dg_n sc.nd) dgs_nil)))) (fun s2 H2 L2 cl2 fp2 => dt_yes) (fun s2 H2 L2 cl2 fp2 => (de_v (pv 4)))) (dgs_star (dg_n sc.nd) (dgs_cons (dg_n sc.nd) dgs_nil))) (dss_cons (ds_if (T := []) (dt_w (dw_or (dt_isnot (de_v (pv 2)) de_non) (dw_or1 (dt_in (room_u hr 66) de_non (de_v (pv 1)))))) (dss_one (ds_ret (T := []) de_bl)) dss_nil) (dss_one (ds_ret (T := []) (de_all rfl h.b_all (da_cons (de_lc (own := [("one", 3), ("other", 6)]) rfl sc.nd (by show BlkOk ["thing", "bounds", "last", "one", "bound", "name", "other"] (defScope st_are_ways) _ _; exact ⟨rfl, by decide +kernel, by decide +kernel, by decide +kernel, by decide +kernel⟩) (by decide) (tg_t (tgs_cons tg_n (tgs_cons tg_n tgs_nil))) (di_zip h.b_zip (da_cons (de_v (pv 1)) (da_cons (de_slice (de_v (pv 1)) (do_some de_int) do_none) da_nil))) (fun s2 H2 L2 cl2 fp2 => (dg_t rfl (dgs_cons (dg_n sc.nd) (dgs_cons (dg_n sc.nd) dgs_nil)))) (fun s2 H2 L2 cl2 fp2 => dt_yes) (fun s2 H2 L2 cl2 fp2 => (de_lt (de_v (pv 3)) (de_v (pv 6))))) da_nil))))))), g, F.kp, F.bindsN fun _ _ _ _ _ _ us hl => match us, hl with | [_], _ => rfl, .nil⟩
def S_Place___init__ : SX := sSeq (sIf (bOr (bNot (bT (eCall 1 m_are_ways (aCons (eV 1) (aNil))) pTru)) (bNot (bT (eCall 1 (fun ss => m_is_whole (ss ++ List.map Slot.val [(.int 0)])) (aCons (eV 2) (aNil))) pTru))) (sRaise "NoPlace") (sSkip)) (sSeq (sIf (bAnd (bT (eBin pNotN (eV 3) (eC .non)) pB) (bNot (bT (eCall 2 m_is_whole (aCons (eV 3) (aCons (eC (.int 1)) (aNil)))) pTru))) (sRaise "NoPlace") (sSkip)) (sSeq (sIf (bAnd (bT (eBin pNotN (eV 4) (eC .non)) pB) (bOr (bT (eBin pIsN (eV 3) (eC .non)) pB) (bOr (bNot (bT (eCall 2 m_is_whole (aCons (eV 4) (aCons (eC (.int 1)) (aNil)))) pTru)) (bT (eBin pGt (eV 4) (eV 3)) pB)))) (sRaise "NoPlace") (sSkip)) (sSeq (sPutF 0 "Place" "held_ways" (eN pList (aCons (eV 1) (aNil)))) (sSeq (sPutF 0 "Place" "held_few" (eV 2)) (sSeq (sPutF 0 "Place" "held_most" (eV 3)) (sPutF 0 "Place" "held_cut" (eV 4)))))))
def m_Place___init__ : FM := fnM 0 S_Place___init__
def gp_mk_Place_0 : List PV → List PV → List PV := fun xs ys => xs ++ ys
theorem mk_Place_0 (h : Fs K mg base G) : MkG P w K mg base G 4 5 "Place" "Place" ["few", "most", "cut"] 1 gp_mk_Place_0 m_Place___init__ := by
  obtain ⟨f, fd, F, g⟩ := h.d_Place___init__
  have sc := sc_Place___init__
  have Fo := dfn (P := P) (w := w) (mg := mg) (base := base) (G := G) (S := S_Place___init__) (n := 0) (k := 3) F sc rfl fun cdv A outer s H vs E hr => (dss_cons (ds_if (T := [0]) (dt_w (dw_or (dt_not (dt_tru (de_callN ((ok_are_ways h).mono (by decide)).d hr takes_own rfl (da_cons (de_v (pv 1)) da_nil)))) (dw_or1 (dt_not (dt_tru (de_call (dxs := [(.int 0)]) ((ok_is_whole_d1 h).mono (by decide)).d hr takes_own (fun I => (.cons (.int _) .nil)) rfl (da_cons (de_v (pv 2)) da_nil))))))) (dss_one (ds_raise h.x_NoPlace.d rfl takes_own)) dss_nil) (dss_cons (ds_if (T := [0]) (dt_w (dw_and (dt_isnot (de_v (pv 3)) de_non) (dw_and1 (dt_not (dt_tru (de_callN ((ok_is_whole h).mono (by decide)).d hr takes_own rfl (da_cons (de_v (pv 3)) (da_cons de_int da_nil)))))))) (dss_one (ds_raise h.x_NoPlace.d rfl takes_own)) dss_nil) (dss_cons (ds_if (T := [0]) (dt_w (dw_and (dt_isnot (de_v (pv 4)) de_non) (dw_and1 (dt_w (dw_or (dt_is (de_v (pv 3)) de_non) (dw_or (dt_not (dt_tru (de_callN ((ok_is_whole h).mono (by decide)).d hr takes_own rfl (da_cons (de_v (pv 4)) (da_cons de_int da_nil))))) (dw_or1 (dt_gt (de_v (pv 4)) (de_v (pv 3)))))))))) (dss_one (ds_raise h.x_NoPlace.d rfl takes_own)) dss_nil) (dss_cons (ds_putF (T := [0]) ⟨h.f_Place_held_ways.1, h.f_Place_held_ways.2⟩ (pv 0) (de_list h.b_list (da_cons (de_v (pv 1)) da_nil))) (dss_cons (ds_putF (T := [0]) ⟨h.f_Place_held_few.1, h.f_Place_held_few.2⟩ (pv 0) (de_v (pv 2))) (dss_cons (ds_putF (T := [0]) ⟨h.f_Place_held_most.1, h.f_Place_held_most.2⟩ (pv 0) (de_v (pv 3))) (dss_one (ds_putF (T := [0]) ⟨h.f_Place_held_cut.1, h.f_Place_held_cut.2⟩ (pv 0) (de_v (pv 4))))))))))
  obtain ⟨mv, hb⟩ := F.kbinds0 (ps := ["self", "ways", "few", "most", "cut"]) 2 ["few", "most", "cut"] [] (fun us _ ws => us ++ ws) (by simp) (by simp) (fun a _ c => a.append c) fun D doc pm an cdv ct us mv ws hu hm hw => match us, mv, ws, hu, hm, hw with | [_, _], [], [_, _, _], _, _, _ => rfl
  exact ⟨f, fd, ["self", "ways", "few", "most", "cut"], _, _, g, Fo, h.k_Place, hb, fun I v xs ys vs zs l l2 h1 h2 => ⟨vs ++ zs, rfl, l.append l2, by simp [h1, h2]⟩⟩
def gp_mk_Place_1 : List PV → List PV → List PV := fun xs ys => xs ++ [(.int 0), .non, .non]
theorem mk_Place_1 (h : Fs K mg base G) : MkG P w K mg base G 4 5 "Place" "Place" [] 1 gp_mk_Place_1 m_Place___init__ := by
  obtain ⟨f, fd, F, g⟩ := h.d_Place___init__
  have sc := sc_Place___init__
  have Fo := dfn (P := P) (w := w) (mg := mg) (base := base) (G := G) (S := S_Place___init__) (n := 0) (k := 3) F sc rfl fun cdv A outer s H vs E hr => (dss_cons (ds_if (T := [0]) (dt_w (dw_or (dt_not (dt_tru (de_callN ((ok_are_ways h).mono (by decide)).d hr takes_own rfl (da_cons (de_v (pv 1)) da_nil)))) (dw_or1 (dt_not (dt_tru (de_call (dxs := [(.int 0)]) ((ok_is_whole_d1 h).mono (by decide)).d hr takes_own (fun I => (.cons (.int _) .nil)) rfl (da_cons (de_v (pv 2)) da_nil))))))) (dss_one (ds_raise h.x_NoPlace.d rfl takes_own)) dss_nil) (dss_cons (ds_if (T := [0]) (dt_w (dw_and (dt_isnot (de_v (pv 3)) de_non) (dw_and1 (dt_not (dt_tru (de_callN ((ok_is_whole h).mono (by decide)).d hr takes_own rfl (da_cons (de_v (pv 3)) (da_cons de_int da_nil)))))))) (dss_one (ds_raise h.x_NoPlace.d rfl takes_own)) dss_nil) (dss_cons (ds_if (T := [0]) (dt_w (dw_and (dt_isnot (de_v (pv 4)) de_non) (dw_and1 (dt_w (dw_or (dt_is (de_v (pv 3)) de_non) (dw_or (dt_not (dt_tru (de_callN ((ok_is_whole h).mono (by decide)).d hr takes_own rfl (da_cons (de_v (pv 4)) (da_cons de_int da_nil))))) (dw_or1 (dt_gt (de_v (pv 4)) (de_v (pv 3)))))))))) (dss_one (ds_raise h.x_NoPlace.d rfl takes_own)) dss_nil) (dss_cons (ds_putF (T := [0]) ⟨h.f_Place_held_ways.1, h.f_Place_held_ways.2⟩ (pv 0) (de_list h.b_list (da_cons (de_v (pv 1)) da_nil))) (dss_cons (ds_putF (T := [0]) ⟨h.f_Place_held_few.1, h.f_Place_held_few.2⟩ (pv 0) (de_v (pv 2))) (dss_cons (ds_putF (T := [0]) ⟨h.f_Place_held_most.1, h.f_Place_held_most.2⟩ (pv 0) (de_v (pv 3))) (dss_one (ds_putF (T := [0]) ⟨h.f_Place_held_cut.1, h.f_Place_held_cut.2⟩ (pv 0) (de_v (pv 4))))))))))
  obtain ⟨mv, hb⟩ := F.kbinds0 (ps := ["self", "ways", "few", "most", "cut"]) 2 [] [("few", (.int 0)), ("most", .non), ("cut", .non)] (fun us mv _ => us ++ mv) (by simp) (by simp) (fun a b _ => a.append b) fun D doc pm an cdv ct us mv ws hu hm hw => match us, mv, ws, hu, hm, hw with | [_, _], [_, _, _], [], _, _, _ => ⟨_, _, _, _, _, _, rfl, rfl, ⟨_, _, _, _, _, _, rfl, rfl, ⟨_, _, _, _, _, _, rfl, rfl, rfl⟩⟩⟩
  exact ⟨f, fd, ["self", "ways", "few", "most", "cut"], _, _, g, Fo, h.k_Place, hb, fun I v xs ys vs zs l l2 h1 h2 => ⟨vs ++ [(.int 0), .non, .non], rfl, l.append (.cons (.int _) (.cons .non (.cons .non .nil))), by simp [h1]⟩⟩
def S_Place_ways : SX := sRet (eN pList (aCons (eUn (pFld "Place" "held_ways") (eV 0)) (aNil)))
def m_Place_ways : FM := fnM 0 S_Place_ways
theorem mt_Place_ways (h : Fs K mg base G) : MG P w K mg base G 1 1 "Place" "ways" [] m_Place_ways := by
  obtain ⟨f, fd, F, g⟩ := h.d_Place_ways
  have sc := sc_Place_ways
  exact ⟨f, fd, ["self"], [], dfn F sc rfl fun cdv A outer s H vs E hr => (dss_one (ds_ret (T := []) (de_list h.b_list (da_cons (de_fld ⟨h.f_Place_held_ways.1, h.f_Place_held_ways.2⟩ (de_v (pv 0))) da_nil)))), h.cl_Place, g, F.bindsN fun _ _ _ _ _ _ us hl => match us, hl with | [_], _ => rfl, .nil⟩
def S_Place_few : SX := sRet (eUn (pFld "Place" "held_few") (eV 0))
def m_Place_few : FM := fnM 0 S_Place_few
theorem mt_Place_few (h : Fs K mg base G) : MG P w K mg base G 1 1 "Place" "few" [] m_Place_few := by
  obtain ⟨f, fd, F, g⟩ := h.d_Place_few
  have sc := sc_Place_few
  exact ⟨f, fd, ["self"], [], dfn F sc rfl fun cdv A outer s H vs E hr => (dss_one (ds_ret (T := []) (de_fld ⟨h.f_Place_held_few.1, h.f_Place_held_few.2⟩ (de_v (pv 0))))), h.cl_Place, g, F.bindsN fun _ _ _ _ _ _ us hl => match us, hl with | [_], _ => rfl, .nil⟩
def S_Place_most : SX := sRet (eUn (pFld "Place" "held_most") (eV 0))
def m_Place_most : FM := fnM 0 S_Place_most
theorem mt_Place_most (h : Fs K mg base G) : MG P w K mg base G 1 1 "Place" "most" [] m_Place_most := by
  obtain ⟨f, fd, F, g⟩ := h.d_Place_most
  have sc := sc_Place_most
  exact ⟨f, fd, ["self"], [], dfn F sc rfl fun cdv A outer s H vs E hr => (dss_one (ds_ret (T := []) (de_fld ⟨h.f_Place_held_most.1, h.f_Place_held_most.2⟩ (de_v (pv 0))))), h.cl_Place, g, F.bindsN fun _ _ _ _ _ _ us hl => match us, hl with | [_], _ => rfl, .nil⟩
def S_Place_cut : SX := sRet (eUn (pFld "Place" "held_cut") (eV 0))
def m_Place_cut : FM := fnM 0 S_Place_cut
theorem mt_Place_cut (h : Fs K mg base G) : MG P w K mg base G 1 1 "Place" "cut" [] m_Place_cut := by
  obtain ⟨f, fd, F, g⟩ := h.d_Place_cut
  have sc := sc_Place_cut
  exact ⟨f, fd, ["self"], [], dfn F sc rfl fun cdv A outer s H vs E hr => (dss_one (ds_ret (T := []) (de_fld ⟨h.f_Place_held_cut.1, h.f_Place_held_cut.2⟩ (de_v (pv 0))))), h.cl_Place, g, F.bindsN fun _ _ _ _ _ _ us hl => match us, hl with | [_], _ => rfl, .nil⟩
def S_Place_way : SX := sSeq (sIf (bNot (bT (eCall 2 m_is_whole (aCons (eV 1) (aCons (eC (.int 1)) (aNil)))) pTru)) (sRaise "NoState") (sSkip)) (sRet (eBin pIxA (eLc [2, 3] (iX fSeq (eUn (pFld "Place" "held_ways") (eV 0))) (gT 2 (gsCons (gN 2) (gsCons (gN 3) (gsNil)))) (bOr (bT (eBin pIsN (eV 2) (eC .non)) pB) (bT (eBin pGe (eV 2) (eV 1)) pB)) (eV 3)) (eC (.int 0))))
def m_Place_way : FM := fnM 2 S_Place_way
theorem mt_Place_way (h : Fs K mg base G) : MG P w K mg base G 2 2 "Place" "way" [] m_Place_way := by
  obtain ⟨f, fd, F, g⟩ := h.d_Place_way
  have sc := sc_Place_way
  exact ⟨f, fd, ["self", "size"], [], dfn F sc rfl fun cdv A outer s H vs E hr => (dss_cons (ds_if (T := []) (dt_not (dt_tru (de_callN ((ok_is_whole h).mono (by decide)).d hr takes_own rfl (da_cons (de_v (pv 1)) (da_cons de_int da_nil))))) (dss_one (ds_raise h.x_NoState.d rfl takes_own)) dss_nil) (dss_one (ds_ret (T := []) (de_ixA (room_u hr 1) (de_lc (own := [("bound", 2), ("name", 3)]) rfl sc.nd (by show BlkOk ["self", "size", "bound", "name"] (defScope st_Place_way) _ _; exact ⟨rfl, by decide +kernel, by decide +kernel, by decide +kernel, by decide +kernel⟩) (by decide) (tg_t (tgs_cons tg_n (tgs_cons tg_n tgs_nil))) (di_seq (de_fld ⟨h.f_Place_held_ways.1, h.f_Place_held_ways.2⟩ (de_v (pv 0)))) (fun s2 H2 L2 cl2 fp2 => (dg_t rfl (dgs_cons (dg_n sc.nd) (dgs_cons (dg_n sc.nd) dgs_nil)))) (fun s2 H2 L2 cl2 fp2 => (dt_one (C := ⟨G, start ["self", "size", "bound", "name"] vs, Wn⟩) (dt_w (dw_or (dt_is (de_v (pv 2)) de_non) (dw_or1 (dt_ge (de_v (pv 2)) (de_v (pv 1)))))))) (fun s2 H2 L2 cl2 fp2 => (de_v (pv 3)))) de_int)))), h.cl_Place, g, F.bindsN fun _ _ _ _ _ _ us hl => match us, hl with | [_, _], _ => rfl, .nil⟩
def S_Place_told : SX := sRet (eTup (aCons (eUn (pFld "Place" "held_ways") (eV 0)) (aCons (eUn (pFld "Place" "held_few") (eV 0)) (aCons (eUn (pFld "Place" "held_most") (eV 0)) (aCons (eUn (pFld "Place" "held_cut") (eV 0)) (aNil))))))
def m_Place_told : FM := fnM 0 S_Place_told
theorem mt_Place_told (h : Fs K mg base G) : MG P w K mg base G 1 1 "Place" "told" [] m_Place_told := by
  obtain ⟨f, fd, F, g⟩ := h.d_Place_told
  have sc := sc_Place_told
  exact ⟨f, fd, ["self"], [], dfn F sc rfl fun cdv A outer s H vs E hr => (dss_one (ds_ret (T := []) (de_tup (da_cons (de_fld ⟨h.f_Place_held_ways.1, h.f_Place_held_ways.2⟩ (de_v (pv 0))) (da_cons (de_fld ⟨h.f_Place_held_few.1, h.f_Place_held_few.2⟩ (de_v (pv 0))) (da_cons (de_fld ⟨h.f_Place_held_most.1, h.f_Place_held_most.2⟩ (de_v (pv 0))) (da_cons (de_fld ⟨h.f_Place_held_cut.1, h.f_Place_held_cut.2⟩ (de_v (pv 0))) da_nil))))))), h.cl_Place, g, F.bindsN fun _ _ _ _ _ _ us hl => match us, hl with | [_], _ => rfl, .nil⟩
def S_Place___eq__ : SX := sRet (eAnd (eN (pIsi clsN) (aCons (eV 1) (aCons (eC (.cl "Place")) (aNil)))) (eBin pEqA (eMeth "Place" "told" 0 m_Place_told (eV 0) (aNil)) (eMeth "Place" "told" 0 m_Place_told (eV 1) (aNil))))
def m_Place___eq__ : FM := fnM 0 S_Place___eq__
theorem mt_Place___eq__ (h : Fs K mg base G) : MG P w K mg base G 2 2 "Place" "__eq__" [] m_Place___eq__ := by
  obtain ⟨f, fd, F, g⟩ := h.d_Place___eq__
  have sc := sc_Place___eq__
  exact ⟨f, fd, ["self", "other"], [], dfn F sc rfl fun cdv A outer s H vs E hr => (dss_one (ds_ret (T := []) (de_and (de_isi h.gk h.b_isinstance (da_cons (de_v (pv 1)) (da_cons (de_gCls h.k_Place) da_nil))) (de_and1 (de_eqA (room_u hr 64) (de_meth0 ((mt_Place_told h).mono (by decide)).d hr takes_own (de_v (pv 0))) (de_meth0 ((mt_Place_told h).mono (by decide)).d hr takes_own (de_v (pv 1)))))))), h.cl_Place, g, F.bindsN fun _ _ _ _ _ _ us hl => match us, hl with | [_, _], _ => rfl, .nil⟩
def S_Place_is_joining : SX := sRet (eAnd (eBin pGt (eN pLenA (aCons (eV 1) (aNil))) (eC (.int 1))) (eBin pLe (eBin pIxA (eV 1) (eC (.int 1))) (eUn (pFld "Place" "held_few") (eV 0))))
def m_Place_is_joining : FM := fnM 0 S_Place_is_joining
theorem mt_Place_is_joining (h : Fs K mg base G) : MG P w K mg base G 1 2 "Place" "is_joining" [] m_Place_is_joining := by
  obtain ⟨f, fd, F, g⟩ := h.d_Place_is_joining
  have sc := sc_Place_is_joining
  exact ⟨f, fd, ["self", "sizes"], [], dfn F sc rfl fun cdv A outer s H vs E hr => (dss_one (ds_ret (T := []) (de_and (de_gt (de_len h.b_len (da_cons (de_v (pv 1)) da_nil)) de_int) (de_and1 (de_le (de_ixA (room_u hr 1) (de_v (pv 1)) de_int) (de_fld ⟨h.f_Place_held_few.1, h.f_Place_held_few.2⟩ (de_v (pv 0)))))))), h.cl_Place, g, F.bindsN fun _ _ _ _ _ _ us hl => match us, hl with | [_, _], _ => rfl, .nil⟩
def S_Place_is_splitting : SX := sRet (eAnd (eBin pNotN (eUn (pFld "Place" "held_most") (eV 0)) (eC .non)) (eBin pGt (eV 1) (eUn (pFld "Place" "held_most") (eV 0))))
def m_Place_is_splitting : FM := fnM 0 S_Place_is_splitting
theorem mt_Place_is_splitting (h : Fs K mg base G) : MG P w K mg base G 1 2 "Place" "is_splitting" [] m_Place_is_splitting := by
  obtain ⟨f, fd, F, g⟩ := h.d_Place_is_splitting
  have sc := sc_Place_is_splitting
  exact ⟨f, fd, ["self", "size"], [], dfn F sc rfl fun cdv A outer s H vs E hr => (dss_one (ds_ret (T := []) (de_and (de_isnot (de_fld ⟨h.f_Place_held_most.1, h.f_Place_held_most.2⟩ (de_v (pv 0))) de_non) (de_and1 (de_gt (de_v (pv 1)) (de_fld ⟨h.f_Place_held_most.1, h.f_Place_held_most.2⟩ (de_v (pv 0)))))))), h.cl_Place, g, F.bindsN fun _ _ _ _ _ _ us hl => match us, hl with | [_, _], _ => rfl, .nil⟩
def S_Place_parts : SX := sSeq (sIf (bNot (bT (eMeth "Place" "is_splitting" 1 m_Place_is_splitting (eV 0) (aCons (eV 1) (aNil))) pTru)) (sRet (eLst (aCons (eV 1) (aNil)))) (sSkip)) (sSeq (sSet 2 (eIf (bT (eBin pIsN (eUn (pFld "Place" "held_cut") (eV 0)) (eC .non)) pB) (eBin pFdiv (eV 1) (eC (.int 2))) (eUn (pFld "Place" "held_cut") (eV 0)))) (sRet (eN (pSortedA false) (aCons (eLst (aCons (eV 2) (aCons (eBin pSub (eV 1) (eV 2)) (aNil)))) (aNil)))))
def m_Place_parts : FM := fnM 1 S_Place_parts
theorem mt_Place_parts (h : Fs K mg base G) : MG P w K mg base G 2 2 "Place" "parts" [] m_Place_parts := by
  obtain ⟨f, fd, F, g⟩ := h.d_Place_parts
  have sc := sc_Place_parts
  exact ⟨f, fd, ["self", "size"], [], dfn F sc rfl fun cdv A outer s H vs E hr => (dss_cons (ds_if (T := []) (dt_not (dt_tru (de_meth ((mt_Place_is_splitting h).mono (by decide)).d hr takes_own rfl (de_v (pv 0)) (da_cons (de_v (pv 1)) da_nil)))) (dss_one (ds_ret (T := []) (de_lst (da_cons (de_v (pv 1)) da_nil)))) dss_nil) (dss_cons (ds_set (T := []) sc.nd (de_if (dt_is (de_fld ⟨h.f_Place_held_cut.1, h.f_Place_held_cut.2⟩ (de_v (pv 0))) de_non) (de_fdiv (de_v (pv 1)) de_int) (de_fld ⟨h.f_Place_held_cut.1, h.f_Place_held_cut.2⟩ (de_v (pv 0))))) (dss_one (ds_ret (T := []) (de_sorted rfl (room_u hr 70) h.b_sorted (da_cons (de_lst (da_cons (de_v (pv 2)) (da_cons (de_sub (de_v (pv 1)) (de_v (pv 2))) da_nil))) da_nil)))))), h.cl_Place, g, F.bindsN fun _ _ _ _ _ _ us hl => match us, hl with | [_, _], _ => rfl, .nil⟩
def S_Place_leave : SX := sSeq (sSet 2 (eN (pSortedA false) (aCons (eV 1) (aNil)))) (sSeq (sIf (bT (eMeth "Place" "is_joining" 1 m_Place_is_joining (eV 0) (aCons (eV 2) (aNil))) pTru) (sSet 2 (eBin pAdd (eLst (aCons (eBin pAdd (eBin pIxA (eV 2) (eC (.int 0))) (eBin pIxA (eV 2) (eC (.int 1)))) (aNil))) (eSl (eV 2) (oS (eC (.int 2))) (oN)))) (sSkip)) (sRet (eN (pSortedA false) (aCons (eLc2 [3, 4] [4] (iX fSeq (eV 2)) (gN 3) (bYes) (iX fSeq (eMeth "Place" "parts" 1 m_Place_parts (eV 0) (aCons (eV 3) (aNil)))) (gN 4) (bYes) (eV 4)) (aNil)))))
def m_Place_leave : FM := fnM 3 S_Place_leave
theorem mt_Place_leave (h : Fs K mg base G) : MG P w K mg base G 3 2 "Place" "leave" [] m_Place_leave := by
  obtain ⟨f, fd, F, g⟩ := h.d_Place_leave
  have sc := sc_Place_leave
  exact ⟨f, fd, ["self", "sizes"], [], dfn F sc rfl fun cdv A outer s H vs E hr => (dss_cons (ds_set (T := []) sc.nd (de_sorted rfl (room_u hr 70) h.b_sorted (da_cons (de_v (pv 1)) da_nil))) (dss_cons (ds_if (T := []) (dt_tru (de_meth ((mt_Place_is_joining h).mono (by decide)).d hr takes_own rfl (de_v (pv 0)) (da_cons (de_v (pv 2)) da_nil))) (dss_one (ds_set (T := []) sc.nd (de_add (de_lst (da_cons (de_add (de_ixA (room_u hr 1) (de_v (pv 2)) de_int) (de_ixA (room_u hr 1) (de_v (pv 2)) de_int)) da_nil)) (de_slice (de_v (pv 2)) (do_some de_int) do_none)))) dss_nil) (dss_one (ds_ret (T := []) (de_sorted rfl (room_u hr 70) h.b_sorted (da_cons (de_lc2 (own := [("size", 3), ("part", 4)]) (vs1 := [4]) rfl sc.nd (by show BlkOk ["self", "sizes", "found", "size", "part"] (defScope st_Place_leave) _ _; exact ⟨rfl, by decide +kernel, by decide +kernel, by decide +kernel, by decide +kernel⟩) (by decide) tg_n (by decide) (by decide) tg_n (di_seq (de_v (pv 2))) (fun s2 H2 L2 cl2 fp2 => (dg_n sc.nd)) (fun s2 H2 L2 cl2 fp2 => dt_yes) (fun s2 H2 L2 cl2 fp2 => (di_seq (de_meth ((mt_Place_parts h).mono (by decide)).d hr tk0 rfl (de_v (pv 0)) (da_cons (de_v (pv 3)) da_nil)))) (fun s2 H2 L2 cl2 fp2 => (dg_n sc.nd)) (fun s2 H2 L2 cl2 fp2 => dt_yes) (fun s2 H2 L2 cl2 fp2 => (de_v (pv 4)))) da_nil)))))), h.cl_Place, g, F.bindsN fun _ _ _ _ _ _ us hl => match us, hl with | [_, _], _ => rfl, .nil⟩
def S_checked_rules : SX := sSeq (sIf (bOr (bNot (bT (eN (pIsi clsN) (aCons (eV 0) (aCons (eC (.ty "dict")) (aNil)))) pTru)) (bT (eBin pEqA (eV 0) (eDct0)) pB)) (sRaise "NoRules") (sSkip)) (sForD 0 fItems (gT 2 (gsCons (gN 1) (gsCons (gN 2) (gsNil)))) (sSeq (sIf (bOr (bNot (bT (eCall 1 m_is_name (aCons (eV 1) (aNil))) pTru)) (bNot (bT (eN (pIsi clsN) (aCons (eV 2) (aCons (eC (.cl "Place")) (aNil)))) pTru))) (sRaise "NoRules") (sSkip)) (sIf (bNot (bT (eN (pBls fun bs => bs.all id) (aCons (eLc [3, 4] (iX fSeq (eUn (pFld "Place" "held_ways") (eV 2))) (gT 2 (gsCons (gN 3) (gsCons (gN 4) (gsNil)))) (bYes) (eBin (pIn false) (eV 4) (eV 0))) (aNil))) pTru)) (sRaise "NoRules") (sSkip))))
def m_checked_rules : FM := fnM 4 S_checked_rules
theorem ok_checked_rules (h : Fs K mg base G) : FG P w K mg base G 2 1 "checked_rules" [] m_checked_rules := by
  obtain ⟨f, fd, F, g⟩ := h.d_checked_rules
  have sc := sc_checked_rules
  exact ⟨f, fd, ["rules"], [], dfn F sc rfl fun cdv A outer s H vs E hr => (dss_cons (ds_if (T := []) (dt_w (dw_or (dt_not (dt_tru (de_isi h.gk h.b_isinstance (da_cons (de_v (pv 0)) (da_cons (de_ty h.b_dict bt_dict) da_nil))))) (dw_or1 (dt_eqA (room_u hr 64) (de_v (pv 0)) de_dct0)))) (dss_one (ds_raise h.x_NoRules.d rfl takes_own)) dss_nil) (dss_one (ds_forD (C := ⟨G, start ["rules", "name", "place", "bound", "there"] vs, fun c d _ H => E c d H⟩) pass_own rfl takes_own (dw_items (pv 0)) fItems_dct (dg_t rfl (dgs_cons (dg_n sc.nd) (dgs_cons (dg_n sc.nd) dgs_nil))) fun W2 tk2 => (dss_cons (ds_if (T := []) (dt_w (dw_or (dt_not (dt_tru (de_callN ((ok_is_name h).mono (by decide)).d hr tk2 rfl (da_cons (de_v (pv 1)) da_nil)))) (dw_or1 (dt_not (dt_tru (de_isi h.gk h.b_isinstance (da_cons (de_v (pv 2)) (da_cons (de_gCls h.k_Place) da_nil)))))))) (dss_one (ds_raise h.x_NoRules.d rfl tk2)) dss_nil) (dss_one (ds_if (T := []) (dt_not (dt_tru (de_all rfl h.b_all (da_cons (de_lc (own := [("bound", 3), ("there", 4)]) rfl sc.nd (by show BlkOk ["rules", "name", "place", "bound", "there"] (defScope st_checked_rules) _ _; exact ⟨rfl, by decide +kernel, by decide +kernel, by decide +kernel, by decide +kernel⟩) (by decide) (tg_t (tgs_cons tg_n (tgs_cons tg_n tgs_nil))) (di_seq (de_fld ⟨h.f_Place_held_ways.1, h.f_Place_held_ways.2⟩ (de_v (pv 2)))) (fun s2 H2 L2 cl2 fp2 => (dg_t rfl (dgs_cons (dg_n sc.nd) (dgs_cons (dg_n sc.nd) dgs_nil)))) (fun s2 H2 L2 cl2 fp2 => dt_yes) (fun s2 H2 L2 cl2 fp2 => (de_in (room_u hr 66) (de_v (pv 4)) (de_v (pv 0))))) da_nil)))) (dss_one (ds_raise h.x_NoRules.d rfl tk2)) dss_nil)))))), g, F.kp, F.bindsN fun _ _ _ _ _ _ us hl => match us, hl with | [_], _ => rfl, .nil⟩
def S_is_band : SX := sSeq (sIf (bOr (bNot (bT (eN (pIsi clsN) (aCons (eV 1) (aCons (eC (.ty "tuple")) (aNil)))) pTru)) (bOr (bT (eBin pNe (eN pLenA (aCons (eV 1) (aNil))) (eC (.int 2))) pB) (bNot (bT (eCall 1 m_is_name (aCons (eBin pIxA (eV 1) (eC (.int 0))) (aNil))) pTru)))) (sRet (eC (.bl false))) (sSkip)) (sRet (eAnd (eBin (pIn false) (eBin pIxA (eV 1) (eC (.int 0))) (eV 0)) (eCall 2 m_is_whole (aCons (eBin pIxA (eV 1) (eC (.int 1))) (aCons (eC (.int 1)) (aNil))))))
def m_is_band : FM := fnM 0 S_is_band
theorem ok_is_band (h : Fs K mg base G) : FG P w K mg base G 2 2 "is_band" [] m_is_band := by
  obtain ⟨f, fd, F, g⟩ := h.d_is_band
  have sc := sc_is_band
  exact ⟨f, fd, ["rules", "thing"], [], dfn F sc rfl fun cdv A outer s H vs E hr => (dss_cons (ds_if (T := []) (dt_w (dw_or (dt_not (dt_tru (de_isi h.gk h.b_isinstance (da_cons (de_v (pv 1)) (da_cons (de_ty h.b_tuple bt_tuple) da_nil))))) (dw_or (dt_ne (room_u hr 64) (de_len h.b_len (da_cons (de_v (pv 1)) da_nil)) de_int) (dw_or1 (dt_not (dt_tru (de_callN ((ok_is_name h).mono (by decide)).d hr takes_own rfl (da_cons (de_ixA (room_u hr 1) (de_v (pv 1)) de_int) da_nil)))))))) (dss_one (ds_ret (T := []) de_bl)) dss_nil) (dss_one (ds_ret (T := []) (de_and (de_in (room_u hr 66) (de_ixA (room_u hr 1) (de_v (pv 1)) de_int) (de_v (pv 0))) (de_and1 (de_callN ((ok_is_whole h).mono (by decide)).d hr takes_own rfl (da_cons (de_ixA (room_u hr 1) (de_v (pv 1)) de_int) (da_cons de_int da_nil)))))))), g, F.kp, F.bindsN fun _ _ _ _ _ _ us hl => match us, hl with | [_, _], _ => rfl, .nil⟩
def S_checked_state : SX := sSeq (sIf (bOr (bNot (bT (eN (pIsi clsN) (aCons (eV 1) (aCons (eC (.ty "list")) (aNil)))) pTru)) (bNot (bT (eN (pBls fun bs => bs.all id) (aCons (eLc [2] (iX fSeq (eV 1)) (gN 2) (bYes) (eCall 2 m_is_band (aCons (eV 0) (aCons (eV 2) (aNil))))) (aNil))) pTru))) (sRaise "NoState") (sSkip)) (sRet (eN pTuple (aCons (eN (pSortedA false) (aCons (eV 1) (aNil))) (aNil))))
def m_checked_state : FM := fnM 1 S_checked_state
theorem ok_checked_state (h : Fs K mg base G) : FG P w K mg base G 3 2 "checked_state" [] m_checked_state := by
  obtain ⟨f, fd, F, g⟩ := h.d_checked_state
  have sc := sc_checked_state
  exact ⟨f, fd, ["rules", "state"], [], dfn F sc rfl fun cdv A outer s H vs E hr => (dss_cons (ds_if (T := []) (dt_w (dw_or (dt_not (dt_tru (de_isi h.gk h.b_isinstance (da_cons (de_v (pv 1)) (da_cons (de_ty h.b_list bt_list) da_nil))))) (dw_or1 (dt_not (dt_tru (de_all rfl h.b_all (da_cons (de_lc (own := [("band", 2)]) rfl sc.nd (by show BlkOk ["rules", "state", "band"] (defScope st_checked_state) _ _; exact ⟨rfl, by decide +kernel, by decide +kernel, by decide +kernel, by decide +kernel⟩) (by decide) tg_n (di_seq (de_v (pv 1))) (fun s2 H2 L2 cl2 fp2 => (dg_n sc.nd)) (fun s2 H2 L2 cl2 fp2 => dt_yes) (fun s2 H2 L2 cl2 fp2 => (de_callN ((ok_is_band h).mono (by decide)).d hr tk0 rfl (da_cons (de_v (pv 0)) (da_cons (de_v (pv 2)) da_nil))))) da_nil))))))) (dss_one (ds_raise h.x_NoState.d rfl takes_own)) dss_nil) (dss_one (ds_ret (T := []) (de_tuple h.b_tuple (da_cons (de_sorted rfl (room_u hr 70) h.b_sorted (da_cons (de_v (pv 1)) da_nil)) da_nil))))), g, F.kp, F.bindsN fun _ _ _ _ _ _ us hl => match us, hl with | [_, _], _ => rfl, .nil⟩
def S_arrived : SX := sArr 0 2 [3] (gN 3) (eV 3) (iX fSeq (eV 1)) (gN 4) (eMeth "Place" "way" 1 m_Place_way (eBin pIxA (eV 0) (eBin pIxA (eV 4) (eC (.int 0)))) (aCons (eBin pIxA (eV 4) (eC (.int 1))) (aNil))) (eSl (eV 4) (oS (eC (.int 1))) (oN))
def m_arrived : FM := fnM 3 S_arrived
theorem ok_arrived (h : Fs K mg base G) : FG P w K mg base G 3 2 "arrived" [] m_arrived := by
  obtain ⟨f, fd, F, g⟩ := h.d_arrived
  have sc := sc_arrived
  exact ⟨f, fd, ["rules", "bands"], [], dfn F sc rfl fun cdv A outer s H vs E hr => (dss_arr (C := ⟨G, start ["rules", "bands", "found", "name", "band"] vs, fun c d _ H => E c d H⟩) (by decide) (by show 2 < List.length ["rules", "bands", "found", "name", "band"]; decide) (ps_arr1 (C := ⟨G, start ["rules", "bands", "found", "name", "band"] vs, fun c d _ H => E c d H⟩) (own := [("name", 3)]) rfl sc.nd takes_own (by rfl) (by show BlkOk ["rules", "bands", "found", "name", "band"] (defScope st_arrived) _ _; exact ⟨rfl, by decide +kernel, by decide +kernel, by decide +kernel, by decide +kernel⟩) (by decide) tg_n (pv 0) (fun s2 H2 L2 cl2 fp2 => (dg_n sc.nd)) (fun s2 H2 L2 cl2 fp2 => (de_v (pv 3)))) (ps_arr2 (C := ⟨G, start ["rules", "bands", "found", "name", "band"] vs, fun c d _ H => E c d H⟩) pass_own rfl (room_u hr 1) (di_seq (de_v (pv 1))) (dg_n sc.nd) (by decide) (pv 2) (de_meth ((mt_Place_way h).mono (by decide)).d hr takes_own rfl (de_ixA (room_u hr 1) (de_v (pv 0)) (de_ixA (room_u hr 1) (de_v (pv 4)) de_int)) (da_cons (de_ixA (room_u hr 1) (de_v (pv 4)) de_int) da_nil)) (de_slice (de_v (pv 4)) (do_some de_int) do_none)) (pv 2)), g, F.kp, F.bindsN fun _ _ _ _ _ _ us hl => match us, hl with | [_, _], _ => rfl, .nil⟩
def S_day_behind : SX := sSeq (sSetO 2 (eLst (aNil))) (sSeq (sFor (iXo fItems (eCall 2 m_arrived (aCons (eV 0) (aCons (eV 1) (aNil))))) (gT 2 (gsCons (gN 3) (gsCons (gN 4) (gsNil)))) (sEx (eMut 2 isLst mExtend (aCons (eLc [5] (iX fSeq (eMeth "Place" "leave" 1 m_Place_leave (eBin pIxA (eV 0) (eV 3)) (aCons (eLc [6] (iX fSeq (eV 4)) (gN 6) (bYes) (eBin pIxA (eV 6) (eC (.int 0)))) (aNil)))) (gN 5) (bYes) (eTup (aCons (eV 3) (aCons (eV 5) (aNil))))) (aNil))))) (sFrz 2 (sRet (eN pTuple (aCons (eN (pSortedA false) (aCons (eV 2) (aNil))) (aNil))))))
def m_day_behind : FM := fnM 5 S_day_behind
theorem ok_day_behind (h : Fs K mg base G) : FG P w K mg base G 4 2 "day_behind" [] m_day_behind := by
  obtain ⟨f, fd, F, g⟩ := h.d_day_behind
  have sc := sc_day_behind
  exact ⟨f, fd, ["rules", "state"], [], dfn F sc rfl fun cdv A outer s H vs E hr => (dss_cons (ds_setO (T := [2]) sc.nd (de_lst da_nil)) (dss_cons (ds_for (T := [2]) pass_own rfl (di_itemsE (de_callN ((ok_arrived h).mono (by decide)).d hr takes_own rfl (da_cons (de_v (pv 0)) (da_cons (de_v (pv 1)) da_nil)))) (dg_t rfl (dgs_cons (dg_n sc.nd) (dgs_cons (dg_n sc.nd) dgs_nil))) (dss_one (ds_ex (T := [2]) (de_extend (by decide) (pv 2) (da_cons (de_lc (own := [("size", 5)]) rfl sc.nd (by show BlkOk ["rules", "state", "found", "name", "bands", "size", "band"] (defScope st_day_behind) _ _; exact ⟨rfl, by decide +kernel, by decide +kernel, by decide +kernel, by decide +kernel⟩) (by decide) tg_n (di_seq (de_meth ((mt_Place_leave h).mono (by decide)).d hr takes_own rfl (de_ixA (room_u hr 1) (de_v (pv 0)) (de_v (pv 3))) (da_cons (de_lc (own := [("band", 6)]) rfl sc.nd (by show BlkOk ["rules", "state", "found", "name", "bands", "size", "band"] (defScope st_day_behind) _ _; exact ⟨rfl, by decide +kernel, by decide +kernel, by decide +kernel, by decide +kernel⟩) (by decide) tg_n (di_seq (de_v (pv 4))) (fun s2 H2 L2 cl2 fp2 => (dg_n sc.nd)) (fun s2 H2 L2 cl2 fp2 => dt_yes) (fun s2 H2 L2 cl2 fp2 => (de_ixA (room_u hr 1) (de_v (pv 6)) de_int))) da_nil))) (fun s2 H2 L2 cl2 fp2 => (dg_n sc.nd)) (fun s2 H2 L2 cl2 fp2 => dt_yes) (fun s2 H2 L2 cl2 fp2 => (de_tup (da_cons (de_v (pv 3)) (da_cons (de_v (pv 5)) da_nil))))) da_nil))))) (dss_frz (dss_one (ds_ret (T := [2]) (de_tuple h.b_tuple (da_cons (de_sorted rfl (room_u hr 70) h.b_sorted (da_cons (de_v (pv 2)) da_nil)) da_nil))))))), g, F.kp, F.bindsN fun _ _ _ _ _ _ us hl => match us, hl with | [_, _], _ => rfl, .nil⟩
def S_next_day : SX := sSeq (sEx (eCall 1 m_checked_rules (aCons (eV 0) (aNil)))) (sRet (eN pList (aCons (eCall 2 m_day_behind (aCons (eV 0) (aCons (eCall 2 m_checked_state (aCons (eV 0) (aCons (eV 1) (aNil)))) (aNil)))) (aNil))))
def m_next_day : FM := fnM 0 S_next_day
theorem ok_next_day (h : Fs K mg base G) : FG P w K mg base G 5 2 "next_day" [] m_next_day := by
  obtain ⟨f, fd, F, g⟩ := h.d_next_day
  have sc := sc_next_day
  exact ⟨f, fd, ["rules", "state"], [], dfn F sc rfl fun cdv A outer s H vs E hr => (dss_cons (ds_ex (T := []) (de_callN ((ok_checked_rules h).mono (by decide)).d hr takes_own rfl (da_cons (de_v (pv 0)) da_nil))) (dss_one (ds_ret (T := []) (de_list h.b_list (da_cons (de_callN ((ok_day_behind h).mono (by decide)).d hr takes_own rfl (da_cons (de_v (pv 0)) (da_cons (de_callN ((ok_checked_state h).mono (by decide)).d hr takes_own rfl (da_cons (de_v (pv 0)) (da_cons (de_v (pv 1)) da_nil))) da_nil))) da_nil))))), g, F.kp, F.bindsN fun _ _ _ _ _ _ us hl => match us, hl with | [_, _], _ => rfl, .nil⟩
def S__law_cell_at : SX := sSeq (sIf (bT (eBin pLt (eV 1) (eN pLenA (aCons (eV 0) (aNil)))) pB) (sRet (eBin pIxA (eV 0) (eV 1))) (sSkip)) (sRet (eC (.int 0)))
def m__law_cell_at : FM := fnM 0 S__law_cell_at
theorem ok__law_cell_at (h : Fs K mg base G) : FG P w K mg base G 1 2 "_law_cell_at" [] m__law_cell_at := by
  obtain ⟨f, fd, F, g⟩ := h.d__law_cell_at
  have sc := sc__law_cell_at
  exact ⟨f, fd, ["_law_script", "_law_k"], [], dfn F sc rfl fun cdv A outer s H vs E hr => (dss_cons (ds_if (T := []) (dt_lt (de_v (pv 1)) (de_len h.b_len (da_cons (de_v (pv 0)) da_nil))) (dss_one (ds_ret (T := []) (de_ixA (room_u hr 1) (de_v (pv 0)) (de_v (pv 1))))) dss_nil) (dss_one (ds_ret (T := []) de_int))), g, F.kp, F.bindsN fun _ _ _ _ _ _ us hl => match us, hl with | [_, _], _ => rfl, .nil⟩
def S__law_mixed : SX := sSeq (sSet 2 (eBin pAdd (eBin pMod (eV 0) (eC (.int 2147483629))) (eBin pMul (eBin pFdiv (eV 0) (eC (.int 2147483629))) (eC (.int 30011))))) (sSeq (sSet 2 (eBin pMod (eBin pMul (eBin pAdd (eBin pAdd (eV 2) (eBin pMul (eC (.int 69621)) (eV 1))) (eC (.int 1))) (eC (.int 48271))) (eC (.int 2147483629)))) (sSeq (sSet 2 (eBin pMod (eBin pMul (eV 2) (eBin pAdd (eBin pAdd (eBin pFdiv (eV 2) (eC (.int 907))) (eC (.int 16831))) (eV 1))) (eC (.int 2147483587)))) (sRet (eBin pMod (eBin pMul (eV 2) (eBin pAdd (eBin pFdiv (eV 2) (eC (.int 1201))) (eC (.int 30011)))) (eC (.int 2147483563))))))
def m__law_mixed : FM := fnM 1 S__law_mixed
theorem ok__law_mixed (h : Fs K mg base G) : FG P w K mg base G 1 2 "_law_mixed" [] m__law_mixed := by
  obtain ⟨f, fd, F, g⟩ := h.d__law_mixed
  have sc := sc__law_mixed
  exact ⟨f, fd, ["_law_cell", "_law_k"], [], dfn F sc rfl fun cdv A outer s H vs E hr => (dss_cons (ds_set (T := []) sc.nd (de_add (de_mod (de_v (pv 0)) de_int) (de_mul (de_fdiv (de_v (pv 0)) de_int) de_int))) (dss_cons (ds_set (T := []) sc.nd (de_mod (de_mul (de_add (de_add (de_v (pv 2)) (de_mul de_int (de_v (pv 1)))) de_int) de_int) de_int)) (dss_cons (ds_set (T := []) sc.nd (de_mod (de_mul (de_v (pv 2)) (de_add (de_add (de_fdiv (de_v (pv 2)) de_int) de_int) (de_v (pv 1)))) de_int)) (dss_one (ds_ret (T := []) (de_mod (de_mul (de_v (pv 2)) (de_add (de_fdiv (de_v (pv 2)) de_int) de_int)) de_int)))))), g, F.kp, F.bindsN fun _ _ _ _ _ _ us hl => match us, hl with | [_, _], _ => rfl, .nil⟩
def S__law_source : SX := sSeq (sIf (bT (eBin pLt (eV 1) (eN pLenA (aCons (eV 0) (aNil)))) pB) (sRet (eLst (aCons (eBin pIxA (eV 0) (eV 1)) (aCons (eBin pIxA (eV 0) (eV 1)) (aCons (eC (.int 0)) (aNil)))))) (sSkip)) (sSeq (sSet 2 (eCall 2 m__law_mixed (aCons (eCall 2 m__law_cell_at (aCons (eV 0) (aCons (eC (.int 0)) (aNil)))) (aCons (eBin pAdd (eC (.int 1000)) (eV 1)) (aNil))))) (sRet (eLst (aCons (eV 2) (aCons (eV 2) (aCons (eC (.int 0)) (aNil)))))))
def m__law_source : FM := fnM 1 S__law_source
theorem ok__law_source (h : Fs K mg base G) : FG P w K mg base G 2 2 "_law_source" [] m__law_source := by
  obtain ⟨f, fd, F, g⟩ := h.d__law_source
  have sc := sc__law_source
  exact ⟨f, fd, ["_law_script", "_law_k"], [], dfn F sc rfl fun cdv A outer s H vs E hr => (dss_cons (ds_if (T := []) (dt_lt (de_v (pv 1)) (de_len h.b_len (da_cons (de_v (pv 0)) da_nil))) (dss_one (ds_ret (T := []) (de_lst (da_cons (de_ixA (room_u hr 1) (de_v (pv 0)) (de_v (pv 1))) (da_cons (de_ixA (room_u hr 1) (de_v (pv 0)) (de_v (pv 1))) (da_cons de_int da_nil)))))) dss_nil) (dss_cons (ds_set (T := []) sc.nd (de_callN ((ok__law_mixed h).mono (by decide)).d hr takes_own rfl (da_cons (de_callN ((ok__law_cell_at h).mono (by decide)).d hr takes_own rfl (da_cons (de_v (pv 0)) (da_cons de_int da_nil))) (da_cons (de_add de_int (de_v (pv 1))) da_nil)))) (dss_one (ds_ret (T := []) (de_lst (da_cons (de_v (pv 2)) (da_cons (de_v (pv 2)) (da_cons de_int da_nil)))))))), g, F.kp, F.bindsN fun _ _ _ _ _ _ us hl => match us, hl with | [_, _], _ => rfl, .nil⟩
def S__law_next : SX := sSeq (sIf (bBor 0 (bT (eBin pGe (eBin pIxA (eV 0) (eC (.int 0))) (eBin pPow (eC (.int 10)) (eC (.int 18)))) pB)) (sSeq (sSet 2 (eBor 0 (eBin pMod (eBin pIxA (eV 0) (eC (.int 0))) (eV 1)))) (sSeq (sPutL 0 (eC (.int 0)) (eBor 0 (eBin pFdiv (eBin pIxA (eV 0) (eC (.int 0))) (eV 1)))) (sRet (eV 2)))) (sSkip)) (sSeq (sPutL 0 (eC (.int 2)) (eBor 0 (eBin pAdd (eBin pIxA (eV 0) (eC (.int 2))) (eC (.int 1))))) (sRet (eBor 0 (eBin pMod (eCall 2 m__law_mixed (aCons (eBin pIxA (eV 0) (eC (.int 1))) (aCons (eBin pIxA (eV 0) (eC (.int 2))) (aNil)))) (eV 1)))))
def m__law_next : FM := fnM 1 S__law_next
theorem ok__law_next (h : Fs K mg base G) : FG P w K mg base G 2 2 "_law_next" [] m__law_next := by
  obtain ⟨f, fd, F, g⟩ := h.d__law_next
  have sc := sc__law_next
  exact ⟨f, fd, ["_law_source_here", "_law_many"], [], dfn F sc rfl fun cdv A outer s H vs E hr => (dss_cons (ds_if (T := [0]) (dt_bor (dt_ge (de_ixA (room_u hr 1) (de_v (pv 0)) de_int) (de_pow de_int de_int))) (dss_cons (ds_set (T := [0]) sc.nd (de_bor (de_mod (de_ixA (room_u hr 1) (de_v (pv 0)) de_int) (de_v (pv 1))))) (dss_cons (ds_putL (T := [0]) (pv 0) de_int (de_bor (de_fdiv (de_ixA (room_u hr 1) (de_v (pv 0)) de_int) (de_v (pv 1))))) (dss_one (ds_ret (T := [0]) (de_v (pv 2)))))) dss_nil) (dss_cons (ds_putL (T := [0]) (pv 0) de_int (de_bor (de_add (de_ixA (room_u hr 1) (de_v (pv 0)) de_int) de_int))) (dss_one (ds_ret (T := [0]) (de_bor (de_mod (de_callN ((ok__law_mixed h).mono (by decide)).d hr takes_own rfl (da_cons (de_ixA (room_u hr 1) (de_v (pv 0)) de_int) (da_cons (de_ixA (room_u hr 1) (de_v (pv 0)) de_int) da_nil))) (de_v (pv 1)))))))), g, F.kp, F.bindsN fun _ _ _ _ _ _ us hl => match us, hl with | [_, _], _ => rfl, .nil⟩
def S__law_names : SX := sSeq (sSet 2 (eCallR [some 0, none] 1 m__law_next (aCons (eC (.int 11)) (aNil)))) (sSeq (sSet 3 (eLst (aCons (eC (.str "a")) (aCons (eC (.str "b")) (aCons (eC (.str "bank")) (aCons (eC (.str "z")) (aCons (eC (.str "ford")) (aCons (eC (.str "ab")) (aCons (eC (.str "hillside")) (aCons (eC (.str "m")) (aCons (eC (.str "cc")) (aCons (eC (.str "dale")) (aCons (eC (.str "y")) (aNil)))))))))))))) (sRet (eSl (eBin pAdd (eSl (eV 3) (oS (eV 2)) (oN)) (eSl (eV 3) (oN) (oS (eV 2)))) (oN) (oS (eV 1)))))
def m__law_names : FM := fnM 2 S__law_names
theorem ok__law_names (h : Fs K mg base G) : FG P w K mg base G 3 2 "_law_names" [] m__law_names := by
  obtain ⟨f, fd, F, g⟩ := h.d__law_names
  have sc := sc__law_names
  exact ⟨f, fd, ["_law_source_here", "_law_many"], [], dfn F sc rfl fun cdv A outer s H vs E hr => (dss_cons (ds_set (T := [0]) sc.nd (de_callR ((ok__law_next h).mono (by decide)).d hr takes_own rfl (by decide) (by simp) (dar_ref (pv 0) (dar_val de_int dar_nil)))) (dss_cons (ds_set (T := [0]) sc.nd (de_lst (da_cons de_str (da_cons de_str (da_cons de_str (da_cons de_str (da_cons de_str (da_cons de_str (da_cons de_str (da_cons de_str (da_cons de_str (da_cons de_str (da_cons de_str da_nil))))))))))))) (dss_one (ds_ret (T := [0]) (de_slice (de_add (de_slice (de_v (pv 3)) (do_some (de_v (pv 2))) do_none) (de_slice (de_v (pv 3)) do_none (do_some (de_v (pv 2))))) do_none (do_some (de_v (pv 1)))))))), g, F.kp, F.bindsN fun _ _ _ _ _ _ us hl => match us, hl with | [_, _], _ => rfl, .nil⟩
def S__law_place : SX := sSeq (sSetO 3 (eLst (aNil))) (sSeq (sSet 4 (eC (.int 0))) (sSeq (sFor (iXs fRng1 (aCons (eCallR [some 0, none] 1 m__law_next (aCons (eBin pIxA (eLst (aCons (eC (.int 3)) (aCons (eC (.int 3)) (aCons (eC (.int 3)) (aCons (eC (.int 7)) (aNil)))))) (eCallR [some 0, none] 1 m__law_next (aCons (eC (.int 4)) (aNil)))) (aNil))) (aNil))) (gN 5) (sSeq (sSet 4 (eBin pAdd (eBin pAdd (eV 4) (eC (.int 1))) (eCallR [some 0, none] 1 m__law_next (aCons (eC (.int 3)) (aNil))))) (sEx (eMut 3 isLst mAppend (aCons (eTup (aCons (eV 4) (aCons (eBin pIxA (eV 1) (eCallR [some 0, none] 1 m__law_next (aCons (eN pLenA (aCons (eV 1) (aNil))) (aNil)))) (aNil)))) (aNil)))))) (sSeq (sEx (eMut 3 isLst mAppend (aCons (eTup (aCons (eC .non) (aCons (eBin pIxA (eV 1) (eCallR [some 0, none] 1 m__law_next (aCons (eN pLenA (aCons (eV 1) (aNil))) (aNil)))) (aNil)))) (aNil)))) (sSeq (sSet 6 (eBin pIxA (eLst (aCons (eC (.int 0)) (aCons (eC (.int 1)) (aCons (eC (.int 2)) (aCons (eCallR [some 0, none] 1 m__law_next (aCons (eBin pAdd (eV 2) (eC (.int 1))) (aNil))) (aNil)))))) (eCallR [some 0, none] 1 m__law_next (aCons (eC (.int 4)) (aNil))))) (sSeq (sSet 7 (eBin pIxA (eLst (aCons (eC .non) (aCons (eC (.int 1)) (aCons (eC (.int 2)) (aCons (eC (.int 3)) (aCons (eBin pAdd (eC (.int 1)) (eCallR [some 0, none] 1 m__law_next (aCons (eV 2) (aNil)))) (aNil))))))) (eCallR [some 0, none] 1 m__law_next (aCons (eC (.int 5)) (aNil))))) (sSeq (sSet 8 (eC .non)) (sSeq (sIf (bAnd (bT (eBin pNotN (eV 7) (eC .non)) pB) (bT (eBin pEqA (eCallR [some 0, none] 1 m__law_next (aCons (eC (.int 3)) (aNil))) (eC (.int 0))) pB)) (sSet 8 (eBin pAdd (eC (.int 1)) (eCallR [some 0, none] 1 m__law_next (aCons (eV 7) (aNil))))) (sSkip)) (sFrz 3 (sRet (eTup (aCons (eV 3) (aCons (eV 6) (aCons (eV 7) (aCons (eV 8) (aNil)))))))))))))))
def m__law_place : FM := fnM 6 S__law_place
theorem ok__law_place (h : Fs K mg base G) : FG P w K mg base G 3 3 "_law_place" [] m__law_place := by
  obtain ⟨f, fd, F, g⟩ := h.d__law_place
  have sc := sc__law_place
  exact ⟨f, fd, ["_law_source_here", "_law_names_here", "_law_top"], [], dfn F sc rfl fun cdv A outer s H vs E hr => (dss_cons (ds_setO (T := [0, 3]) sc.nd (de_lst da_nil)) (dss_cons (ds_set (T := [0, 3]) sc.nd de_int) (dss_cons (ds_for (T := [0, 3]) pass_own rfl (di_range1 h.b_range (da_cons (de_callR ((ok__law_next h).mono (by decide)).d hr takes_own rfl (by decide) (by simp) (dar_ref (pv 0) (dar_val (de_ixA (room_u hr 1) (de_lst (da_cons de_int (da_cons de_int (da_cons de_int (da_cons de_int da_nil))))) (de_callR ((ok__law_next h).mono (by decide)).d hr takes_own rfl (by decide) (by simp) (dar_ref (pv 0) (dar_val de_int dar_nil)))) dar_nil))) da_nil)) (dg_n sc.nd) (dss_cons (ds_set (T := [0, 3]) sc.nd (de_add (de_add (de_v (pv 4)) de_int) (de_callR ((ok__law_next h).mono (by decide)).d hr takes_own rfl (by decide) (by simp) (dar_ref (pv 0) (dar_val de_int dar_nil))))) (dss_one (ds_ex (T := [0, 3]) (de_append (by decide) (pv 3) (da_cons (de_tup (da_cons (de_v (pv 4)) (da_cons (de_ixA (room_u hr 1) (de_v (pv 1)) (de_callR ((ok__law_next h).mono (by decide)).d hr takes_own rfl (by decide) (by simp) (dar_ref (pv 0) (dar_val (de_len h.b_len (da_cons (de_v (pv 1)) da_nil)) dar_nil)))) da_nil))) da_nil)))))) (dss_cons (ds_ex (T := [0, 3]) (de_append (by decide) (pv 3) (da_cons (de_tup (da_cons de_non (da_cons (de_ixA (room_u hr 1) (de_v (pv 1)) (de_callR ((ok__law_next h).mono (by decide)).d hr takes_own rfl (by decide) (by simp) (dar_ref (pv 0) (dar_val (de_len h.b_len (da_cons (de_v (pv 1)) da_nil)) dar_nil)))) da_nil))) da_nil))) (dss_cons (ds_set (T := [0, 3]) sc.nd (de_ixA (room_u hr 1) (de_lst (da_cons de_int (da_cons de_int (da_cons de_int (da_cons (de_callR ((ok__law_next h).mono (by decide)).d hr takes_own rfl (by decide) (by simp) (dar_ref (pv 0) (dar_val (de_add (de_v (pv 2)) de_int) dar_nil))) da_nil))))) (de_callR ((ok__law_next h).mono (by decide)).d hr takes_own rfl (by decide) (by simp) (dar_ref (pv 0) (dar_val de_int dar_nil))))) (dss_cons (ds_set (T := [0, 3]) sc.nd (de_ixA (room_u hr 1) (de_lst (da_cons de_non (da_cons de_int (da_cons de_int (da_cons de_int (da_cons (de_add de_int (de_callR ((ok__law_next h).mono (by decide)).d hr takes_own rfl (by decide) (by simp) (dar_ref (pv 0) (dar_val (de_v (pv 2)) dar_nil)))) da_nil)))))) (de_callR ((ok__law_next h).mono (by decide)).d hr takes_own rfl (by decide) (by simp) (dar_ref (pv 0) (dar_val de_int dar_nil))))) (dss_cons (ds_set (T := [0, 3]) sc.nd de_non) (dss_cons (ds_if (T := [0, 3]) (dt_w (dw_and (dt_isnot (de_v (pv 7)) de_non) (dw_and1 (dt_eqA (room_u hr 64) (de_callR ((ok__law_next h).mono (by decide)).d hr takes_own rfl (by decide) (by simp) (dar_ref (pv 0) (dar_val de_int dar_nil))) de_int)))) (dss_one (ds_set (T := [0, 3]) sc.nd (de_add de_int (de_callR ((ok__law_next h).mono (by decide)).d hr takes_own rfl (by decide) (by simp) (dar_ref (pv 0) (dar_val (de_v (pv 7)) dar_nil)))))) dss_nil) (dss_frz (dss_one (ds_ret (T := [0, 3]) (de_tup (da_cons (de_v (pv 3)) (da_cons (de_v (pv 6)) (da_cons (de_v (pv 7)) (da_cons (de_v (pv 8)) da_nil)))))))))))))))), g, F.kp, F.bindsN fun _ _ _ _ _ _ us hl => match us, hl with | [_, _, _], _ => rfl, .nil⟩
def S__law_model : SX := sSeq (sSet 3 (eCallR [some 0, none] 1 m__law_names (aCons (eV 1) (aNil)))) (sSeq (sSetO 4 (eN pDict (aCons (eLc [5] (iX fSeq (eV 3)) (gN 5) (bYes) (eTup (aCons (eV 5) (aCons (eCallR [some 0, none, none] 2 m__law_place (aCons (eV 3) (aCons (eV 2) (aNil)))) (aNil))))) (aNil)))) (sSeq (sIf (bT (eBin pEqA (eCallR [some 0, none] 1 m__law_next (aCons (eC (.int 4)) (aNil))) (eC (.int 0))) pB) (sPutD 4 (eBin pIxA (eV 3) (eUn pNeg (eC (.int 1)))) (eGetO 4 (eBin pIxA (eV 3) (eC (.int 0))))) (sSkip)) (sRetO 4)))
def m__law_model : FM := fnM 3 S__law_model
theorem ok__law_model (h : Fs K mg base G) : FG P w K mg base G 4 3 "_law_model" [] m__law_model := by
  obtain ⟨f, fd, F, g⟩ := h.d__law_model
  have sc := sc__law_model
  exact ⟨f, fd, ["_law_source_here", "_law_many", "_law_top"], [], dfn F sc rfl fun cdv A outer s H vs E hr => (dss_cons (ds_set (T := [0, 4]) sc.nd (de_callR ((ok__law_names h).mono (by decide)).d hr takes_own rfl (by decide) (by simp) (dar_ref (pv 0) (dar_val (de_v (pv 1)) dar_nil)))) (dss_cons (ds_setO (T := [0, 4]) sc.nd (de_dict rfl h.b_dict (da_cons (de_lc (own := [("_law_name", 5)]) rfl sc.nd (by show BlkOk ["_law_source_here", "_law_many", "_law_top", "_law_names_here", "_law_found", "_law_name"] (defScope st__law_model) _ _; exact ⟨rfl, by decide +kernel, by decide +kernel, by decide +kernel, by decide +kernel⟩) (by decide) tg_n (di_seq (de_v (pv 3))) (fun s2 H2 L2 cl2 fp2 => (dg_n sc.nd)) (fun s2 H2 L2 cl2 fp2 => dt_yes) (fun s2 H2 L2 cl2 fp2 => (de_tup (da_cons (de_v (pv 5)) (da_cons (de_callR ((ok__law_place h).mono (by decide)).d hr tk0 rfl (by decide) (by simp) (dar_ref (pv 0) (dar_val (de_v (pv 3)) (dar_val (de_v (pv 2)) dar_nil)))) da_nil))))) da_nil))) (dss_cons (ds_if (T := [0, 4]) (dt_eqA (room_u hr 64) (de_callR ((ok__law_next h).mono (by decide)).d hr takes_own rfl (by decide) (by simp) (dar_ref (pv 0) (dar_val de_int dar_nil))) de_int) (dss_one (ds_putD (T := [0, 4]) (room_u hr 1) (pv 4) (de_ixA (room_u hr 1) (de_v (pv 3)) (de_neg de_int)) (de_getO (room_u hr 1) (pv 4) (de_ixA (room_u hr 1) (de_v (pv 3)) de_int)))) dss_nil) (dss_one (ds_retO (pv 4)))))), g, F.kp, F.bindsN fun _ _ _ _ _ _ us hl => match us, hl with | [_, _, _], _ => rfl, .nil⟩
def S__law_made : SX := sSeq (sSetO 1 (eDct0)) (sSeq (sSetO 2 (eDct0)) (sSeq (sForD 0 fItems (gT 2 (gsCons (gN 3) (gsCons (gN 4) (gsNil)))) (sSeq (sIf (bBor 2 (bT (eBin (pIn true) (eN pStr (aCons (eV 4) (aNil))) (eV 2)) pB)) (sPutD 2 (eN pStr (aCons (eV 4) (aNil))) (eMake "Place" 1 3 gp_mk_Place_0 m_Place___init__ (aCons (eN pList (aCons (eBin pIxA (eV 4) (eC (.int 0))) (aNil))) (aNil)) (aCons (eBin pIxA (eV 4) (eC (.int 1))) (aCons (eBin pIxA (eV 4) (eC (.int 2))) (aCons (eBin pIxA (eV 4) (eC (.int 3))) (aNil)))))) (sSkip)) (sPutD 1 (eV 3) (eGetO 2 (eN pStr (aCons (eV 4) (aNil))))))) (sRetO 1)))
def m__law_made : FM := fnM 4 S__law_made
theorem ok__law_made (h : Fs K mg base G) : FBG P w K mg base G 6 1 "_law_made" [] m__law_made := by
  obtain ⟨f, fd, F, g⟩ := h.d__law_made
  have sc := sc__law_made
  exact ⟨f, fd, ["_law_model_here"], [], dfnB F sc rfl fun cdv A outer s H vs E hr gd => (dss_cons (ds_setO (T := [1, 2]) sc.nd de_dct0) (dss_cons (ds_setO (T := [1, 2]) sc.nd de_dct0) (dss_cons (ds_forD (C := ⟨G, start ["_law_model_here", "_law_found", "_law_made_here", "_law_name", "_law_told"] vs, fun c d _ H => E c d H⟩) pass_own rfl takes_own (dw_items (pv 0)) fItems_dct (dg_t rfl (dgs_cons (dg_n sc.nd) (dgs_cons (dg_n sc.nd) dgs_nil))) fun W2 tk2 => (dss_cons (ds_if (T := [1, 2]) (dt_bor (dt_notIn (room_u hr 66) (de_strf gd (room_u hr 70) h.b_str (da_cons (de_v (pv 4)) da_nil)) (de_v (pv 2)))) (dss_one (ds_putD (T := [1, 2]) (room_u hr 1) (pv 2) (de_strf gd (room_u hr 70) h.b_str (da_cons (de_v (pv 4)) da_nil)) (de_make (ks := ["few", "most", "cut"]) (k := 4) ((mk_Place_0 h).mono (by decide)).d (hr.mono (by decide)) tk2 (da_cons (de_list h.b_list (da_cons (de_ixA (room_u hr 1) (de_v (pv 4)) de_int) da_nil)) da_nil) (dk_cons (de_ixA (room_u hr 1) (de_v (pv 4)) de_int) (dk_cons (de_ixA (room_u hr 1) (de_v (pv 4)) de_int) (dk_cons (de_ixA (room_u hr 1) (de_v (pv 4)) de_int) dk_nil)))))) dss_nil) (dss_one (ds_putD (T := [1, 2]) (room_u hr 1) (pv 1) (de_v (pv 3)) (de_getO (room_u hr 1) (pv 2) (de_strf gd (room_u hr 70) h.b_str (da_cons (de_v (pv 4)) da_nil))))))) (dss_one (ds_retO (pv 1)))))), g, F.kp, F.bindsN fun _ _ _ _ _ _ us hl => match us, hl with | [_], _ => rfl, .nil⟩
def S__law_no_ways : SX := sSeq (sSetO 1 (eLst (aCons (eLst (aNil)) (aCons (eC .non) (aCons (eC (.str "a")) (aCons (eTup (aCons (eTup (aCons (eC .non) (aCons (eC (.str "a")) (aNil)))) (aNil))) (aCons (eLst (aCons (eTup (aCons (eC .non) (aCons (eC (.str "a")) (aNil)))) (aCons (eTup (aCons (eC .non) (aCons (eC (.str "a")) (aNil)))) (aNil)))) (aCons (eLst (aCons (eTup (aCons (eC (.int 1)) (aCons (eC (.str "a")) (aNil)))) (aNil))) (aCons (eDct0) (aNil)))))))))) (sSeq (sFrz 1 (sSetO 1 (eBin pAdd (eV 1) (eLst (aCons (eLst (aCons (eTup (aCons (eC (.int 2)) (aCons (eC (.str "a")) (aNil)))) (aCons (eTup (aCons (eC (.int 1)) (aCons (eC (.str "a")) (aNil)))) (aCons (eTup (aCons (eC .non) (aCons (eC (.str "a")) (aNil)))) (aNil))))) (aCons (eLst (aCons (eTup (aCons (eC (.int 1)) (aCons (eC (.str "a")) (aNil)))) (aCons (eTup (aCons (eC (.int 1)) (aCons (eC (.str "b")) (aNil)))) (aCons (eTup (aCons (eC .non) (aCons (eC (.str "a")) (aNil)))) (aNil))))) (aCons (eLst (aCons (eTup (aCons (eC (.int 0)) (aCons (eC (.str "a")) (aNil)))) (aCons (eTup (aCons (eC .non) (aCons (eC (.str "a")) (aNil)))) (aNil)))) (aNil)))))))) (sSeq (sFrz 1 (sSetO 1 (eBin pAdd (eV 1) (eLst (aCons (eLst (aCons (eTup (aCons (eC .non) (aCons (eC (.str "A")) (aNil)))) (aNil))) (aCons (eLst (aCons (eTup (aCons (eC .non) (aCons (eC (.str "")) (aNil)))) (aNil))) (aCons (eLst (aCons (eLst (aCons (eC .non) (aCons (eC (.str "a")) (aNil)))) (aNil))) (aCons (eLst (aCons (eTup (aCons (eC .non) (aCons (eC (.str "a")) (aCons (eC (.int 1)) (aNil))))) (aNil))) (aCons (eLst (aCons (eTup (aCons (eC (.bl true)) (aCons (eC (.str "a")) (aNil)))) (aCons (eTup (aCons (eC .non) (aCons (eC (.str "a")) (aNil)))) (aNil)))) (aNil)))))))))) (sSeq (sFrz 1 (sSetO 1 (eBin pAdd (eV 1) (eLst (aCons (eLst (aCons (eTup (aCons (eC .non) (aCons (eC (.int 5)) (aNil)))) (aNil))) (aCons (eLst (aCons (eTup (aCons (eC .non) (aCons (eC (.str "ninesigns")) (aNil)))) (aNil))) (aCons (eLst (aCons (eTup (aCons (eUn pNeg (eC (.int 1))) (aCons (eC (.str "a")) (aNil)))) (aCons (eTup (aCons (eC .non) (aCons (eC (.str "a")) (aNil)))) (aNil)))) (aCons (eLst (aCons (eTup (aCons (eC .non) (aCons (eC (.str "a1")) (aNil)))) (aNil))) (aCons (eLst (aCons (eTup (aCons (eC .non) (aCons (eC (.str "aB")) (aNil)))) (aNil))) (aNil)))))))))) (sSeq (sEx (eMut 1 isLst mAppend (aCons (eLst (aCons (eTup (aCons (eC .non) (aCons (eC (.str "1")) (aNil)))) (aNil))) (aNil)))) (sFrz 1 (sRet (eBin pIxA (eV 1) (eCallR [some 0, none] 1 m__law_next (aCons (eC (.int 21)) (aNil))))))))))
def m__law_no_ways : FM := fnM 1 S__law_no_ways
theorem ok__law_no_ways (h : Fs K mg base G) : FG P w K mg base G 3 1 "_law_no_ways" [] m__law_no_ways := by
  obtain ⟨f, fd, F, g⟩ := h.d__law_no_ways
  have sc := sc__law_no_ways
  exact ⟨f, fd, ["_law_source_here"], [], dfn F sc rfl fun cdv A outer s H vs E hr => (dss_cons (ds_setO (T := [0, 1]) sc.nd (de_lst (da_cons (de_lst da_nil) (da_cons de_non (da_cons de_str (da_cons (de_tup (da_cons (de_tup (da_cons de_non (da_cons de_str da_nil))) da_nil)) (da_cons (de_lst (da_cons (de_tup (da_cons de_non (da_cons de_str da_nil))) (da_cons (de_tup (da_cons de_non (da_cons de_str da_nil))) da_nil))) (da_cons (de_lst (da_cons (de_tup (da_cons de_int (da_cons de_str da_nil))) da_nil)) (da_cons de_dct0 da_nil))))))))) (dss_cons (ds_frz (ds_setO (T := [0, 1]) sc.nd (de_add (de_v (pv 1)) (de_lst (da_cons (de_lst (da_cons (de_tup (da_cons de_int (da_cons de_str da_nil))) (da_cons (de_tup (da_cons de_int (da_cons de_str da_nil))) (da_cons (de_tup (da_cons de_non (da_cons de_str da_nil))) da_nil)))) (da_cons (de_lst (da_cons (de_tup (da_cons de_int (da_cons de_str da_nil))) (da_cons (de_tup (da_cons de_int (da_cons de_str da_nil))) (da_cons (de_tup (da_cons de_non (da_cons de_str da_nil))) da_nil)))) (da_cons (de_lst (da_cons (de_tup (da_cons de_int (da_cons de_str da_nil))) (da_cons (de_tup (da_cons de_non (da_cons de_str da_nil))) da_nil))) da_nil))))))) (dss_cons (ds_frz (ds_setO (T := [0, 1]) sc.nd (de_add (de_v (pv 1)) (de_lst (da_cons (de_lst (da_cons (de_tup (da_cons de_non (da_cons de_str da_nil))) da_nil)) (da_cons (de_lst (da_cons (de_tup (da_cons de_non (da_cons de_str da_nil))) da_nil)) (da_cons (de_lst (da_cons (de_lst (da_cons de_non (da_cons de_str da_nil))) da_nil)) (da_cons (de_lst (da_cons (de_tup (da_cons de_non (da_cons de_str (da_cons de_int da_nil)))) da_nil)) (da_cons (de_lst (da_cons (de_tup (da_cons de_bl (da_cons de_str da_nil))) (da_cons (de_tup (da_cons de_non (da_cons de_str da_nil))) da_nil))) da_nil))))))))) (dss_cons (ds_frz (ds_setO (T := [0, 1]) sc.nd (de_add (de_v (pv 1)) (de_lst (da_cons (de_lst (da_cons (de_tup (da_cons de_non (da_cons de_int da_nil))) da_nil)) (da_cons (de_lst (da_cons (de_tup (da_cons de_non (da_cons de_str da_nil))) da_nil)) (da_cons (de_lst (da_cons (de_tup (da_cons (de_neg de_int) (da_cons de_str da_nil))) (da_cons (de_tup (da_cons de_non (da_cons de_str da_nil))) da_nil))) (da_cons (de_lst (da_cons (de_tup (da_cons de_non (da_cons de_str da_nil))) da_nil)) (da_cons (de_lst (da_cons (de_tup (da_cons de_non (da_cons de_str da_nil))) da_nil)) da_nil))))))))) (dss_cons (ds_ex (T := [0, 1]) (de_append (by decide) (pv 1) (da_cons (de_lst (da_cons (de_tup (da_cons de_non (da_cons de_str da_nil))) da_nil)) da_nil))) (dss_frz (dss_one (ds_ret (T := [0, 1]) (de_ixA (room_u hr 1) (de_v (pv 1)) (de_callR ((ok__law_next h).mono (by decide)).d hr takes_own rfl (by decide) (by simp) (dar_ref (pv 0) (dar_val de_int dar_nil)))))))))))), g, F.kp, F.bindsN fun _ _ _ _ _ _ us hl => match us, hl with | [_], _ => rfl, .nil⟩
def S__law_word : SX := sSeq (sTry 6 4 (qx "BandError") (sEx (eMake "Place" 1 3 gp_mk_Place_0 m_Place___init__ (aCons (eV 0) (aNil)) (aCons (eV 1) (aCons (eV 2) (aCons (eV 3) (aNil)))))) (fun kx => sSeq (sSet 5 (eLst (aCons (eIsE 4 (isaT kx "NoPlace")) (aCons (eIsE 4 (isaT kx "NoRules")) (aCons (eIsE 4 (isaT kx "NoState")) (aNil)))))) (sRet (eBin pIxA (eLst (aCons (eC (.str "other")) (aCons (eC (.str "place")) (aNil)))) (eN pInt (aCons (eBin pEqA (eV 5) (eLst (aCons (eC (.bl true)) (aCons (eC (.bl false)) (aCons (eC (.bl false)) (aNil)))))) (aNil))))))) (sRet (eC (.str "made")))
def m__law_word : FM := fnM 2 S__law_word
theorem ok__law_word (h : Fs K mg base G) : FG P w K mg base G 6 4 "_law_word" [] m__law_word := by
  obtain ⟨f, fd, F, g⟩ := h.d__law_word
  have sc := sc__law_word
  exact ⟨f, fd, ["_law_ways", "_law_least", "_law_greatest", "_law_part"], [], dfn F sc rfl fun cdv A outer s H vs E hr => (dss_cons (ds_try (i := 4) (m := 6) (q := qx "BandError") (S := fun kx => sSeq (sSet 5 (eLst (aCons (eIsE 4 (isaT kx "NoPlace")) (aCons (eIsE 4 (isaT kx "NoRules")) (aCons (eIsE 4 (isaT kx "NoState")) (aNil)))))) (sRet (eBin pIxA (eLst (aCons (eC (.str "other")) (aCons (eC (.str "place")) (aNil)))) (eN pInt (aCons (eBin pEqA (eV 5) (eLst (aCons (eC (.bl true)) (aCons (eC (.bl false)) (aCons (eC (.bl false)) (aNil)))))) (aNil)))))) rfl rfl sc.nd rfl rfl rfl ⟨rfl, by decide, .inl h.x_BandError.g⟩ takes_own (fun k b e => qx_em h (by decide) e) (fun W1 pn1 xe1 tkT psT => (dss_one (ds_ex (T := []) (de_make (ks := ["few", "most", "cut"]) (k := 4) ((mk_Place_0 h).mono (by decide)).d (hr.mono (by decide)) tkT (da_cons (de_v (pv 0)) da_nil) (dk_cons (de_v (pv 1)) (dk_cons (de_v (pv 2)) (dk_cons (de_v (pv 3)) dk_nil))))))) (fun kx a1 oe1 pn1 hqk hz1 hf1 => (dss_cons (ds_set (T := []) sc.nd (de_lst (da_cons (de_isE (call_isE (h.ev kx (qx_in hqk)).1 hz1 hf1) eG_e h.b_isinstance h.x_NoPlace.g (kit_at h (qx_in hqk) (by decide)) (pv 4)) (da_cons (de_isE (call_isE (h.ev kx (qx_in hqk)).1 hz1 hf1) eG_e h.b_isinstance h.x_NoRules.g (kit_at h (qx_in hqk) (by decide)) (pv 4)) (da_cons (de_isE (call_isE (h.ev kx (qx_in hqk)).1 hz1 hf1) eG_e h.b_isinstance h.x_NoState.g (kit_at h (qx_in hqk) (by decide)) (pv 4)) da_nil))))) (dss_one (ds_ret (T := []) (de_ixA (room_s hr 1) (de_lst (da_cons de_str (da_cons de_str da_nil))) (de_intc h.b_int (da_cons (de_eqA (room_s hr 64) (de_v (pv 5)) (de_lst (da_cons de_bl (da_cons de_bl (da_cons de_bl da_nil))))) da_nil)))))))) (dss_one (ds_ret (T := []) de_str))), g, F.kp, F.bindsN fun _ _ _ _ _ _ us hl => match us, hl with | [_, _, _, _], _ => rfl, .nil⟩
def S__law_way_word : SX := sSeq (sTry 4 2 (qx "BandError") (sEx (eMeth "Place" "way" 1 m_Place_way (eV 0) (aCons (eV 1) (aNil)))) (fun kx => sSeq (sSet 3 (eLst (aCons (eIsE 2 (isaT kx "NoState")) (aCons (eIsE 2 (isaT kx "NoPlace")) (aCons (eIsE 2 (isaT kx "NoRules")) (aNil)))))) (sRet (eBin pIxA (eLst (aCons (eC (.str "other")) (aCons (eC (.str "state")) (aNil)))) (eN pInt (aCons (eBin pEqA (eV 3) (eLst (aCons (eC (.bl true)) (aCons (eC (.bl false)) (aCons (eC (.bl false)) (aNil)))))) (aNil))))))) (sRet (eC (.str "told")))
def m__law_way_word : FM := fnM 2 S__law_way_word
theorem ok__law_way_word (h : Fs K mg base G) : FG P w K mg base G 3 2 "_law_way_word" [] m__law_way_word := by
  obtain ⟨f, fd, F, g⟩ := h.d__law_way_word
  have sc := sc__law_way_word
  exact ⟨f, fd, ["_law_place_here", "_law_size"], [], dfn F sc rfl fun cdv A outer s H vs E hr => (dss_cons (ds_try (i := 2) (m := 4) (q := qx "BandError") (S := fun kx => sSeq (sSet 3 (eLst (aCons (eIsE 2 (isaT kx "NoState")) (aCons (eIsE 2 (isaT kx "NoPlace")) (aCons (eIsE 2 (isaT kx "NoRules")) (aNil)))))) (sRet (eBin pIxA (eLst (aCons (eC (.str "other")) (aCons (eC (.str "state")) (aNil)))) (eN pInt (aCons (eBin pEqA (eV 3) (eLst (aCons (eC (.bl true)) (aCons (eC (.bl false)) (aCons (eC (.bl false)) (aNil)))))) (aNil)))))) rfl rfl sc.nd rfl rfl rfl ⟨rfl, by decide, .inl h.x_BandError.g⟩ takes_own (fun k b e => qx_em h (by decide) e) (fun W1 pn1 xe1 tkT psT => (dss_one (ds_ex (T := []) (de_meth ((mt_Place_way h).mono (by decide)).d hr tkT rfl (de_v (pv 0)) (da_cons (de_v (pv 1)) da_nil))))) (fun kx a1 oe1 pn1 hqk hz1 hf1 => (dss_cons (ds_set (T := []) sc.nd (de_lst (da_cons (de_isE (call_isE (h.ev kx (qx_in hqk)).1 hz1 hf1) eG_e h.b_isinstance h.x_NoState.g (kit_at h (qx_in hqk) (by decide)) (pv 2)) (da_cons (de_isE (call_isE (h.ev kx (qx_in hqk)).1 hz1 hf1) eG_e h.b_isinstance h.x_NoPlace.g (kit_at h (qx_in hqk) (by decide)) (pv 2)) (da_cons (de_isE (call_isE (h.ev kx (qx_in hqk)).1 hz1 hf1) eG_e h.b_isinstance h.x_NoRules.g (kit_at h (qx_in hqk) (by decide)) (pv 2)) da_nil))))) (dss_one (ds_ret (T := []) (de_ixA (room_s hr 1) (de_lst (da_cons de_str (da_cons de_str da_nil))) (de_intc h.b_int (da_cons (de_eqA (room_s hr 64) (de_v (pv 3)) (de_lst (da_cons de_bl (da_cons de_bl (da_cons de_bl da_nil))))) da_nil)))))))) (dss_one (ds_ret (T := []) de_str))), g, F.kp, F.bindsN fun _ _ _ _ _ _ us hl => match us, hl with | [_, _], _ => rfl, .nil⟩
def S__law_rules_word : SX := sSeq (sTry 3 1 (qx "BandError") (sEx (eCall 2 m_next_day (aCons (eV 0) (aCons (eLst (aNil)) (aNil))))) (fun kx => sSeq (sSet 2 (eLst (aCons (eIsE 1 (isaT kx "NoRules")) (aCons (eIsE 1 (isaT kx "NoPlace")) (aCons (eIsE 1 (isaT kx "NoState")) (aNil)))))) (sRet (eBin pIxA (eLst (aCons (eC (.str "other")) (aCons (eC (.str "rules")) (aNil)))) (eN pInt (aCons (eBin pEqA (eV 2) (eLst (aCons (eC (.bl true)) (aCons (eC (.bl false)) (aCons (eC (.bl false)) (aNil)))))) (aNil))))))) (sRet (eC (.str "told")))
def m__law_rules_word : FM := fnM 2 S__law_rules_word
theorem ok__law_rules_word (h : Fs K mg base G) : FG P w K mg base G 6 1 "_law_rules_word" [] m__law_rules_word := by
  obtain ⟨f, fd, F, g⟩ := h.d__law_rules_word
  have sc := sc__law_rules_word
  exact ⟨f, fd, ["_law_rules"], [], dfn F sc rfl fun cdv A outer s H vs E hr => (dss_cons (ds_try (i := 1) (m := 3) (q := qx "BandError") (S := fun kx => sSeq (sSet 2 (eLst (aCons (eIsE 1 (isaT kx "NoRules")) (aCons (eIsE 1 (isaT kx "NoPlace")) (aCons (eIsE 1 (isaT kx "NoState")) (aNil)))))) (sRet (eBin pIxA (eLst (aCons (eC (.str "other")) (aCons (eC (.str "rules")) (aNil)))) (eN pInt (aCons (eBin pEqA (eV 2) (eLst (aCons (eC (.bl true)) (aCons (eC (.bl false)) (aCons (eC (.bl false)) (aNil)))))) (aNil)))))) rfl rfl sc.nd rfl rfl rfl ⟨rfl, by decide, .inl h.x_BandError.g⟩ takes_own (fun k b e => qx_em h (by decide) e) (fun W1 pn1 xe1 tkT psT => (dss_one (ds_ex (T := []) (de_callN ((ok_next_day h).mono (by decide)).d hr tkT rfl (da_cons (de_v (pv 0)) (da_cons (de_lst da_nil) da_nil)))))) (fun kx a1 oe1 pn1 hqk hz1 hf1 => (dss_cons (ds_set (T := []) sc.nd (de_lst (da_cons (de_isE (call_isE (h.ev kx (qx_in hqk)).1 hz1 hf1) eG_e h.b_isinstance h.x_NoRules.g (kit_at h (qx_in hqk) (by decide)) (pv 1)) (da_cons (de_isE (call_isE (h.ev kx (qx_in hqk)).1 hz1 hf1) eG_e h.b_isinstance h.x_NoPlace.g (kit_at h (qx_in hqk) (by decide)) (pv 1)) (da_cons (de_isE (call_isE (h.ev kx (qx_in hqk)).1 hz1 hf1) eG_e h.b_isinstance h.x_NoState.g (kit_at h (qx_in hqk) (by decide)) (pv 1)) da_nil))))) (dss_one (ds_ret (T := []) (de_ixA (room_s hr 1) (de_lst (da_cons de_str (da_cons de_str da_nil))) (de_intc h.b_int (da_cons (de_eqA (room_s hr 64) (de_v (pv 2)) (de_lst (da_cons de_bl (da_cons de_bl (da_cons de_bl da_nil))))) da_nil)))))))) (dss_one (ds_ret (T := []) de_str))), g, F.kp, F.bindsN fun _ _ _ _ _ _ us hl => match us, hl with | [_], _ => rfl, .nil⟩
def S_law : SX := sSeq (sFor (iXs fRng1 (aCons (eN pMax (aCons (eC (.int 1)) (aCons (eN pMin (aCons (eC (.int 10)) (aCons (eN pLenA (aCons (eV 0) (aNil))) (aNil)))) (aNil)))) (aNil))) (gN 1) (sSeq (sSetO 2 (eCall 2 m__law_source (aCons (eV 0) (aCons (eV 1) (aNil))))) (sSeq (sSet 3 (eCallR [some 2, none, none] 2 m__law_model (aCons (eC (.int 3)) (aCons (eC (.int 6)) (aNil))))) (sSeq (sSet 4 (eBin pIxA (eN (pSortedA false) (aCons (eV 3) (aNil))) (eCallR [some 2, none] 1 m__law_next (aCons (eC (.int 3)) (aNil))))) (sSeq (sAsg (eBin pIxA (eV 3) (eV 4)) (gT 4 (gsCons (gN 5) (gsCons (gN 6) (gsCons (gN 7) (gsCons (gN 8) (gsNil))))))) (sSeq (sSet 9 (eBin pIxA (eLst (aCons (eUn pNeg (eC (.int 1))) (aCons (eC .non) (aCons (eC (.str "1")) (aCons (eC (.bl true)) (aCons (eLst (aCons (eC (.int 1)) (aNil))) (aCons (eTup (aCons (eC (.int 1)) (aNil))) (aNil)))))))) (eCallR [some 2, none] 1 m__law_next (aCons (eC (.int 6)) (aNil))))) (sSeq (sSet 10 (eBin pIxA (eLst (aCons (eC (.int 0)) (aCons (eUn pNeg (eC (.int 1))) (aCons (eC (.str "3")) (aCons (eC (.bl true)) (aCons (eLst (aCons (eC (.int 3)) (aNil))) (aCons (eC (.bl false)) (aNil)))))))) (eCallR [some 2, none] 1 m__law_next (aCons (eC (.int 6)) (aNil))))) (sSeq (sSet 11 (eBin pIxA (eLst (aCons (eC (.int 0)) (aCons (eUn pNeg (eC (.int 1))) (aCons (eC (.str "1")) (aCons (eC (.bl true)) (aCons (eLst (aCons (eC (.int 1)) (aNil))) (aCons (eBin pAdd (eOr (eV 7) (eC (.int 0))) (eC (.int 1))) (aNil)))))))) (eCallR [some 2, none] 1 m__law_next (aCons (eC (.int 6)) (aNil))))) (sSeq (sSet 12 (eLst (aCons (eCall 4 m__law_word (aCons (eV 5) (aCons (eV 6) (aCons (eV 7) (aCons (eV 8) (aNil)))))) (aCons (eCall 4 m__law_word (aCons (eCallR [some 2] 0 m__law_no_ways (aNil)) (aCons (eV 6) (aCons (eV 7) (aCons (eV 8) (aNil)))))) (aNil))))) (sSeq (sSet 12 (eBin pAdd (eV 12) (eLst (aCons (eCall 4 m__law_word (aCons (eV 5) (aCons (eV 9) (aCons (eV 7) (aCons (eV 8) (aNil)))))) (aCons (eCall 4 m__law_word (aCons (eV 5) (aCons (eV 6) (aCons (eV 10) (aCons (eC .non) (aNil)))))) (aNil)))))) (sSeq (sSet 12 (eBin pAdd (eV 12) (eLst (aCons (eCall 4 m__law_word (aCons (eV 5) (aCons (eV 6) (aCons (eV 7) (aCons (eV 11) (aNil)))))) (aCons (eCall 4 m__law_word (aCons (eV 5) (aCons (eV 6) (aCons (eC .non) (aCons (eC (.int 1)) (aNil)))))) (aNil)))))) (sSeq (sIf (bT (eBin pNe (eV 12) (eBin pAdd (eLst (aCons (eC (.str "made")) (aNil))) (eBin pMul (eLst (aCons (eC (.str "place")) (aNil))) (eC (.int 5))))) pB) (sRet (eC (.bl false))) (sSkip)) (sSeq (sSet 13 (eCall 1 m__law_made (aCons (eV 3) (aNil)))) (sSeq (sSet 14 (eLst (aCons (eC (.int 0)) (aCons (eUn pNeg (eC (.int 1))) (aCons (eC (.bl true)) (aCons (eC (.bl false)) (aCons (eC .non) (aCons (eC (.str "1")) (aCons (eTup (aCons (eC (.int 1)) (aNil))) (aCons (eLst (aCons (eC (.int 1)) (aNil))) (aCons (eUn pNeg (eBin pPow (eC (.int 10)) (eC (.int 12)))) (aNil)))))))))))) (sSeq (sIf (bT (eBin pNe (eLc [16] (iX fSeq (eV 14)) (gN 16) (bYes) (eCall 2 m__law_way_word (aCons (eBin pIxA (eV 13) (eV 4)) (aCons (eV 16) (aNil))))) (eBin pMul (eLst (aCons (eC (.str "state")) (aNil))) (eC (.int 9)))) pB) (sRet (eC (.bl false))) (sSkip)) (sSeq (sSetO 15 (eLst (aCons (eC .non) (aCons (eDct0) (aCons (eLst (aCons (eV 13) (aNil))) (aCons (eC (.str "a")) (aCons (eC (.int 5)) (aCons (eDisp [(eC (.str "a"), eC (.int 5))]) (aCons (eDisp [(eC (.str "A"), eBin pIxA (eV 13) (eV 4))]) (aCons (eDisp [(eC (.str "ninesigns"), eBin pIxA (eV 13) (eV 4))]) (aCons (eDisp [(eC (.int 5), eBin pIxA (eV 13) (eV 4))]) (aNil)))))))))))) (sSeq (sFrz 15 (sSetO 15 (eBin pAdd (eV 15) (eLst (aCons (eDisp [(eC (.str "qq"), eBin pIxA (eV 13) (eV 4))]) (aCons (eDisp [(eC (.str "a1"), eBin pIxA (eV 13) (eV 4))]) (aCons (eDisp [(eC (.str "a"), eBin pIxA (eV 3) (eV 4))]) (aCons (eDisp [(eC (.str "q"), eC .non)]) (aCons (eC (.bl true)) (aNil)))))))))) (sSeq (sEx (eMut 15 isLst mAppend (aCons (eDisp [(eC (.str "q"), eMake "Place" 1 0 gp_mk_Place_1 m_Place___init__ (aCons (eLst (aCons (eTup (aCons (eC (.int 3)) (aCons (eC (.str "a")) (aNil)))) (aCons (eTup (aCons (eC .non) (aCons (eC (.str "q")) (aNil)))) (aNil)))) (aNil)) (aNil))]) (aNil)))) (sIf (bOr (bT (eBin pNe (eCall 1 m__law_rules_word (aCons (eIxO 15 (eCallR [some 2, none] 1 m__law_next (aCons (eC (.int 15)) (aNil)))) (aNil))) (eC (.str "rules"))) pB) (bT (eBin pNe (eCall 1 m__law_rules_word (aCons (eV 13) (aNil))) (eC (.str "told"))) pB)) (sRet (eC (.bl false))) (sSkip)))))))))))))))))))) (sRet (eC (.bl true)))
def m_law : FM := fnM 16 S_law
theorem okx_law (h : Fs K mg base G) {f : Addr} {fd : FuncData} (F : FunD K "law" "law" (defArgs st_law) (defBody st_law) (defScope st_law) [] [] f fd) : FnB P w K mg base (L2.CX P w) 7 f fd ["_law_script"] (spF G 1 m_law) := by
  have sc := sc_law
  exact dfnB F sc rfl fun cdv A outer s H vs E hr gd => (dss_cons (ds_for (T := [2, 15]) pass_own rfl (di_range1 h.b_range (da_cons (de_max rfl h.b_max (da_cons de_int (da_cons (de_min rfl h.b_min (da_cons de_int (da_cons (de_len h.b_len (da_cons (de_v (pv 0)) da_nil)) da_nil))) da_nil))) da_nil)) (dg_n sc.nd) (dss_cons (ds_setO (T := [2, 15]) sc.nd (de_callN ((ok__law_source h).mono (by decide)).d hr takes_own rfl (da_cons (de_v (pv 0)) (da_cons (de_v (pv 1)) da_nil)))) (dss_cons (ds_set (T := [2, 15]) sc.nd (de_callR ((ok__law_model h).mono (by decide)).d hr takes_own rfl (by decide) (by simp) (dar_ref (pv 2) (dar_val de_int (dar_val de_int dar_nil))))) (dss_cons (ds_set (T := [2, 15]) sc.nd (de_ixA (room_u hr 1) (de_sorted rfl (room_u hr 70) h.b_sorted (da_cons (de_v (pv 3)) da_nil)) (de_callR ((ok__law_next h).mono (by decide)).d hr takes_own rfl (by decide) (by simp) (dar_ref (pv 2) (dar_val de_int dar_nil))))) (dss_cons (ds_asg (T := [2, 15]) (de_ixA (room_u hr 1) (de_v (pv 3)) (de_v (pv 4))) (dg_t rfl (dgs_cons (dg_n sc.nd) (dgs_cons (dg_n sc.nd) (dgs_cons (dg_n sc.nd) (dgs_cons (dg_n sc.nd) dgs_nil)))))) (dss_cons (ds_set (T := [2, 15]) sc.nd (de_ixA (room_u hr 1) (de_lst (da_cons (de_neg de_int) (da_cons de_non (da_cons de_str (da_cons de_bl (da_cons (de_lst (da_cons de_int da_nil)) (da_cons (de_tup (da_cons de_int da_nil)) da_nil))))))) (de_callR ((ok__law_next h).mono (by decide)).d hr takes_own rfl (by decide) (by simp) (dar_ref (pv 2) (dar_val de_int dar_nil))))) (dss_cons (ds_set (T := [2, 15]) sc.nd (de_ixA (room_u hr 1) (de_lst (da_cons de_int (da_cons (de_neg de_int) (da_cons de_str (da_cons de_bl (da_cons (de_lst (da_cons de_int da_nil)) (da_cons de_bl da_nil))))))) (de_callR ((ok__law_next h).mono (by decide)).d hr takes_own rfl (by decide) (by simp) (dar_ref (pv 2) (dar_val de_int dar_nil))))) (dss_cons (ds_set (T := [2, 15]) sc.nd (de_ixA (room_u hr 1) (de_lst (da_cons de_int (da_cons (de_neg de_int) (da_cons de_str (da_cons de_bl (da_cons (de_lst (da_cons de_int da_nil)) (da_cons (de_add (de_or (de_v (pv 7)) (de_or1 de_int)) de_int) da_nil))))))) (de_callR ((ok__law_next h).mono (by decide)).d hr takes_own rfl (by decide) (by simp) (dar_ref (pv 2) (dar_val de_int dar_nil))))) (dss_cons (ds_set (T := [2, 15]) sc.nd (de_lst (da_cons (de_callN ((ok__law_word h).mono (by decide)).d hr takes_own rfl (da_cons (de_v (pv 5)) (da_cons (de_v (pv 6)) (da_cons (de_v (pv 7)) (da_cons (de_v (pv 8)) da_nil))))) (da_cons (de_callN ((ok__law_word h).mono (by decide)).d hr takes_own rfl (da_cons (de_callR ((ok__law_no_ways h).mono (by decide)).d hr takes_own rfl (by decide) (by simp) (dar_ref (pv 2) dar_nil)) (da_cons (de_v (pv 6)) (da_cons (de_v (pv 7)) (da_cons (de_v (pv 8)) da_nil))))) da_nil)))) (dss_cons (ds_set (T := [2, 15]) sc.nd (de_add (de_v (pv 12)) (de_lst (da_cons (de_callN ((ok__law_word h).mono (by decide)).d hr takes_own rfl (da_cons (de_v (pv 5)) (da_cons (de_v (pv 9)) (da_cons (de_v (pv 7)) (da_cons (de_v (pv 8)) da_nil))))) (da_cons (de_callN ((ok__law_word h).mono (by decide)).d hr takes_own rfl (da_cons (de_v (pv 5)) (da_cons (de_v (pv 6)) (da_cons (de_v (pv 10)) (da_cons de_non da_nil))))) da_nil))))) (dss_cons (ds_set (T := [2, 15]) sc.nd (de_add (de_v (pv 12)) (de_lst (da_cons (de_callN ((ok__law_word h).mono (by decide)).d hr takes_own rfl (da_cons (de_v (pv 5)) (da_cons (de_v (pv 6)) (da_cons (de_v (pv 7)) (da_cons (de_v (pv 11)) da_nil))))) (da_cons (de_callN ((ok__law_word h).mono (by decide)).d hr takes_own rfl (da_cons (de_v (pv 5)) (da_cons (de_v (pv 6)) (da_cons de_non (da_cons de_int da_nil))))) da_nil))))) (dss_cons (ds_if (T := [2, 15]) (dt_ne (room_u hr 64) (de_v (pv 12)) (de_add (de_lst (da_cons de_str da_nil)) (de_mul (de_lst (da_cons de_str da_nil)) de_int))) (dss_one (ds_ret (T := [2, 15]) de_bl)) dss_nil) (dss_cons (ds_set (T := [2, 15]) sc.nd (de_callB ((ok__law_made h).mono (by decide)) gd hr takes_own rfl (da_cons (de_v (pv 3)) da_nil))) (dss_cons (ds_set (T := [2, 15]) sc.nd (de_lst (da_cons de_int (da_cons (de_neg de_int) (da_cons de_bl (da_cons de_bl (da_cons de_non (da_cons de_str (da_cons (de_tup (da_cons de_int da_nil)) (da_cons (de_lst (da_cons de_int da_nil)) (da_cons (de_neg (de_pow de_int de_int)) da_nil))))))))))) (dss_cons (ds_if (T := [2, 15]) (dt_ne (room_u hr 64) (de_lc (own := [("_law_size", 16)]) rfl sc.nd (by show BlkOk ["_law_script", "_law_k", "_law_source_here", "_law_model_here", "_law_name", "_law_ways", "_law_least", "_law_greatest", "_law_part", "_law_odd", "_law_no_most", "_law_no_cut", "_law_words", "_law_rules", "_law_sizes", "_law_bad", "_law_size"] (defScope st_law) _ _; exact ⟨rfl, by decide +kernel, by decide +kernel, by decide +kernel, by decide +kernel⟩) (by decide) tg_n (di_seq (de_v (pv 14))) (fun s2 H2 L2 cl2 fp2 => (dg_n sc.nd)) (fun s2 H2 L2 cl2 fp2 => dt_yes) (fun s2 H2 L2 cl2 fp2 => (de_callN ((ok__law_way_word h).mono (by decide)).d hr tk0 rfl (da_cons (de_ixA (room_u hr 1) (de_v (pv 13)) (de_v (pv 4))) (da_cons (de_v (pv 16)) da_nil))))) (de_mul (de_lst (da_cons de_str da_nil)) de_int)) (dss_one (ds_ret (T := [2, 15]) de_bl)) dss_nil) (dss_cons (ds_setO (T := [2, 15]) sc.nd (de_lst (da_cons de_non (da_cons de_dct0 (da_cons (de_lst (da_cons (de_v (pv 13)) da_nil)) (da_cons de_str (da_cons de_int (da_cons (de_disp (dps_cons de_str de_int dps_nil)) (da_cons (de_disp (dps_cons de_str (de_ixA (room_u hr 1) (de_v (pv 13)) (de_v (pv 4))) dps_nil)) (da_cons (de_disp (dps_cons de_str (de_ixA (room_u hr 1) (de_v (pv 13)) (de_v (pv 4))) dps_nil)) (da_cons (de_disp (dps_cons de_int (de_ixA (room_u hr 1) (de_v (pv 13)) (de_v (pv 4))) dps_nil)) da_nil))))))))))) (dss_cons (ds_frz (ds_setO (T := [2, 15]) sc.nd (de_add (de_v (pv 15)) (de_lst (da_cons (de_disp (dps_cons de_str (de_ixA (room_u hr 1) (de_v (pv 13)) (de_v (pv 4))) dps_nil)) (da_cons (de_disp (dps_cons de_str (de_ixA (room_u hr 1) (de_v (pv 13)) (de_v (pv 4))) dps_nil)) (da_cons (de_disp (dps_cons de_str (de_ixA (room_u hr 1) (de_v (pv 3)) (de_v (pv 4))) dps_nil)) (da_cons (de_disp (dps_cons de_str de_non dps_nil)) (da_cons de_bl da_nil))))))))) (dss_cons (ds_ex (T := [2, 15]) (de_append (by decide) (pv 15) (da_cons (de_disp (dps_cons de_str (de_make (ks := []) (k := 4) ((mk_Place_1 h).mono (by decide)).d (hr.mono (by decide)) takes_own (da_cons (de_lst (da_cons (de_tup (da_cons de_int (da_cons de_str da_nil))) (da_cons (de_tup (da_cons de_non (da_cons de_str da_nil))) da_nil))) da_nil) dk_nil) dps_nil)) da_nil))) (dss_one (ds_if (T := [2, 15]) (dt_w (dw_or (dt_ne (room_u hr 64) (de_callN ((ok__law_rules_word h).mono (by decide)).d hr takes_own rfl (da_cons (de_ixO (pv 15) (de_callR ((ok__law_next h).mono (by decide)).d hr takes_own rfl (by decide) (by simp) (dar_ref (pv 2) (dar_val de_int dar_nil)))) da_nil)) de_str) (dw_or1 (dt_ne (room_u hr 64) (de_callN ((ok__law_rules_word h).mono (by decide)).d hr takes_own rfl (da_cons (de_v (pv 13)) da_nil)) de_str)))) (dss_one (ds_ret (T := [2, 15]) de_bl)) dss_nil)))))))))))))))))))) (dss_one (ds_ret (T := [2, 15]) de_bl)))
end
end LW

set_option maxRecDepth 100000
set_option maxHeartbeats 1000000
namespace LW
open PySem PySem.Spec L2 BF
open PyProof.Rows hiding St
set_option autoImplicit false
open PE (enc)
local macro_rules
  | `(tactic| push_cast [$ts,*]) => `(tactic| simp -dsimp only [$ts,*, fnM_run, wp_ok, wp_exc, wp_stuck, w2_ok, w2_exc, w2_stuck, wp_bind, w2_bind, wp_noX, w2_noX, vat0, vatS, own0, prm0, ownS, own0', ownS', putS0, putSS, roOwn, roPrm, frz0, frzS, kill0, killS, set0, setS, pv_prm, pv_val, pv_own, w_eC, w_eV, w_eBin, w_eUn, w_aNil, w_aCons, w_eTup, w_eLst, w_eN, w_bT, w_bNot, w_bYes, cond2_t, cond2_f, cond2_not, cond2_d, w_bAnd, w_bOr, w_eIf, w_eAnd, w_eOr, w_eNot, chain_b, w_eChain, w_oN, intK_int, w_oS, w_eSl, w_eDct0, w_eBor, w_bBor, w_eMut, ownK_own, w_eMutT, lstK_li, w_eIxO, dctK_dk, getR_some, w_eGetO, w_eCall, w_eMeth, mkK_own, w_eMake, w_eCallR, w_iX, w_iXs, w_iXo, allOwn0, allOwnN, allOwnS, isOwn0, isPrm0, isOwnS, slotO0, slotP0, slotOS, argS0, argSN, argSS, putB0, putBN, putBO, toPo, toPv, backNil, backO, backVal, seqK_nx, seqK_rt, seqK_bk, seqK_ct, w_sSkip, w_sBrk, w_sCnt, w_sSeq, w_sEx, w_sRet, w_sRetN, w_sRaise, w_sRetO, w_sIf, w_sSet, w_sSetO, w_sFrz, w_sPutL, w_sPutD, w_sPutF, w_sFor, w_sForD, w_sAsg, w_sStar, w_tgt, tupK_t, w_gN, w_gT, w_gsNil, w_gsCons, endK_rt, endK_nx, w_fnM, turnK_nx, turnK_ct, turnK_bk, turnK_rt, w_eLc, w_eLc2, lcK_eq, insF_eq, o_pAdd, o_pSub, o_pMod, o_pFdiv, o_pPow, o_pMul, o_pLt, o_pLe, o_pGt, o_pGe, o_pNeg, o_isN_non, o_isN_int, o_isN_str, o_isN_tup, o_isN_lst, o_isN_ins, o_isN_opt, o_isnt, isNon_non, isNon_int, isNon_str, isNon_opt, o_pB, o_tru_bl, o_tru_int, o_tru_lst, o_tru_tup, o_tru_non, o_len_lst, o_len_tup, o_len_scr, o_len_dct, o_list_lst, o_list_tup, o_tuple_lst, o_tuple_tup, o_addL, o_addT, o_ix_lst, o_ix_tup, o_ix_scr, o_ix_dctS, o_ix_dctI, o_in_dctS, o_pAt, atI_0, atI_1, atI_2, atI_3, atI_4, o_eqII, o_eqSS, o_neII, o_neSS, o_eq_dct0, o_max2, o_min2, o_rng1, o_fSeq_lst, o_fSeq_tup, o_fSeq_scr, keyOf_int, keyOf_str, o_isLst, o_isDct, o_append, o_extend, o_slL, o_slT, fld_hit, Int.cast_ofNat_Int, castZ0, castZ1, Int.reduceEq, Int.reduceLT, decide_true, decide_false, Option.isSome_map,  Option.isNone_none, Option.isNone_some,  o_fSeq_str, o_in_sign, o_len_str, o_allB, o_anyB, o_sumI, sdct_len, sdct_look, sdct_items, sdct_keys, sdct_vals, sdct_isEmpty, isi_non_int, isi_non_bool, isi_non_str, isi_non_tuple, isi_non_list, isi_non_dict, isi_bl_int, isi_bl_bool, isi_bl_str, isi_bl_tuple, isi_bl_list, isi_bl_dict, isi_int_int, isi_int_bool, isi_int_str, isi_int_tuple, isi_int_list, isi_int_dict, isi_str_int, isi_str_bool, isi_str_str, isi_str_tuple, isi_str_list, isi_str_dict, isi_tup_int, isi_tup_bool, isi_tup_str, isi_tup_tuple, isi_tup_list, isi_tup_dict, isi_lst_int, isi_lst_bool, isi_lst_str, isi_lst_tuple, isi_lst_list, isi_lst_dict, isi_scr_int, isi_scr_bool, isi_scr_str, isi_scr_tuple, isi_scr_list, isi_scr_dict, isi_dct_int, isi_dct_bool, isi_dct_str, isi_dct_tuple, isi_dct_list, isi_dct_dict,  lset0, lset1, lset2, noOwn0, noOwnS, nvS, nvV, nvD, flat_int, flat_bl, flat_str, flat_non, Bool.and_true, Bool.true_and, Bool.and_self, List.map_cons, List.map_nil, List.replicate_succ, List.replicate_zero, List.cons_append, List.nil_append, List.append_nil, List.length_cons, List.length_nil, Bool.not_true, Bool.not_false, Bool.false_eq_true, if_true, if_false, true_and, and_true, ite_true, ite_false, reduceIte, not_true_eq_false, not_false_eq_true, true_implies, false_implies, implies_true, sl_true, List.set_nil, Nat.reduceAdd, Nat.reduceLeDiff, Nat.reduceLT, Int.reduceLT, Int.reduceLE, Int.reduceAbs, Int.reduceToNat, Int.reducePow, Nat.reducePow, Nat.reduceEqDiff, lgS, cmulXr, cmulXl, List.length_map,  Nat.zero_add])
local macro_rules
  | `(tactic| norm_cast0) => `(tactic| push_cast [wp_ok])
def smallZ : Str := "abcdefghijklmnopqrstuvwxyz"
def isNameB (z : Str) : Bool := decide ((1 : Int) ≤ z.length) && decide ((z.length : Int) ≤ 8) && z.cps.toList.all fun c => decide (c ∈ smallZ.cps.toList)
theorem e_is_name (z : Str) (h : z.length ≤ sizeLine) : m_is_name [.val (.str z)] = .ok (.val (.bl (isNameB z)), [.val (.str z)]) := by
  apply W2.eq
  unfold m_is_name S_is_name
  have hz : z.cps.toList.length ≤ sizeLine := by simpa [Str.length] using h
  push_cast [h]
  refine ⟨fun h1 => ⟨fun h2 => ?_, fun h2 => ?_⟩, fun h1 => ?_⟩
  · refine w_comp0 (fun c => .bl (decide (c ∈ smallZ.cps.toList))) _ (fun _ _ => rfl) (fun _ _ => rfl) (fun c hc => ?_) hz fun ρ' hm => ?_
    · norm_cast0
      rfl
    · push_cast [hm]
      simp only [isNameB, h1, h2, decide_true, Bool.and_self, Bool.true_and]
  · simp only [isNameB, h1, h2, decide_true, decide_false, Bool.and_false, Bool.false_and]
  · simp only [isNameB, h1, decide_false, Bool.false_and]
theorem e_is_whole (i n : Int) : m_is_whole [.val (.int i), .val (.int n)] = .ok (.val (.bl (decide (n ≤ i))), [.val (.int i), .val (.int n)]) := by
  apply W2.eq
  unfold m_is_whole S_is_whole
  norm_cast0
structure Plc where
  ways : List (Option Int × Str)
  few : Int
  most : Option Int
  cut : Option Int
def placeP (p : Plc) : PV := .ins "Place" [("held_ways", enc p.ways), ("held_few", .int p.few), ("held_most", enc p.most), ("held_cut", enc p.cut)]
theorem f_ways (p : Plc) : pFld "Place" "held_ways" (placeP p) = .ok (.val (.lst (p.ways.map enc))) := (rfl)
theorem f_few (p : Plc) : pFld "Place" "held_few" (placeP p) = .ok (.val (.int p.few)) := (rfl)
theorem f_most (p : Plc) : pFld "Place" "held_most" (placeP p) = .ok (.val (enc p.most)) := (rfl)
theorem f_cut (p : Plc) : pFld "Place" "held_cut" (placeP p) = .ok (.val (enc p.cut)) := (rfl)
theorem ins_place {x : Str} {Q : List (Str × PV) → Prop} (p : Plc) (h : List.lookup x [("held_ways", enc p.ways), ("held_few", PV.int p.few), ("held_most", enc p.most), ("held_cut", enc p.cut)] = none := by rfl) :
    insK "Place" x Q (placeP p) = Q [("held_ways", enc p.ways), ("held_few", .int p.few), ("held_most", enc p.most), ("held_cut", enc p.cut)] := by
  unfold placeP insK Raw.insK
  simp only [h, and_self, true_and]
theorem i_way {Q : List (Str × PV) → Prop} (p : Plc) : insK "Place" "way" Q (placeP p) = Q [("held_ways", enc p.ways), ("held_few", .int p.few), ("held_most", enc p.most), ("held_cut", enc p.cut)] := ins_place p
theorem i_splitting {Q : List (Str × PV) → Prop} (p : Plc) : insK "Place" "is_splitting" Q (placeP p) = Q [("held_ways", enc p.ways), ("held_few", .int p.few), ("held_most", enc p.most), ("held_cut", enc p.cut)] := ins_place p
theorem i_joining {Q : List (Str × PV) → Prop} (p : Plc) : insK "Place" "is_joining" Q (placeP p) = Q [("held_ways", enc p.ways), ("held_few", .int p.few), ("held_most", enc p.most), ("held_cut", enc p.cut)] := ins_place p
theorem i_parts {Q : List (Str × PV) → Prop} (p : Plc) : insK "Place" "parts" Q (placeP p) = Q [("held_ways", enc p.ways), ("held_few", .int p.few), ("held_most", enc p.most), ("held_cut", enc p.cut)] := ins_place p
theorem i_leave {Q : List (Str × PV) → Prop} (p : Plc) : insK "Place" "leave" Q (placeP p) = Q [("held_ways", enc p.ways), ("held_few", .int p.few), ("held_most", enc p.most), ("held_cut", enc p.cut)] := ins_place p
theorem fold_place (p : Plc) : PV.ins "Place" [("held_ways", enc p.ways), ("held_few", .int p.few), ("held_most", enc p.most), ("held_cut", enc p.cut)] = placeP p := (rfl)
local macro_rules
  | `(tactic| push_cast [$ts,*]) => `(tactic| simp -dsimp only [$ts,*, f_ways, f_few, f_most, f_cut, i_way, i_splitting, i_joining, i_parts, i_leave, fold_place, e_is_whole, fnM_run, wp_ok, wp_exc, wp_stuck, w2_ok, w2_exc, w2_stuck, wp_bind, w2_bind, wp_noX, w2_noX, vat0, vatS, own0, prm0, ownS, own0', ownS', putS0, putSS, roOwn, roPrm, frz0, frzS, kill0, killS, set0, setS, pv_prm, pv_val, pv_own, w_eC, w_eV, w_eBin, w_eUn, w_aNil, w_aCons, w_eTup, w_eLst, w_eN, w_bT, w_bNot, w_bYes, cond2_t, cond2_f, cond2_not, cond2_d, w_bAnd, w_bOr, w_eIf, w_eAnd, w_eOr, w_eNot, chain_b, w_eChain, w_oN, intK_int, w_oS, w_eSl, w_eDct0, w_eBor, w_bBor, w_eMut, ownK_own, w_eMutT, lstK_li, w_eIxO, dctK_dk, getR_some, w_eGetO, w_eCall, w_eMeth, mkK_own, w_eMake, w_eCallR, w_iX, w_iXs, w_iXo, allOwn0, allOwnN, allOwnS, isOwn0, isPrm0, isOwnS, slotO0, slotP0, slotOS, argS0, argSN, argSS, putB0, putBN, putBO, toPo, toPv, backNil, backO, backVal, seqK_nx, seqK_rt, seqK_bk, seqK_ct, w_sSkip, w_sBrk, w_sCnt, w_sSeq, w_sEx, w_sRet, w_sRetN, w_sRaise, w_sRetO, w_sIf, w_sSet, w_sSetO, w_sFrz, w_sPutL, w_sPutD, w_sPutF, w_sFor, w_sForD, w_sAsg, w_sStar, w_tgt, tupK_t, w_gN, w_gT, w_gsNil, w_gsCons, endK_rt, endK_nx, w_fnM, turnK_nx, turnK_ct, turnK_bk, turnK_rt, w_eLc, w_eLc2, lcK_eq, insF_eq, o_pAdd, o_pSub, o_pMod, o_pFdiv, o_pPow, o_pMul, o_pLt, o_pLe, o_pGt, o_pGe, o_pNeg, o_isN_non, o_isN_int, o_isN_str, o_isN_tup, o_isN_lst, o_isN_ins, o_isN_opt, o_isnt, isNon_non, isNon_int, isNon_str, isNon_opt, o_pB, o_tru_bl, o_tru_int, o_tru_lst, o_tru_tup, o_tru_non, o_len_lst, o_len_tup, o_len_scr, o_len_dct, o_list_lst, o_list_tup, o_tuple_lst, o_tuple_tup, o_addL, o_addT, o_ix_lst, o_ix_tup, o_ix_scr, o_ix_dctS, o_ix_dctI, o_in_dctS, o_pAt, atI_0, atI_1, atI_2, atI_3, atI_4, o_eqII, o_eqSS, o_neII, o_neSS, o_eq_dct0, o_max2, o_min2, o_rng1, o_fSeq_lst, o_fSeq_tup, o_fSeq_scr, keyOf_int, keyOf_str, o_isLst, o_isDct, o_append, o_extend, o_slL, o_slT, fld_hit, Int.cast_ofNat_Int, castZ0, castZ1, Int.reduceEq, Int.reduceLT, decide_true, decide_false, Option.isSome_map,  Option.isNone_none, Option.isNone_some,  o_fSeq_str, o_in_sign, o_len_str, o_allB, o_anyB, o_sumI, sdct_len, sdct_look, sdct_items, sdct_keys, sdct_vals, sdct_isEmpty, isi_non_int, isi_non_bool, isi_non_str, isi_non_tuple, isi_non_list, isi_non_dict, isi_bl_int, isi_bl_bool, isi_bl_str, isi_bl_tuple, isi_bl_list, isi_bl_dict, isi_int_int, isi_int_bool, isi_int_str, isi_int_tuple, isi_int_list, isi_int_dict, isi_str_int, isi_str_bool, isi_str_str, isi_str_tuple, isi_str_list, isi_str_dict, isi_tup_int, isi_tup_bool, isi_tup_str, isi_tup_tuple, isi_tup_list, isi_tup_dict, isi_lst_int, isi_lst_bool, isi_lst_str, isi_lst_tuple, isi_lst_list, isi_lst_dict, isi_scr_int, isi_scr_bool, isi_scr_str, isi_scr_tuple, isi_scr_list, isi_scr_dict, isi_dct_int, isi_dct_bool, isi_dct_str, isi_dct_tuple, isi_dct_list, isi_dct_dict,  lset0, lset1, lset2, noOwn0, noOwnS, nvS, nvV, nvD, flat_int, flat_bl, flat_str, flat_non, Bool.and_true, Bool.true_and, Bool.and_self, List.map_cons, List.map_nil, List.replicate_succ, List.replicate_zero, List.cons_append, List.nil_append, List.append_nil, List.length_cons, List.length_nil, Bool.not_true, Bool.not_false, Bool.false_eq_true, if_true, if_false, true_and, and_true, ite_true, ite_false, reduceIte, not_true_eq_false, not_false_eq_true, true_implies, false_implies, implies_true, sl_true, List.set_nil, Nat.reduceAdd, Nat.reduceLeDiff, Nat.reduceLT, Int.reduceLT, Int.reduceLE, Int.reduceAbs, Int.reduceToNat, Int.reducePow, Nat.reducePow, Nat.reduceEqDiff, lgS, cmulXr, cmulXl, List.length_map,  Nat.zero_add])
local macro_rules
  | `(tactic| norm_cast0) => `(tactic| push_cast [wp_ok])
def goB (n : Int) (w : Option Int × Str) : Bool := match w.1 with
  | none => true
  | some b => decide (n ≤ b)
def Plc.goes (p : Plc) (n : Int) : Option Str := (p.ways.find? (goB n)).map Prod.snd
theorem head_filter {α : Type} (f : α → Bool) : ∀ l : List α, (l.filter f).head? = l.find? f
  | [] => rfl
  | a :: l => by
    by_cases h : f a = true
    · simp [h]
    · simp [h, head_filter f l]
theorem atI0_head {α : Type} : ∀ l : List α, atI l 0 = l.head?
  | [] => by simp [atI, ixN]
  | a :: l => by rw [atI_0]; rfl
theorem e_way (p : Plc) (n : Int) (x : Str) (hn : 1 ≤ n) (hl : p.ways.length ≤ sizeLine) (hx : p.goes n = some x) : m_Place_way [.val (placeP p), .val (.int n)] = .ok (.val (.str x), [.val (placeP p), .val (.int n)]) := by
  apply W2.eq
  unfold m_Place_way S_Place_way
  push_cast [hn]
  refine w_comp (goB n) (fun w => .str w.2) (fun w => [.val (placeP p), .val (.int n), .val (enc w.1), .val (.str w.2)]) (fun _ _ => rfl) (fun _ _ => rfl) (fun w _ => ?_) (fun w _ _ => ?_) hl fun ρ' hm => ?_
  · obtain ⟨b, z⟩ := w
    cases b with
    | none => norm_cast0; simp [goB]
    | some b => push_cast [enc_some]; simp [goB]
  · norm_cast0
  · push_cast [hm]
    rw [atI0_head, List.head?_map, head_filter]
    unfold Plc.goes at hx
    rw [Option.map_eq_some_iff] at hx
    obtain ⟨w, h1, h2⟩ := hx
    rw [h1]
    push_cast [Option.map_some, h2]
def Plc.split (p : Plc) (n : Int) : Bool := match p.most with
  | none => false
  | some m => decide (m < n)
def Plc.part (p : Plc) (n : Int) : Int := match p.cut with
  | none => n / 2
  | some c => c
def Plc.parts (p : Plc) (n : Int) : List Int := if p.split n = true then [p.part n, n - p.part n] else [n]
theorem e_splitting (p : Plc) (n : Int) : m_Place_is_splitting [.val (placeP p), .val (.int n)] = .ok (.val (.bl (p.split n)), [.val (placeP p), .val (.int n)]) := by
  apply W2.eq
  unfold m_Place_is_splitting S_Place_is_splitting
  norm_cast0
  cases h : p.most with
  | none => push_cast [h]; simp [Plc.split, h]
  | some m => push_cast [h, enc_some]; simp [Plc.split, h]
theorem e_parts (p : Plc) (n : Int) : m_Place_parts [.val (placeP p), .val (.int n)] = .ok (.own (.lst ((srt (p.parts n)).map enc)), [.val (placeP p), .val (.int n)]) := by
  have one : srt [n] = [n] := srt_id (List.pairwise_singleton _ _)
  have so : ∀ a b : Int, pSortedA false [.lst [.int a, .int b]] = .ok (.own (.lst ((srt [a, b]).map enc))) := fun a b => pSorted_enc [a, b]
  apply W2.eq
  unfold m_Place_parts S_Place_parts
  push_cast [e_splitting]
  cases h : p.split n with
  | false =>
    have hp : p.parts n = [n] := by simp [Plc.parts, h]
    rw [hp, one]
    push_cast [h, enc_int]
  | true =>
    push_cast [f_cut]
    have hp : p.parts n = [p.part n, n - p.part n] := by simp [Plc.parts, h]
    rw [hp]
    cases hc : p.cut with
    | none =>
      push_cast [Option.isNone_none, so, Plc.part, hc]
    | some c =>
      push_cast [Option.isNone_some, enc_some, so, Plc.part, hc, f_cut]
end LW

set_option maxRecDepth 100000
set_option maxHeartbeats 1000000
namespace LW
open PySem PySem.Spec L2 BF
open PyProof.Rows hiding St
set_option autoImplicit false
open PE (enc)
local macro_rules
  | `(tactic| push_cast [$ts,*]) => `(tactic| simp -dsimp only [$ts,*, f_ways, f_few, f_most, f_cut, i_way, i_splitting, i_joining, i_parts, i_leave, fold_place, e_is_whole, e_splitting, e_parts, fnM_run, wp_ok, wp_exc, wp_stuck, w2_ok, w2_exc, w2_stuck, wp_bind, w2_bind, wp_noX, w2_noX, vat0, vatS, own0, prm0, ownS, own0', ownS', putS0, putSS, roOwn, roPrm, frz0, frzS, kill0, killS, set0, setS, pv_prm, pv_val, pv_own, w_eC, w_eV, w_eBin, w_eUn, w_aNil, w_aCons, w_eTup, w_eLst, w_eN, w_bT, w_bNot, w_bYes, cond2_t, cond2_f, cond2_not, cond2_d, w_bAnd, w_bOr, w_eIf, w_eAnd, w_eOr, w_eNot, chain_b, w_eChain, w_oN, intK_int, w_oS, w_eSl, w_eDct0, w_eBor, w_bBor, w_eMut, ownK_own, w_eMutT, lstK_li, w_eIxO, dctK_dk, getR_some, w_eGetO, w_eCall, w_eMeth, mkK_own, w_eMake, w_eCallR, w_iX, w_iXs, w_iXo, allOwn0, allOwnN, allOwnS, isOwn0, isPrm0, isOwnS, slotO0, slotP0, slotOS, argS0, argSN, argSS, putB0, putBN, putBO, toPo, toPv, backNil, backO, backVal, seqK_nx, seqK_rt, seqK_bk, seqK_ct, w_sSkip, w_sBrk, w_sCnt, w_sSeq, w_sEx, w_sRet, w_sRetN, w_sRaise, w_sRetO, w_sIf, w_sSet, w_sSetO, w_sFrz, w_sPutL, w_sPutD, w_sPutF, w_sFor, w_sForD, w_sAsg, w_sStar, w_tgt, tupK_t, w_gN, w_gT, w_gsNil, w_gsCons, endK_rt, endK_nx, w_fnM, turnK_nx, turnK_ct, turnK_bk, turnK_rt, w_eLc, w_eLc2, lcK_eq, insF_eq, o_pAdd, o_pSub, o_pMod, o_pFdiv, o_pPow, o_pMul, o_pLt, o_pLe, o_pGt, o_pGe, o_pNeg, o_isN_non, o_isN_int, o_isN_str, o_isN_tup, o_isN_lst, o_isN_ins, o_isN_opt, o_isnt, isNon_non, isNon_int, isNon_str, isNon_opt, o_pB, o_tru_bl, o_tru_int, o_tru_lst, o_tru_tup, o_tru_non, o_len_lst, o_len_tup, o_len_scr, o_len_dct, o_list_lst, o_list_tup, o_tuple_lst, o_tuple_tup, o_addL, o_addT, o_ix_lst, o_ix_tup, o_ix_scr, o_ix_dctS, o_ix_dctI, o_in_dctS, o_pAt, atI_0, atI_1, atI_2, atI_3, atI_4, o_eqII, o_eqSS, o_neII, o_neSS, o_eq_dct0, o_max2, o_min2, o_rng1, o_fSeq_lst, o_fSeq_tup, o_fSeq_scr, keyOf_int, keyOf_str, o_isLst, o_isDct, o_append, o_extend, o_slL, o_slT, fld_hit, Int.cast_ofNat_Int, castZ0, castZ1, Int.reduceEq, Int.reduceLT, decide_true, decide_false, Option.isSome_map,  Option.isNone_none, Option.isNone_some,  o_fSeq_str, o_in_sign, o_len_str, o_allB, o_anyB, o_sumI, sdct_len, sdct_look, sdct_items, sdct_keys, sdct_vals, sdct_isEmpty, isi_non_int, isi_non_bool, isi_non_str, isi_non_tuple, isi_non_list, isi_non_dict, isi_bl_int, isi_bl_bool, isi_bl_str, isi_bl_tuple, isi_bl_list, isi_bl_dict, isi_int_int, isi_int_bool, isi_int_str, isi_int_tuple, isi_int_list, isi_int_dict, isi_str_int, isi_str_bool, isi_str_str, isi_str_tuple, isi_str_list, isi_str_dict, isi_tup_int, isi_tup_bool, isi_tup_str, isi_tup_tuple, isi_tup_list, isi_tup_dict, isi_lst_int, isi_lst_bool, isi_lst_str, isi_lst_tuple, isi_lst_list, isi_lst_dict, isi_scr_int, isi_scr_bool, isi_scr_str, isi_scr_tuple, isi_scr_list, isi_scr_dict, isi_dct_int, isi_dct_bool, isi_dct_str, isi_dct_tuple, isi_dct_list, isi_dct_dict,  lset0, lset1, lset2, noOwn0, noOwnS, nvS, nvV, nvD, flat_int, flat_bl, flat_str, flat_non, Bool.and_true, Bool.true_and, Bool.and_self, List.map_cons, List.map_nil, List.replicate_succ, List.replicate_zero, List.cons_append, List.nil_append, List.append_nil, List.length_cons, List.length_nil, Bool.not_true, Bool.not_false, Bool.false_eq_true, if_true, if_false, true_and, and_true, ite_true, ite_false, reduceIte, not_true_eq_false, not_false_eq_true, true_implies, false_implies, implies_true, sl_true, List.set_nil, Nat.reduceAdd, Nat.reduceLeDiff, Nat.reduceLT, Int.reduceLT, Int.reduceLE, Int.reduceAbs, Int.reduceToNat, Int.reducePow, Nat.reducePow, Nat.reduceEqDiff, lgS, cmulXr, cmulXl, List.length_map,  Nat.zero_add])
local macro_rules
  | `(tactic| norm_cast0) => `(tactic| push_cast [wp_ok])
def Plc.joins (p : Plc) (l : List Int) : Bool := match l with
  | _ :: b :: _ => decide (b ≤ p.few)
  | _ => false
def Plc.joined (p : Plc) (l : List Int) : List Int := match l with
  | a :: b :: r => if b ≤ p.few then (a + b) :: r else a :: b :: r
  | l => l
/-- the sizes that are left, in no order -/
def Plc.left (p : Plc) (l : List Int) : List Int := (p.joined (srt l)).flatMap p.parts
theorem e_joining (p : Plc) (l : List Int) : m_Place_is_joining [.val (placeP p), .val (.lst (l.map enc))] = .ok (.val (.bl (p.joins l)), [.val (placeP p), .val (.lst (l.map enc))]) := by
  apply W2.eq
  unfold m_Place_is_joining S_Place_is_joining
  match l with
  | [] => push_cast [Plc.joins]
  | [a] => push_cast [Plc.joins]
  | a :: b :: r =>
    push_cast [enc_int, Plc.joins]
    intro h
    exfalso; simp at h; omega
theorem parts_len (p : Plc) (n : Int) : (p.parts n).length ≤ 2 := by unfold Plc.parts; split <;> simp
theorem flatMap_len {α β : Type} (f : α → List β) (k : Nat) : ∀ l : List α, (∀ a, (f a).length ≤ k) → (l.flatMap f).length ≤ k * l.length
  | [], _ => by simp
  | a :: l, h => by
    have := flatMap_len f k l h
    have := h a
    simp only [List.flatMap_cons, List.length_append, List.length_cons, Nat.mul_succ]; omega
theorem joined_len (p : Plc) (l : List Int) : (p.joined l).length ≤ l.length := by
  unfold Plc.joined; split
  · split <;> simp
  · exact Nat.le_refl _
theorem srt_flat {α : Type} (f g : α → List Int) (h : ∀ a, (f a).Perm (g a)) (l : List α) : (l.flatMap f).Perm (l.flatMap g) := by
  induction l with
  | nil => exact .refl _
  | cons a l ih => exact (h a).append ih
theorem e_leave (p : Plc) (l : List Int) (hl : 2 * l.length ≤ sizeLine) : m_Place_leave [.val (placeP p), .val (.lst (l.map enc))] = .ok (.own (.lst ((srt (p.left l)).map enc)), [.val (placeP p), .val (.lst (l.map enc))]) := by
  apply W2.eq
  unfold m_Place_leave S_Place_leave
  have main : ∀ m : List Int, m.length ≤ l.length → WP (sRet (eN (pSortedA false) (aCons (eLc2 [3, 4] [4] (iX fSeq (eV 2)) (gN 3) (bYes) (iX fSeq (eMeth "Place" "parts" 1 m_Place_parts (eV 0) (aCons (eV 3) (aNil)))) (gN 4) (bYes) (eV 4)) (aNil))) [.val (placeP p), .val (.lst (l.map enc)), .val (.lst (m.map enc)), .dead, .dead])
      (endK [.val (placeP p), .val (.lst (l.map enc))] fun x y => x = .own (.lst ((srt (m.flatMap p.parts)).map enc)) ∧ y = [.val (placeP p), .val (.lst (l.map enc))]) nX := by
    intro m hm
    norm_cast0
    have hlen : (m.flatMap fun n => srt (p.parts n)).length ≤ sizeLine := by
      have := flatMap_len (fun n => srt (p.parts n)) 2 m fun n => by rw [srt_length]; exact parts_len p n
      omega
    refine w_comp20 (e1 := enc) (fun n => srt (p.parts n)) (fun _ c => enc c) _ _ (fun _ _ => rfl) (fun _ _ => rfl) (fun n _ => ?_) (fun _ _ _ _ => rfl) (fun _ _ _ _ => rfl) (fun _ _ _ _ => rfl) (fun n _ c _ => ?_) hlen fun ρ' hr => ?_
    · push_cast [enc_int]
    · norm_cast0
    · push_cast [hr]
      have e1 : (m.flatMap fun n => (srt (p.parts n)).map enc) = (m.flatMap fun n => srt (p.parts n)).map enc := by rw [List.map_flatMap]
      rw [e1, pSorted_enc]
      have e2 : srt (m.flatMap fun n => srt (p.parts n)) = srt (m.flatMap p.parts) := srt_eq (srt_flat _ _ (fun n => srt_perm _) m)
      push_cast [e2, hr]
  generalize sRet (eN (pSortedA false) (aCons (eLc2 [3, 4] [4] (iX fSeq (eV 2)) (gN 3) (bYes) (iX fSeq (eMeth "Place" "parts" 1 m_Place_parts (eV 0) (aCons (eV 3) (aNil)))) (gN 4) (bYes) (eV 4)) (aNil))) = R at main ⊢
  have hc : ∀ xs : List PV, cutL xs (some 2) none = xs.drop 2 := fun xs => cutL_from xs 2
  have hs := pSorted_enc l
  push_cast [hs, e_joining, hc]
  have hlen := srt_length l
  unfold Plc.left
  revert hlen
  generalize srt l = s
  intro hlen
  cases hj : p.joins s with
  | false =>
    have e : p.joined s = s := by
      unfold Plc.joins at hj; unfold Plc.joined
      split at hj
      · rename_i a b r; rw [if_neg (by simpa using hj)]
      · rfl
    rw [e]
    norm_cast0
    exact main s (by omega)
  | true =>
    match s, hj with
    | a :: b :: r, hj =>
      have hb : b ≤ p.few := by simpa [Plc.joins] using hj
      have e : p.joined (a :: b :: r) = (a + b) :: r := by simp [Plc.joined, hb]
      rw [e]
      push_cast [enc_int, List.drop_succ_cons, List.drop_zero, hc]
      have := main ((a + b) :: r) (by simp at hlen ⊢; omega)
      refine ⟨by simp at hlen ⊢; exact sl_le (by have := hl; have : sizeLine = 16777216 := rfl; omega), ?_⟩
      exact this
structure RulesOk (m : List (Str × Plc)) : Prop where
  ne : m ≠ []
  len : m.length < 64
  nd : (m.map Prod.fst).Nodup
  nm : ∀ p ∈ m, isNameB p.1 = true
  wl : ∀ p ∈ m, p.2.ways.length ≤ 1000
  wy : ∀ p ∈ m, ∀ w ∈ p.2.ways, w.2 ∈ m.map Prod.fst
  go : ∀ p ∈ m, ∀ n, ∃ x, p.2.goes n = some x
theorem name_len {z : Str} (h : isNameB z = true) : z.length ≤ sizeLine := by
  simp only [isNameB, Bool.and_eq_true, decide_eq_true_eq] at h
  have := h.1.2
  exact sl_le (by omega)
theorem isi_place (p : Plc) : pIsi clsN [placeP p, .cl "Place"] = .ok (.val (.bl true)) := (rfl)
def rulesP (m : List (Str × Plc)) : PV := .dct (sdct placeP m)
theorem RulesOk.look {m : List (Str × Plc)} (h : RulesOk m) {x : Str} (hx : x ∈ m.map Prod.fst) : ∃ p, m.lookup x = some p ∧ (x, p) ∈ m := lookup_of_mem hx
local macro_rules
  | `(tactic| push_cast [$ts,*]) => `(tactic| simp -dsimp only [$ts,*, f_ways, f_few, f_most, f_cut, i_way, i_splitting, i_joining, i_parts, i_leave, fold_place, e_is_whole, e_splitting, e_parts, isi_place, fnM_run, wp_ok, wp_exc, wp_stuck, w2_ok, w2_exc, w2_stuck, wp_bind, w2_bind, wp_noX, w2_noX, vat0, vatS, own0, prm0, ownS, own0', ownS', putS0, putSS, roOwn, roPrm, frz0, frzS, kill0, killS, set0, setS, pv_prm, pv_val, pv_own, w_eC, w_eV, w_eBin, w_eUn, w_aNil, w_aCons, w_eTup, w_eLst, w_eN, w_bT, w_bNot, w_bYes, cond2_t, cond2_f, cond2_not, cond2_d, w_bAnd, w_bOr, w_eIf, w_eAnd, w_eOr, w_eNot, chain_b, w_eChain, w_oN, intK_int, w_oS, w_eSl, w_eDct0, w_eBor, w_bBor, w_eMut, ownK_own, w_eMutT, lstK_li, w_eIxO, dctK_dk, getR_some, w_eGetO, w_eCall, w_eMeth, mkK_own, w_eMake, w_eCallR, w_iX, w_iXs, w_iXo, allOwn0, allOwnN, allOwnS, isOwn0, isPrm0, isOwnS, slotO0, slotP0, slotOS, argS0, argSN, argSS, putB0, putBN, putBO, toPo, toPv, backNil, backO, backVal, seqK_nx, seqK_rt, seqK_bk, seqK_ct, w_sSkip, w_sBrk, w_sCnt, w_sSeq, w_sEx, w_sRet, w_sRetN, w_sRaise, w_sRetO, w_sIf, w_sSet, w_sSetO, w_sFrz, w_sPutL, w_sPutD, w_sPutF, w_sFor, w_sForD, w_sAsg, w_sStar, w_tgt, tupK_t, w_gN, w_gT, w_gsNil, w_gsCons, endK_rt, endK_nx, w_fnM, turnK_nx, turnK_ct, turnK_bk, turnK_rt, w_eLc, w_eLc2, lcK_eq, insF_eq, o_pAdd, o_pSub, o_pMod, o_pFdiv, o_pPow, o_pMul, o_pLt, o_pLe, o_pGt, o_pGe, o_pNeg, o_isN_non, o_isN_int, o_isN_str, o_isN_tup, o_isN_lst, o_isN_ins, o_isN_opt, o_isnt, isNon_non, isNon_int, isNon_str, isNon_opt, o_pB, o_tru_bl, o_tru_int, o_tru_lst, o_tru_tup, o_tru_non, o_len_lst, o_len_tup, o_len_scr, o_len_dct, o_list_lst, o_list_tup, o_tuple_lst, o_tuple_tup, o_addL, o_addT, o_ix_lst, o_ix_tup, o_ix_scr, o_ix_dctS, o_ix_dctI, o_in_dctS, o_pAt, atI_0, atI_1, atI_2, atI_3, atI_4, o_eqII, o_eqSS, o_neII, o_neSS, o_eq_dct0, o_max2, o_min2, o_rng1, o_fSeq_lst, o_fSeq_tup, o_fSeq_scr, keyOf_int, keyOf_str, o_isLst, o_isDct, o_append, o_extend, o_slL, o_slT, fld_hit, Int.cast_ofNat_Int, castZ0, castZ1, Int.reduceEq, Int.reduceLT, decide_true, decide_false, Option.isSome_map,  Option.isNone_none, Option.isNone_some,  o_fSeq_str, o_in_sign, o_len_str, o_allB, o_anyB, o_sumI, sdct_len, sdct_look, sdct_items, sdct_keys, sdct_vals, sdct_isEmpty, isi_non_int, isi_non_bool, isi_non_str, isi_non_tuple, isi_non_list, isi_non_dict, isi_bl_int, isi_bl_bool, isi_bl_str, isi_bl_tuple, isi_bl_list, isi_bl_dict, isi_int_int, isi_int_bool, isi_int_str, isi_int_tuple, isi_int_list, isi_int_dict, isi_str_int, isi_str_bool, isi_str_str, isi_str_tuple, isi_str_list, isi_str_dict, isi_tup_int, isi_tup_bool, isi_tup_str, isi_tup_tuple, isi_tup_list, isi_tup_dict, isi_lst_int, isi_lst_bool, isi_lst_str, isi_lst_tuple, isi_lst_list, isi_lst_dict, isi_scr_int, isi_scr_bool, isi_scr_str, isi_scr_tuple, isi_scr_list, isi_scr_dict, isi_dct_int, isi_dct_bool, isi_dct_str, isi_dct_tuple, isi_dct_list, isi_dct_dict,  lset0, lset1, lset2, noOwn0, noOwnS, nvS, nvV, nvD, flat_int, flat_bl, flat_str, flat_non, Bool.and_true, Bool.true_and, Bool.and_self, List.map_cons, List.map_nil, List.replicate_succ, List.replicate_zero, List.cons_append, List.nil_append, List.append_nil, List.length_cons, List.length_nil, Bool.not_true, Bool.not_false, Bool.false_eq_true, if_true, if_false, true_and, and_true, ite_true, ite_false, reduceIte, not_true_eq_false, not_false_eq_true, true_implies, false_implies, implies_true, sl_true, List.set_nil, Nat.reduceAdd, Nat.reduceLeDiff, Nat.reduceLT, Int.reduceLT, Int.reduceLE, Int.reduceAbs, Int.reduceToNat, Int.reducePow, Nat.reducePow, Nat.reduceEqDiff, lgS, cmulXr, cmulXl, List.length_map,  Nat.zero_add])
local macro_rules
  | `(tactic| norm_cast0) => `(tactic| push_cast [wp_ok])
theorem e_checked_rules (m : List (Str × Plc)) (h : RulesOk m) : m_checked_rules [.val (rulesP m)] = .ok (.val .non, [.val (rulesP m)]) := by
  apply W2.eq
  unfold m_checked_rules S_checked_rules rulesP
  have he : m.isEmpty = false := by cases m with
    | nil => exact absurd rfl h.ne
    | cons a l => rfl
  have hd : (PV.dct (sdct placeP m)) = rulesP m := rfl
  push_cast [he]
  refine w_loop (fun r ρ => (∀ p ∈ r, p ∈ m) ∧ ∃ s1 s2, ρ = [.val (.dct (sdct placeP m)), s1, s2, .dead, .dead]) ?_ ?_ m _ ⟨fun _ h => h, _, _, rfl⟩
  · rintro ⟨x, p⟩ r ρ ⟨hm, s1, s2, rfl⟩
    have hp := hm (x, p) (by simp)
    have h1 := h.nm _ hp
    have h2 : p.ways.length ≤ 1000 := h.wl _ hp
    have h3 : (p.ways.all fun w => (m.lookup w.2).isSome) = true := by
      simp only [List.all_eq_true]
      intro w hw
      obtain ⟨q, e, _⟩ := h.look (h.wy _ hp w hw)
      rw [e]; rfl
    have h4 := e_is_name x (name_len h1)
    push_cast [h4, h1]
    refine w_comp0 (fun w => .bl ((m.lookup w.2).isSome)) _ (fun _ _ => rfl) (fun _ _ => rfl) (fun w _ => ?_) (sl_le (by omega)) fun ρ' hr => ?_
    · push_cast [enc_str]
    · push_cast [hr, h3]
      exact ⟨fun q hq => hm q (by simp [hq]), _, _, rfl⟩
  · rintro ρ ⟨_, s1, s2, rfl⟩
    norm_cast0
def bandB (m : List (Str × Plc)) (b : Str × Int) : Bool := isNameB b.1 && ((m.lookup b.1).isSome && decide (1 ≤ b.2))
theorem e_is_band (m : List (Str × Plc)) (b : Str × Int) (hl : b.1.length ≤ sizeLine) : m_is_band [.val (rulesP m), .val (enc b)] = .ok (.val (.bl (bandB m b)), [.val (rulesP m), .val (enc b)]) := by
  apply W2.eq
  unfold m_is_band S_is_band rulesP
  have h4 := e_is_name b.1 hl
  cases h1 : isNameB b.1 <;> cases h2 : (m.lookup b.1).isSome <;> push_cast [h4, enc_pair, enc_str, enc_int, h1, h2] <;> simp [bandB, h1, h2]
theorem e_checked_state (m : List (Str × Plc)) (st : List (Str × Int)) (hb : ∀ b ∈ st, bandB m b = true) (hl : st.length ≤ sizeLine) : m_checked_state [.val (rulesP m), .val (.lst (st.map enc))] = .ok (.val (.tup ((srt st).map enc)), [.val (rulesP m), .val (.lst (st.map enc))]) := by
  apply W2.eq
  unfold m_checked_state S_checked_state
  norm_cast0
  have hs := pSorted_enc st
  refine w_comp0 (fun b => .bl (bandB m b)) _ (fun _ _ => rfl) (fun _ _ => rfl) (fun b hb' => ?_) hl fun ρ' hr => ?_
  · have h1 : b.1.length ≤ sizeLine := name_len (by have := hb b hb'; unfold bandB at this; simp only [Bool.and_eq_true] at this; exact this.1)
    have h2 := e_is_band m b h1
    push_cast [h2]
  · have h1 : (st.all fun b => bandB m b) = true := by simpa using hb
    push_cast [hr, h1, hs]
end LW

set_option maxRecDepth 100000
set_option maxHeartbeats 1000000
namespace LW
open PySem PySem.Spec L2 BF
open PyProof.Rows hiding St
set_option autoImplicit false
open PE (enc)
local macro_rules
  | `(tactic| push_cast [$ts,*]) => `(tactic| simp -dsimp only [$ts,*, f_ways, f_few, f_most, f_cut, i_way, i_splitting, i_joining, i_parts, i_leave, fold_place, e_is_whole, e_splitting, e_parts, e_joining, isi_place, fnM_run, wp_ok, wp_exc, wp_stuck, w2_ok, w2_exc, w2_stuck, wp_bind, w2_bind, wp_noX, w2_noX, vat0, vatS, own0, prm0, ownS, own0', ownS', putS0, putSS, roOwn, roPrm, frz0, frzS, kill0, killS, set0, setS, pv_prm, pv_val, pv_own, w_eC, w_eV, w_eBin, w_eUn, w_aNil, w_aCons, w_eTup, w_eLst, w_eN, w_bT, w_bNot, w_bYes, cond2_t, cond2_f, cond2_not, cond2_d, w_bAnd, w_bOr, w_eIf, w_eAnd, w_eOr, w_eNot, chain_b, w_eChain, w_oN, intK_int, w_oS, w_eSl, w_eDct0, w_eBor, w_bBor, w_eMut, ownK_own, w_eMutT, lstK_li, w_eIxO, dctK_dk, getR_some, w_eGetO, w_eCall, w_eMeth, mkK_own, w_eMake, w_eCallR, w_iX, w_iXs, w_iXo, allOwn0, allOwnN, allOwnS, isOwn0, isPrm0, isOwnS, slotO0, slotP0, slotOS, argS0, argSN, argSS, putB0, putBN, putBO, toPo, toPv, backNil, backO, backVal, seqK_nx, seqK_rt, seqK_bk, seqK_ct, w_sSkip, w_sBrk, w_sCnt, w_sSeq, w_sEx, w_sRet, w_sRetN, w_sRaise, w_sRetO, w_sIf, w_sSet, w_sSetO, w_sFrz, w_sPutL, w_sPutD, w_sPutF, w_sFor, w_sForD, w_sAsg, w_sStar, w_tgt, tupK_t, w_gN, w_gT, w_gsNil, w_gsCons, endK_rt, endK_nx, w_fnM, turnK_nx, turnK_ct, turnK_bk, turnK_rt, w_eLc, w_eLc2, lcK_eq, insF_eq, o_pAdd, o_pSub, o_pMod, o_pFdiv, o_pPow, o_pMul, o_pLt, o_pLe, o_pGt, o_pGe, o_pNeg, o_isN_non, o_isN_int, o_isN_str, o_isN_tup, o_isN_lst, o_isN_ins, o_isN_opt, o_isnt, isNon_non, isNon_int, isNon_str, isNon_opt, o_pB, o_tru_bl, o_tru_int, o_tru_lst, o_tru_tup, o_tru_non, o_len_lst, o_len_tup, o_len_scr, o_len_dct, o_list_lst, o_list_tup, o_tuple_lst, o_tuple_tup, o_addL, o_addT, o_ix_lst, o_ix_tup, o_ix_scr, o_ix_dctS, o_ix_dctI, o_in_dctS, o_pAt, atI_0, atI_1, atI_2, atI_3, atI_4, o_eqII, o_eqSS, o_neII, o_neSS, o_eq_dct0, o_max2, o_min2, o_rng1, o_fSeq_lst, o_fSeq_tup, o_fSeq_scr, keyOf_int, keyOf_str, o_isLst, o_isDct, o_append, o_extend, o_slL, o_slT, fld_hit, Int.cast_ofNat_Int, castZ0, castZ1, Int.reduceEq, Int.reduceLT, decide_true, decide_false, Option.isSome_map,  Option.isNone_none, Option.isNone_some,  o_fSeq_str, o_in_sign, o_len_str, o_allB, o_anyB, o_sumI, sdct_len, sdct_look, sdct_items, sdct_keys, sdct_vals, sdct_isEmpty, isi_non_int, isi_non_bool, isi_non_str, isi_non_tuple, isi_non_list, isi_non_dict, isi_bl_int, isi_bl_bool, isi_bl_str, isi_bl_tuple, isi_bl_list, isi_bl_dict, isi_int_int, isi_int_bool, isi_int_str, isi_int_tuple, isi_int_list, isi_int_dict, isi_str_int, isi_str_bool, isi_str_str, isi_str_tuple, isi_str_list, isi_str_dict, isi_tup_int, isi_tup_bool, isi_tup_str, isi_tup_tuple, isi_tup_list, isi_tup_dict, isi_lst_int, isi_lst_bool, isi_lst_str, isi_lst_tuple, isi_lst_list, isi_lst_dict, isi_scr_int, isi_scr_bool, isi_scr_str, isi_scr_tuple, isi_scr_list, isi_scr_dict, isi_dct_int, isi_dct_bool, isi_dct_str, isi_dct_tuple, isi_dct_list, isi_dct_dict,  lset0, lset1, lset2, noOwn0, noOwnS, nvS, nvV, nvD, flat_int, flat_bl, flat_str, flat_non, Bool.and_true, Bool.true_and, Bool.and_self, List.map_cons, List.map_nil, List.replicate_succ, List.replicate_zero, List.cons_append, List.nil_append, List.append_nil, List.length_cons, List.length_nil, Bool.not_true, Bool.not_false, Bool.false_eq_true, if_true, if_false, true_and, and_true, ite_true, ite_false, reduceIte, not_true_eq_false, not_false_eq_true, true_implies, false_implies, implies_true, sl_true, List.set_nil, Nat.reduceAdd, Nat.reduceLeDiff, Nat.reduceLT, Int.reduceLT, Int.reduceLE, Int.reduceAbs, Int.reduceToNat, Int.reducePow, Nat.reducePow, Nat.reduceEqDiff, lgS, cmulXr, cmulXl, List.length_map,  Nat.zero_add])
local macro_rules
  | `(tactic| norm_cast0) => `(tactic| push_cast [wp_ok])
theorem loopH_keys (a b c d : Slot) : ∀ (ks : List Str) (acc : List (Key × List PV)) (s : Slot), ks.Nodup → (∀ k ∈ ks, ∀ p ∈ acc, p.1 ≠ .inr k) → acc.length + ks.length < sizeLine →
    ∃ s', loopH [3] (gN 3) bYes (Kd (eV 3)) (ks.map PV.str) acc [a, b, c, s, d] = .ok (acc ++ ks.map fun k => (.inr k, []), [a, b, c, s', d])
  | [], acc, s, _, _, _ => ⟨s, by simp [loopH]⟩
  | k :: ks, acc, s, hn, hd, hl => by
    simp only [List.length_cons] at hl
    have h1 : (acc.any fun p => decide (p.1 = .inr k)) = false := by
      rw [List.any_eq_false]; intro p hp; simpa using hd k (by simp) p hp
    have h2 : acc.length < sizeLine := by omega
    obtain ⟨s', ih⟩ := loopH_keys a b c d ks (acc ++ [(.inr k, [])]) (.val (.str k)) (List.nodup_cons.mp hn).2 (by
      intro j hj p hp
      rcases List.mem_append.mp hp with hp | hp
      · exact hd j (by simp [hj]) p hp
      · simp only [List.mem_singleton] at hp
        subst hp
        exact fun e => (List.nodup_cons.mp hn).1 (Sum.inr.inj e ▸ hj)) (by simp; omega)
    refine ⟨s', ?_⟩
    have e1 : Kd (eV 3) acc [a, b, c, .val (.str k), d] = .ok (acc ++ [(.inr k, [])], [a, b, c, .val (.str k), d]) := by
      show (if (acc.any fun p => decide (p.1 = .inr k)) = true ∨ ¬ acc.length < sizeLine then (Res.stuck : Res (List (Key × List PV) × En)) else .ok (acc ++ [(.inr k, [])], [a, b, c, .val (.str k), d])) = _
      rw [h1, if_neg (by simp [h2])]
    show (Kd (eV 3) acc [a, b, c, .val (.str k), d] >>= fun q => loopH [3] (gN 3) bYes (Kd (eV 3)) (ks.map PV.str) q.1 q.2) = _
    rw [e1]
    simp only [ok_bind]
    rw [ih]
    simp
def gtab (ks : List Str) (f : Str → List PV) : List (Key × List PV) := ks.map fun k => (.inr k, f k)
theorem gApp_tab (k : Str) (y : PV) (f : Str → List PV) : ∀ ks : List Str, ks.Nodup → k ∈ ks → gApp (.inr k) y (gtab ks f) = some (gtab ks fun j => if j = k then f j ++ [y] else f j)
  | [], _, h => by simp at h
  | j :: ks, hn, h => by
    unfold gtab
    simp only [List.map_cons, gApp]
    by_cases e : j = k
    · subst e
      simp only [if_true, Option.some.injEq, List.cons.injEq, true_and]
      refine List.map_congr_left fun i hi => ?_
      have : i ≠ j := fun e => (List.nodup_cons.mp hn).1 (e ▸ hi)
      simp [this]
    · have h1 : ¬ (Sum.inr j : Key) = .inr k := fun z => e (Sum.inr.inj z)
      have h2 : k ∈ ks := (List.mem_cons.mp h).resolve_left fun z => e z.symm
      simp only [h1, if_false]
      have := gApp_tab k y f ks (List.nodup_cons.mp hn).2 h2
      unfold gtab at this
      rw [this]
      simp [e]
theorem gList_tab (k : Str) (f : Str → List PV) : ∀ ks : List Str, k ∈ ks → gList (.inr k) (gtab ks f) = some (f k)
  | [], h => by simp at h
  | j :: ks, h => by
    unfold gList gtab
    simp only [List.map_cons, List.find?_cons]
    by_cases e : j = k
    · subst e; simp
    · have h1 : ¬ (Sum.inr j : Key) = .inr k := fun z => e (Sum.inr.inj z)
      have h2 : k ∈ ks := (List.mem_cons.mp h).resolve_left fun z => e z.symm
      simp only [h1, decide_false]
      have := gList_tab k f ks h2
      unfold gList gtab at this
      exact this
theorem loopA_tab {β : Type} (e : β → PV) (to : β → Str) (tl : β → PV) (Ek Ev : PX) (a b c d : PV) (ks : List Str) (hn : ks.Nodup) : ∀ (l : List β) (f : Str → List PV) (s : Slot),
    (∀ x ∈ l, to x ∈ ks) → (∀ x ∈ l, W2 (Ek [.val a, .val b, .dead, .dead, .val (e x)]) (fun s _ => s.pv = .str (to x)) nX) → (∀ x ∈ l, W2 (Ev [.val a, .val b, .dead, .dead, .val (e x)]) (fun s _ => s.pv = tl x) nX) →
    (∀ k, (f k).length + l.length ≤ sizeLine) →
    ∃ s', loopA (gN 4) Ek Ev (l.map e) (gtab ks f) [.val a, .val b, .dead, .dead, s] = .ok (gtab ks fun k => f k ++ (l.filter fun x => decide (to x = k)).map tl, [.val a, .val b, .dead, .dead, s'])
  | [], f, s, _, _, _, _ => ⟨s, by simp [loopA]⟩
  | x :: l, f, s, h1, h2, h3, h4 => by
    obtain ⟨p, ρp, ep, hp⟩ := (h2 x (by simp)).out
    obtain ⟨q, ρq, eq, hq⟩ := (h3 x (by simp)).out
    obtain ⟨s', ih⟩ := loopA_tab e to tl Ek Ev a b c d ks hn l (fun j => if j = to x then f j ++ [tl x] else f j) (.val (e x)) (fun y hy => h1 y (by simp [hy])) (fun y hy => h2 y (by simp [hy])) (fun y hy => h3 y (by simp [hy])) (by
      intro k
      have := h4 k
      simp only [List.length_cons] at this
      by_cases hk : k = to x
      · subst hk; simp; omega
      · simp [hk]; omega)
    refine ⟨s', ?_⟩
    have hlen : (f (to x)).length < sizeLine := by have := h4 (to x); simp only [List.length_cons] at this; omega
    simp only [List.map_cons, loopA]
    have eg : gN 4 (e x) [.val a, .val b, .dead, .dead, s] = .ok [.val a, .val b, .dead, .dead, .val (e x)] := rfl
    rw [eg]
    simp only [ep, eq, noX, ok_bind, hp, hq, keyOf, gList_tab (to x) f ks (h1 x (by simp)), gApp_tab (to x) (tl x) f ks hn (h1 x (by simp))]
    rw [if_pos (by rfl), if_pos hlen, ih]
    congr 2
    unfold gtab
    refine List.map_congr_left fun k _ => ?_
    by_cases hk : to x = k
    · subst hk; simp
    · have hk' : ¬ k = to x := fun z => hk z.symm
      simp [hk, hk']
/-- to which place a band goes -/
def goesTo (m : List (Str × Plc)) (x : Str) (n : Int) : Option Str := (m.lookup x).bind fun p => p.goes n
theorem RulesOk.goes {m : List (Str × Plc)} (h : RulesOk m) {x : Str} (hx : x ∈ m.map Prod.fst) (n : Int) : ∃ p y, m.lookup x = some p ∧ (x, p) ∈ m ∧ p.goes n = some y ∧ goesTo m x n = some y ∧ y ∈ m.map Prod.fst := by
  obtain ⟨p, h1, h2⟩ := h.look hx
  obtain ⟨y, h3⟩ := h.go _ h2 n
  refine ⟨p, y, h1, h2, h3, by simp [goesTo, h1, h3], ?_⟩
  unfold Plc.goes at h3
  rw [Option.map_eq_some_iff] at h3
  obtain ⟨w, h4, h5⟩ := h3
  rw [← h5]
  exact h.wy _ h2 w (List.mem_of_find?_eq_some h4)
/-- what came to a place: the bands but their place -/
def camePV {β : Type} (to : β → Str) (tl : β → PV) (l : List β) (k : Str) : List PV := (l.filter fun x => decide (to x = k)).map tl
theorem e_arrived {β : Type} (m : List (Str × Plc)) (hr : RulesOk m) (nm : β → Str) (sz : β → Int) (rest : β → List PV) (to : β → Str) (l : List β) (hl : l.length ≤ sizeLine)
    (h1 : ∀ x ∈ l, nm x ∈ m.map Prod.fst) (h2 : ∀ x ∈ l, 1 ≤ sz x) (h3 : ∀ x ∈ l, goesTo m (nm x) (sz x) = some (to x)) :
    m_arrived [.val (rulesP m), .val (.tup (l.map fun x => .tup (.str (nm x) :: .int (sz x) :: rest x)))] =
      .ok (.own (.dct (sdct (fun k => .lst (camePV to (fun x => .tup (.int (sz x) :: rest x)) l k)) (m.map fun q => (q.1, q.1)))), [.val (rulesP m), .val (.tup (l.map fun x => .tup (.str (nm x) :: .int (sz x) :: rest x)))]) := by
  apply W2.eq
  unfold m_arrived S_arrived
  rw [w_fnM]
  obtain ⟨s1, e1⟩ := loopH_keys (.val (rulesP m)) (.val (.tup (l.map fun x => .tup (.str (nm x) :: .int (sz x) :: rest x)))) .dead .dead (m.map Prod.fst) [] .dead hr.nd (fun _ _ _ h => by cases h) (by have := hr.len; simp only [List.length_nil, List.length_map]; exact sl_lt (by omega))
  have ek : (sdct placeP m).map (fun p => keyV p.1) = (m.map Prod.fst).map PV.str := by simp [sdct, keyV, Function.comp_def]
  have hto : ∀ x ∈ l, to x ∈ m.map Prod.fst := fun x hx => by
    obtain ⟨p, y, _, _, _, h4, h5⟩ := hr.goes (h1 x hx) (sz x)
    rw [h3 x hx] at h4
    cases h4; exact h5
  obtain ⟨s2, e2⟩ := loopA_tab (fun x => .tup (.str (nm x) :: .int (sz x) :: rest x)) to (fun x => .tup (.int (sz x) :: rest x))
    (eMeth "Place" "way" 1 m_Place_way (eBin pIxA (eV 0) (eBin pIxA (eV 4) (eC (.int 0)))) (aCons (eBin pIxA (eV 4) (eC (.int 1))) aNil)) (eSl (eV 4) (oS (eC (.int 1))) oN)
    (rulesP m) (.tup (l.map fun x => .tup (.str (nm x) :: .int (sz x) :: rest x))) .non .non (m.map Prod.fst) hr.nd l (fun _ => []) .dead hto (fun x hx => by
      obtain ⟨p, y, h4, h5, h6, h7, h8⟩ := hr.goes (h1 x hx) (sz x)
      have hy : y = to x := by rw [h3 x hx] at h7; exact (Option.some.inj h7).symm
      subst hy
      have ew := e_way p (sz x) (to x) (h2 x hx) (sl_le (by have : p.ways.length ≤ 1000 := hr.wl _ h5; omega)) h6
      unfold rulesP
      push_cast [h4, Option.map_some, ew]) (fun x hx => by
      have : cutL (.str (nm x) :: .int (sz x) :: rest x) (some 1) none = .int (sz x) :: rest x := cutL_from _ 1
      push_cast [this]) (fun k => by simpa using hl)
  have : (([.val (rulesP m), .val (.tup (l.map fun x => .tup (.str (nm x) :: .int (sz x) :: rest x)))] : List Slot).map toP ++ List.replicate 3 .dead) = [.val (rulesP m), .val (.tup (l.map fun x => .tup (.str (nm x) :: .int (sz x) :: rest x))), .dead, .dead, .dead] := rfl
  rw [this]
  unfold sArr
  have ha : ∀ a b : PV, allVal [.val a, .val b, .dead, .dead, .dead] = true := fun _ _ => rfl
  rw [if_pos (ha _ _)]
  have eg : ([.val (rulesP m), .val (.tup (l.map fun x => .tup (.str (nm x) :: .int (sz x) :: rest x))), .dead, .dead, .dead] : List Slot)[0]? = some (.val (.dct (sdct placeP m))) := rfl
  rw [eg]
  simp only
  rw [ek, e1]
  simp only [List.nil_append]
  have ef : iX fSeq (eV 1) (List.set [.val (rulesP m), .val (.tup (l.map fun x => .tup (.str (nm x) :: .int (sz x) :: rest x))), .dead, .dead, .dead] 2 .dead) = .ok (l.map fun x => .tup (.str (nm x) :: .int (sz x) :: rest x), [.val (rulesP m), .val (.tup (l.map fun x => .tup (.str (nm x) :: .int (sz x) :: rest x))), .dead, .dead, .dead]) := rfl
  rw [ef]
  simp only
  have es : List.set ([.val (rulesP m), .val (.tup (l.map fun x => .tup (.str (nm x) :: .int (sz x) :: rest x))), .dead, .dead, .dead] : List Slot) 2 .dead = [.val (rulesP m), .val (.tup (l.map fun x => .tup (.str (nm x) :: .int (sz x) :: rest x))), .dead, .dead, .dead] := rfl
  have et : (m.map Prod.fst).map (fun k => (Sum.inr k, ([] : List PV))) = gtab (m.map Prod.fst) fun _ => [] := rfl
  rw [es, et, e2]
  simp only [wp_ok, endK]
  refine ⟨?_, rfl⟩
  simp [gtab, sdct, camePV, Function.comp_def]
/-- the sizes of a state's bands that come to a place -/
def came (m : List (Str × Plc)) (st : List (Str × Int)) (x : Str) : List Int := (st.filter fun b => decide (goesTo m b.1 b.2 = some x)).map Prod.snd
/-- what stands behind a day, in no order -/
def dayR (m : List (Str × Plc)) (st : List (Str × Int)) : List (Str × Int) := m.flatMap fun q => (q.2.left (came m st q.1)).map fun n => (q.1, n)
def dayN (m : List (Str × Plc)) (st : List (Str × Int)) : List (Str × Int) := srt (dayR m st)
theorem left_perm (p : Plc) {l l' : List Int} (h : l.Perm l') : p.left l = p.left l' := by unfold Plc.left; rw [srt_eq h]
theorem came_perm (m : List (Str × Plc)) {s s' : List (Str × Int)} (h : s.Perm s') (x : Str) : (came m s x).Perm (came m s' x) := (h.filter _).map _
theorem dayR_perm (m : List (Str × Plc)) {s s' : List (Str × Int)} (h : s.Perm s') : dayR m s = dayR m s' := by
  unfold dayR
  congr 1; funext q
  rw [left_perm _ (came_perm m h q.1)]
theorem dayN_perm (m : List (Str × Plc)) {s s' : List (Str × Int)} (h : s.Perm s') : dayN m s = dayN m s' := by unfold dayN; rw [dayR_perm m h]
theorem left_len (p : Plc) (l : List Int) : (p.left l).length ≤ 2 * l.length := by
  unfold Plc.left
  have h1 := flatMap_len p.parts 2 (p.joined (srt l)) (parts_len p)
  have h2 := joined_len p (srt l)
  rw [srt_length] at h2
  omega
theorem came_len (m : List (Str × Plc)) (s : List (Str × Int)) (x : Str) : (came m s x).length ≤ s.length := by
  unfold came; rw [List.length_map]; exact List.length_filter_le _ _
/-- bands of the rules -/
def StOk (m : List (Str × Plc)) (st : List (Str × Int)) : Prop := ∀ b ∈ st, b.1 ∈ m.map Prod.fst ∧ 1 ≤ b.2
theorem came_to {m : List (Str × Plc)} {st : List (Str × Int)} (to : Str × Int → Str) (h : ∀ b ∈ st, goesTo m b.1 b.2 = some (to b)) (x : Str) :
    (st.filter fun b => decide (to b = x)) = st.filter fun b => decide (goesTo m b.1 b.2 = some x) := by
  refine List.filter_congr fun b hb => ?_
  rw [h b hb]
  simp
theorem l_rules (m : List (Str × Plc)) (x : Str) {Q : Slot → Prop} {X : Str → Prop} : WP (pIxA (rulesP m) (.str x)) Q X = WP (getR ((m.lookup x).map placeP)) (fun y => Q (.val y)) X := by
  unfold rulesP; rw [o_ix_dctS, sdct_look]
theorem flat_perm {α β : Type} (f g : α → List β) (h : ∀ a, (f a).Perm (g a)) (l : List α) : (l.flatMap f).Perm (l.flatMap g) := by
  induction l with
  | nil => exact .refl _
  | cons a l ih => exact (h a).append ih
theorem e_day_behind (m : List (Str × Plc)) (hr : RulesOk m) (st : List (Str × Int)) (hs : StOk m st) (hl : st.length ≤ 1000) :
    m_day_behind [.val (rulesP m), .val (.tup (st.map enc))] = .ok (.val (.tup ((dayN m st).map enc)), [.val (rulesP m), .val (.tup (st.map enc))]) := by
  have hto : ∃ to : Str × Int → Str, ∀ b ∈ st, goesTo m b.1 b.2 = some (to b) := by
    refine ⟨fun b => (goesTo m b.1 b.2).getD "", fun b hb => ?_⟩
    obtain ⟨p, y, _, _, _, h, _⟩ := hr.goes (hs b hb).1 b.2
    simp [h]
  obtain ⟨to, hto⟩ := hto
  have ha := e_arrived m hr Prod.fst Prod.snd (fun _ => []) to st (sl_le (by omega)) (fun b hb => (hs b hb).1) (fun b hb => (hs b hb).2) hto
  have hf : (fun x : Str × Int => PV.tup [.str x.1, .int x.2]) = enc := rfl
  rw [hf] at ha
  apply W2.eq
  unfold m_day_behind S_day_behind
  push_cast [ha]
  rw [List.map_map]
  refine w_loop (e := fun q : Str × Plc => .tup [.str q.1, .lst (camePV to (fun x => .tup [.int x.2]) st q.1)])
    (fun r ρ => ∃ m0, m = m0 ++ r ∧ ∃ s3 s4, ρ = [.val (rulesP m), .val (.tup (st.map enc)), .own (.lst ((m0.flatMap fun q => (srt (q.2.left (came m st q.1))).map fun n => (q.1, n)).map enc)), s3, s4, .dead, .dead]) ?_ ?_ m _ ⟨[], rfl, _, _, rfl⟩
  · rintro ⟨x, p⟩ r ρ ⟨m0, hm, s3, s4, rfl⟩
    have hx : (x, p) ∈ m := by rw [hm]; simp
    have hlk := lookup_nodup hr.nd hx
    norm_cast0
    push_cast [l_rules, hlk, Option.map_some]
    unfold camePV
    refine w_comp0 (fun b => .int b.2) _ (fun _ _ => rfl) (fun _ _ => rfl) (fun w _ => ?_) (sl_le (by have := List.length_filter_le (fun b => decide (to b = x)) st; omega)) fun ρ' hr' => ?_
    · norm_cast0
    · have hc : ((st.filter fun b => decide (to b = x)).map fun b => PV.int b.2) = (came m st x).map enc := by
        rw [came_to to hto]; unfold came; rw [List.map_map]; rfl
      have hcl := came_len m st x
      have hll := left_len p (came m st x)
      have hle := e_leave p (came m st x) (sl_le (by omega))
      rw [hc]
      push_cast [hle, hr']
      refine w_comp0 (fun n => enc (x, n)) _ (fun _ _ => rfl) (fun _ _ => rfl) (fun n _ => ?_) (by rw [srt_length]; exact sl_le (by omega)) fun ρ2 hr2 => ?_
      · push_cast [enc_pair, enc_str]
      · push_cast [hr2]
        have hlen : (m0.flatMap fun q => (srt (q.2.left (came m st q.1))).map fun n => (q.1, n)).length ≤ 2000 * m0.length := flatMap_len _ 2000 m0 fun q => by
          rw [List.length_map, srt_length]
          have h1 := came_len m st q.1
          have h2 := left_len q.2 (came m st q.1)
          omega
        have hm0 : m0.length < 64 := by have := hr.len; rw [hm] at this; simp at this; omega
        have he : (m0.flatMap fun q => (srt (q.2.left (came m st q.1))).map fun n => (q.1, n)).map enc ++ (srt (p.left (came m st x))).map (fun n => enc (x, n)) = ((m0 ++ [(x, p)]).flatMap fun q => (srt (q.2.left (came m st q.1))).map fun n => (q.1, n)).map enc := by
          simp [List.flatMap_append, List.map_map, Function.comp_def]
        rw [he]
        exact ⟨sl_le (by rw [srt_length]; omega), m0 ++ [(x, p)], by rw [hm]; simp, _, _, rfl⟩
  · rintro ρ ⟨m0, hm, s3, s4, rfl⟩
    simp only [List.append_nil] at hm
    subst hm
    have hs2 := pSorted_enc (m.flatMap fun q => (srt (q.2.left (came m st q.1))).map fun n => (q.1, n))
    have he : srt (m.flatMap fun q => (srt (q.2.left (came m st q.1))).map fun n => (q.1, n)) = dayN m st := by
      unfold dayN
      exact srt_eq (flat_perm _ _ (fun q => (srt_perm _).map _) m)
    push_cast [hs2, he]
theorem stOk_band {m : List (Str × Plc)} (hr : RulesOk m) {st : List (Str × Int)} (hs : StOk m st) : ∀ b ∈ st, bandB m b = true := fun b hb => by
  obtain ⟨h1, h2⟩ := hs b hb
  obtain ⟨p, h3, h4⟩ := hr.look h1
  simp [bandB, hr.nm _ h4, h3, h2]
theorem stOk_perm {m : List (Str × Plc)} {s s' : List (Str × Int)} (h : s.Perm s') (hs : StOk m s) : StOk m s' := fun b hb => hs b (h.mem_iff.mpr hb)
theorem e_next_day (m : List (Str × Plc)) (hr : RulesOk m) (st : List (Str × Int)) (hs : StOk m st) (hl : st.length ≤ 1000) :
    m_next_day [.val (rulesP m), .val (.lst (st.map enc))] = .ok (.own (.lst ((dayN m st).map enc)), [.val (rulesP m), .val (.lst (st.map enc))]) := by
  have h1 := e_checked_rules m hr
  have h2 := e_checked_state m st (stOk_band hr hs) (sl_le (by omega))
  have h3 := e_day_behind m hr (srt st) (stOk_perm (srt_perm st).symm hs) (by rw [srt_length]; exact hl)
  rw [dayN_perm m (srt_perm st)] at h3
  apply W2.eq
  unfold m_next_day S_next_day
  push_cast [h1, h2, h3]
end LW

set_option maxRecDepth 100000
set_option maxHeartbeats 1000000
namespace LW
open PySem PySem.Spec L2 BF
open PyProof.Rows hiding St
set_option autoImplicit false
open PE (enc)
local macro_rules
  | `(tactic| push_cast [$ts,*]) => `(tactic| simp -dsimp only [$ts,*, f_ways, f_few, f_most, f_cut, i_way, i_splitting, i_joining, i_parts, i_leave, fold_place, e_is_whole, e_splitting, e_parts, e_joining, isi_place, fnM_run, wp_ok, wp_exc, wp_stuck, w2_ok, w2_exc, w2_stuck, wp_bind, w2_bind, wp_noX, w2_noX, vat0, vatS, own0, prm0, ownS, own0', ownS', putS0, putSS, roOwn, roPrm, frz0, frzS, kill0, killS, set0, setS, pv_prm, pv_val, pv_own, w_eC, w_eV, w_eBin, w_eUn, w_aNil, w_aCons, w_eTup, w_eLst, w_eN, w_bT, w_bNot, w_bYes, cond2_t, cond2_f, cond2_not, cond2_d, w_bAnd, w_bOr, w_eIf, w_eAnd, w_eOr, w_eNot, chain_b, w_eChain, w_oN, intK_int, w_oS, w_eSl, w_eDct0, w_eBor, w_bBor, w_eMut, ownK_own, w_eMutT, lstK_li, w_eIxO, dctK_dk, getR_some, w_eGetO, w_eCall, w_eMeth, mkK_own, w_eMake, w_eCallR, w_iX, w_iXs, w_iXo, allOwn0, allOwnN, allOwnS, isOwn0, isPrm0, isOwnS, slotO0, slotP0, slotOS, argS0, argSN, argSS, putB0, putBN, putBO, toPo, toPv, backNil, backO, backVal, seqK_nx, seqK_rt, seqK_bk, seqK_ct, w_sSkip, w_sBrk, w_sCnt, w_sSeq, w_sEx, w_sRet, w_sRetN, w_sRaise, w_sRetO, w_sIf, w_sSet, w_sSetO, w_sFrz, w_sPutL, w_sPutD, w_sPutF, w_sFor, w_sForD, w_sAsg, w_sStar, w_tgt, tupK_t, w_gN, w_gT, w_gsNil, w_gsCons, endK_rt, endK_nx, w_fnM, turnK_nx, turnK_ct, turnK_bk, turnK_rt, w_eLc, w_eLc2, lcK_eq, insF_eq, o_pAdd, o_pSub, o_pMod, o_pFdiv, o_pPow, o_pMul, o_pLt, o_pLe, o_pGt, o_pGe, o_pNeg, o_isN_non, o_isN_int, o_isN_str, o_isN_tup, o_isN_lst, o_isN_ins, o_isN_opt, o_isnt, isNon_non, isNon_int, isNon_str, isNon_opt, o_pB, o_tru_bl, o_tru_int, o_tru_lst, o_tru_tup, o_tru_non, o_len_lst, o_len_tup, o_len_scr, o_len_dct, o_list_lst, o_list_tup, o_tuple_lst, o_tuple_tup, o_addL, o_addT, o_ix_lst, o_ix_tup, o_ix_scr, o_ix_dctS, o_ix_dctI, o_in_dctS, o_pAt, atI_0, atI_1, atI_2, atI_3, atI_4, o_eqII, o_eqSS, o_neII, o_neSS, o_eq_dct0, o_max2, o_min2, o_rng1, o_fSeq_lst, o_fSeq_tup, o_fSeq_scr, keyOf_int, keyOf_str, o_isLst, o_isDct, o_append, o_extend, o_slL, o_slT, fld_hit, Int.cast_ofNat_Int, castZ0, castZ1, Int.reduceEq, Int.reduceLT, decide_true, decide_false, Option.isSome_map,  Option.isNone_none, Option.isNone_some,  o_fSeq_str, o_in_sign, o_len_str, o_allB, o_anyB, o_sumI, sdct_len, sdct_look, sdct_items, sdct_keys, sdct_vals, sdct_isEmpty, isi_non_int, isi_non_bool, isi_non_str, isi_non_tuple, isi_non_list, isi_non_dict, isi_bl_int, isi_bl_bool, isi_bl_str, isi_bl_tuple, isi_bl_list, isi_bl_dict, isi_int_int, isi_int_bool, isi_int_str, isi_int_tuple, isi_int_list, isi_int_dict, isi_str_int, isi_str_bool, isi_str_str, isi_str_tuple, isi_str_list, isi_str_dict, isi_tup_int, isi_tup_bool, isi_tup_str, isi_tup_tuple, isi_tup_list, isi_tup_dict, isi_lst_int, isi_lst_bool, isi_lst_str, isi_lst_tuple, isi_lst_list, isi_lst_dict, isi_scr_int, isi_scr_bool, isi_scr_str, isi_scr_tuple, isi_scr_list, isi_scr_dict, isi_dct_int, isi_dct_bool, isi_dct_str, isi_dct_tuple, isi_dct_list, isi_dct_dict,  lset0, lset1, lset2, noOwn0, noOwnS, nvS, nvV, nvD, flat_int, flat_bl, flat_str, flat_non, Bool.and_true, Bool.true_and, Bool.and_self, List.map_cons, List.map_nil, List.replicate_succ, List.replicate_zero, List.cons_append, List.nil_append, List.append_nil, List.length_cons, List.length_nil, Bool.not_true, Bool.not_false, Bool.false_eq_true, if_true, if_false, true_and, and_true, ite_true, ite_false, reduceIte, not_true_eq_false, not_false_eq_true, true_implies, false_implies, implies_true, sl_true, List.set_nil, Nat.reduceAdd, Nat.reduceLeDiff, Nat.reduceLT, Int.reduceLT, Int.reduceLE, Int.reduceAbs, Int.reduceToNat, Int.reducePow, Nat.reducePow, Nat.reduceEqDiff, lgS, cmulXr, cmulXl, List.length_map,  Nat.zero_add])
local macro_rules
  | `(tactic| norm_cast0) => `(tactic| push_cast [wp_ok])

def mixedZ (cell k : Int) : Int :=
  let l := cell % 2147483629 + cell / 2147483629 * 30011
  let l := (l + 69621 * k + 1) * 48271 % 2147483629
  let l := l * (l / 907 + 16831 + k) % 2147483587
  l * (l / 1201 + 30011) % 2147483563
theorem e_mixed (c k : Int) : m__law_mixed [.val (.int c), .val (.int k)] = .ok (.val (.int (mixedZ c k)), [.val (.int c), .val (.int k)]) := by
  apply W2.eq
  unfold m__law_mixed S__law_mixed
  norm_cast0
  refine ⟨cmulX_l (by omega), cmulX_l (by omega), ?_⟩
  simp only [mixedZ]
structure Src where
  a : Int
  b : Int
  c : Int
def srcP (x : Src) : PV := .lst [.int x.a, .int x.b, .int x.c]
theorem w_next {x : Src} {n : Int} {K : Slot → List Slot → Prop} {X : Str → Prop} (hn : 0 < n) (hs : n.natAbs.log2 < 9000)
    (k : ∀ (d : Int) (x' : Src), 0 ≤ d → d < n → K (.val (.int d)) [.own (srcP x'), .val (.int n)]) : W2 (m__law_next [.own (srcP x), .val (.int n)]) K X := by
  unfold m__law_next S__law_next srcP
  push_cast [e_mixed, hn, hs]
  exact ⟨fun _ => k _ ⟨x.a / n, x.b, x.c⟩ (Int.emod_nonneg _ (by omega)) (Int.emod_lt_of_pos _ hn), fun _ => k _ ⟨x.a, x.b, x.c + 1⟩ (Int.emod_nonneg _ (by omega)) (Int.emod_lt_of_pos _ hn)⟩
theorem e_cell_at (js : List Int) (k : Int) (hk : 0 ≤ k) : m__law_cell_at [.val (.scr js), .val (.int k)] = .ok (.val (.int (js.getD k.toNat 0)), [.val (.scr js), .val (.int k)]) := by
  apply W2.eq
  unfold m__law_cell_at S__law_cell_at
  norm_cast0
  refine ⟨fun h => ?_, fun h => ?_⟩
  · obtain ⟨h1, h2⟩ := atI_nat (xs := js) hk h
    push_cast [atI_map, h2, Option.map_some]
    simp [List.getD_eq_getElem?_getD, h1]
  · have : js.length ≤ k.toNat := by omega
    simp [List.getD_eq_getElem?_getD, List.getElem?_eq_none this]
theorem w_source {js : List Int} {k : Int} {K : Slot → List Slot → Prop} {X : Str → Prop} (hk : 0 ≤ k) (h : ∀ x : Src, K (.own (srcP x)) [.val (.scr js), .val (.int k)]) : W2 (m__law_source [.val (.scr js), .val (.int k)]) K X := by
  unfold m__law_source S__law_source
  have h0 := e_cell_at js 0 (by omega)
  push_cast [h0, e_mixed]
  refine ⟨fun hl => ?_, fun _ => ?_⟩
  · obtain ⟨h1, h2⟩ := atI_nat (xs := js) hk hl
    push_cast [atI_map, h2, Option.map_some]
    exact h ⟨_, _, _⟩
  · exact h ⟨_, _, _⟩
def allNames : List Str := ["a", "b", "bank", "z", "ford", "ab", "hillside", "m", "cc", "dale", "y"]
theorem allNames_nodup : allNames.Nodup := by decide
theorem allNames_ok : ∀ x ∈ allNames, isNameB x = true := by decide
def strsP (ns : List Str) : PV := .lst (ns.map .str)
theorem w_names2 {x : Src} {n : Int} {K : Slot → List Slot → Prop} {X : Str → Prop} (h1 : 1 ≤ n) (h2 : n ≤ 11)
    (k : ∀ (ns : List Str) (x' : Src), ns.length = n.toNat → ns.Nodup → (∀ y ∈ ns, isNameB y = true) → (∀ y ∈ ns, y ∈ allNames) → K (.own (strsP ns)) [.own (srcP x'), .val (.int n)]) : W2 (m__law_names [.own (srcP x), .val (.int n)]) K X := by
  unfold m__law_names S__law_names
  norm_cast0
  refine w_next (by omega) (by decide) fun d x1 hd0 hd1 => ?_
  push_cast [cutL_from_i _ d hd0, cutL_to_i _ d hd0, cutL_to_i _ n (by omega)]
  change ((allNames.map PV.str).drop d.toNat).length + ((allNames.map PV.str).take d.toNat).length ≤ sizeLine ∧ K (.own (.lst (List.take n.toNat ((allNames.map PV.str).drop d.toNat ++ (allNames.map PV.str).take d.toNat)))) [.own (srcP x1), .val (.int n)]
  simp only [← List.map_drop, ← List.map_take, ← List.map_append]
  have hp : (allNames.drop d.toNat ++ allNames.take d.toNat).Perm allNames := List.perm_append_comm.trans (by rw [List.take_append_drop])
  have hlen : (allNames.drop d.toNat ++ allNames.take d.toNat).length = 11 := hp.length_eq
  refine ⟨?_, k ((allNames.drop d.toNat ++ allNames.take d.toNat).take n.toNat) x1 ?_ ?_ ?_ ?_⟩
  · simp only [List.length_map]; rw [← List.length_append, hlen]; exact sl_le (by omega)
  · rw [List.length_take, hlen]; omega
  · exact (hp.nodup_iff.mpr allNames_nodup).sublist (List.take_sublist _ _)
  · exact fun y hy => allNames_ok y (hp.mem_iff.mp (List.mem_of_mem_take hy))
  · exact fun y hy => hp.mem_iff.mp (List.mem_of_mem_take hy)
theorem w_names {x : Src} {n : Int} {K : Slot → List Slot → Prop} {X : Str → Prop} (h1 : 1 ≤ n) (h2 : n ≤ 11)
    (k : ∀ (ns : List Str) (x' : Src), ns.length = n.toNat → ns.Nodup → (∀ y ∈ ns, isNameB y = true) → K (.own (strsP ns)) [.own (srcP x'), .val (.int n)]) : W2 (m__law_names [.own (srcP x), .val (.int n)]) K X := w_names2 h1 h2 fun ns x' a b c _ => k ns x' a b c
/-- ways with rising bounds, to these names -/
structure WaysOk (ns : List Str) (ws : List (Option Int × Str)) : Prop where
  ex : ∃ (bs : List (Int × Str)) (last : Str), ws = bs.map (fun b => (some b.1, b.2)) ++ [(none, last)] ∧ (bs.map Prod.fst).Pairwise (· < ·) ∧ (∀ b ∈ bs, 1 ≤ b.1 ∧ b.1 < 10 ^ 20 ∧ b.2 ∈ ns) ∧ last ∈ ns
  len : ws.length ≤ 100
structure PlcOk (ns : List Str) (p : Plc) : Prop where
  ways : WaysOk ns p.ways
  few : 0 ≤ p.few ∧ p.few < 10 ^ 20
  most : ∀ m, p.most = some m → 1 ≤ m ∧ m < 10 ^ 20
  cut : ∀ c, p.cut = some c → ∃ m, p.most = some m ∧ 1 ≤ c ∧ c ≤ m
/-- as the law tells it -/
def toldP (p : Plc) : PV := .tup [enc p.ways, .int p.few, enc p.most, enc p.cut]
theorem len_strs (ns : List Str) : pLenA [strsP ns] = .ok (.val (.int ns.length)) := by unfold strsP; rw [o_len_lst, List.length_map]
theorem ix_strs (ns : List Str) (i : Int) : pIxA (strsP ns) (.int i) = pAt (ns.map .str) i := rfl
local macro_rules
  | `(tactic| push_cast [$ts,*]) => `(tactic| simp -dsimp only [$ts,*, f_ways, f_few, f_most, f_cut, i_way, i_splitting, i_joining, i_parts, i_leave, fold_place, e_is_whole, e_splitting, e_parts, e_joining, isi_place, len_strs, ix_strs, fnM_run, wp_ok, wp_exc, wp_stuck, w2_ok, w2_exc, w2_stuck, wp_bind, w2_bind, wp_noX, w2_noX, vat0, vatS, own0, prm0, ownS, own0', ownS', putS0, putSS, roOwn, roPrm, frz0, frzS, kill0, killS, set0, setS, pv_prm, pv_val, pv_own, w_eC, w_eV, w_eBin, w_eUn, w_aNil, w_aCons, w_eTup, w_eLst, w_eN, w_bT, w_bNot, w_bYes, cond2_t, cond2_f, cond2_not, cond2_d, w_bAnd, w_bOr, w_eIf, w_eAnd, w_eOr, w_eNot, chain_b, w_eChain, w_oN, intK_int, w_oS, w_eSl, w_eDct0, w_eBor, w_bBor, w_eMut, ownK_own, w_eMutT, lstK_li, w_eIxO, dctK_dk, getR_some, w_eGetO, w_eCall, w_eMeth, mkK_own, w_eMake, w_eCallR, w_iX, w_iXs, w_iXo, allOwn0, allOwnN, allOwnS, isOwn0, isPrm0, isOwnS, slotO0, slotP0, slotOS, argS0, argSN, argSS, putB0, putBN, putBO, toPo, toPv, backNil, backO, backVal, seqK_nx, seqK_rt, seqK_bk, seqK_ct, w_sSkip, w_sBrk, w_sCnt, w_sSeq, w_sEx, w_sRet, w_sRetN, w_sRaise, w_sRetO, w_sIf, w_sSet, w_sSetO, w_sFrz, w_sPutL, w_sPutD, w_sPutF, w_sFor, w_sForD, w_sAsg, w_sStar, w_tgt, tupK_t, w_gN, w_gT, w_gsNil, w_gsCons, endK_rt, endK_nx, w_fnM, turnK_nx, turnK_ct, turnK_bk, turnK_rt, w_eLc, w_eLc2, lcK_eq, insF_eq, o_pAdd, o_pSub, o_pMod, o_pFdiv, o_pPow, o_pMul, o_pLt, o_pLe, o_pGt, o_pGe, o_pNeg, o_isN_non, o_isN_int, o_isN_str, o_isN_tup, o_isN_lst, o_isN_ins, o_isN_opt, o_isnt, isNon_non, isNon_int, isNon_str, isNon_opt, o_pB, o_tru_bl, o_tru_int, o_tru_lst, o_tru_tup, o_tru_non, o_len_lst, o_len_tup, o_len_scr, o_len_dct, o_list_lst, o_list_tup, o_tuple_lst, o_tuple_tup, o_addL, o_addT, o_ix_lst, o_ix_tup, o_ix_scr, o_ix_dctS, o_ix_dctI, o_in_dctS, o_pAt, atI_0, atI_1, atI_2, atI_3, atI_4, o_eqII, o_eqSS, o_neII, o_neSS, o_eq_dct0, o_max2, o_min2, o_rng1, o_fSeq_lst, o_fSeq_tup, o_fSeq_scr, keyOf_int, keyOf_str, o_isLst, o_isDct, o_append, o_extend, o_slL, o_slT, fld_hit, Int.cast_ofNat_Int, castZ0, castZ1, Int.reduceEq, Int.reduceLT, decide_true, decide_false, Option.isSome_map,  Option.isNone_none, Option.isNone_some,  o_fSeq_str, o_in_sign, o_len_str, o_allB, o_anyB, o_sumI, sdct_len, sdct_look, sdct_items, sdct_keys, sdct_vals, sdct_isEmpty, isi_non_int, isi_non_bool, isi_non_str, isi_non_tuple, isi_non_list, isi_non_dict, isi_bl_int, isi_bl_bool, isi_bl_str, isi_bl_tuple, isi_bl_list, isi_bl_dict, isi_int_int, isi_int_bool, isi_int_str, isi_int_tuple, isi_int_list, isi_int_dict, isi_str_int, isi_str_bool, isi_str_str, isi_str_tuple, isi_str_list, isi_str_dict, isi_tup_int, isi_tup_bool, isi_tup_str, isi_tup_tuple, isi_tup_list, isi_tup_dict, isi_lst_int, isi_lst_bool, isi_lst_str, isi_lst_tuple, isi_lst_list, isi_lst_dict, isi_scr_int, isi_scr_bool, isi_scr_str, isi_scr_tuple, isi_scr_list, isi_scr_dict, isi_dct_int, isi_dct_bool, isi_dct_str, isi_dct_tuple, isi_dct_list, isi_dct_dict,  lset0, lset1, lset2, noOwn0, noOwnS, nvS, nvV, nvD, flat_int, flat_bl, flat_str, flat_non, Bool.and_true, Bool.true_and, Bool.and_self, List.map_cons, List.map_nil, List.replicate_succ, List.replicate_zero, List.cons_append, List.nil_append, List.append_nil, List.length_cons, List.length_nil, Bool.not_true, Bool.not_false, Bool.false_eq_true, if_true, if_false, true_and, and_true, ite_true, ite_false, reduceIte, not_true_eq_false, not_false_eq_true, true_implies, false_implies, implies_true, sl_true, List.set_nil, Nat.reduceAdd, Nat.reduceLeDiff, Nat.reduceLT, Int.reduceLT, Int.reduceLE, Int.reduceAbs, Int.reduceToNat, Int.reducePow, Nat.reducePow, Nat.reduceEqDiff, lgS, cmulXr, cmulXl, List.length_map,  Nat.zero_add])
local macro_rules
  | `(tactic| norm_cast0) => `(tactic| push_cast [wp_ok])
theorem name_at {ns : List Str} {d : Int} (h0 : 0 ≤ d) (h1 : d < ns.length) : ∃ y ∈ ns, atI (ns.map PV.str) d = some (.str y) := by
  obtain ⟨y, hy, e⟩ := atI_mem h0 h1
  exact ⟨y, hy, by rw [atI_map, e]; rfl⟩
end LW

set_option maxRecDepth 100000
set_option maxHeartbeats 1000000
namespace LW
open PySem PySem.Spec L2 BF
open PyProof.Rows hiding St
set_option autoImplicit false
open PE (enc)
local macro_rules
  | `(tactic| push_cast [$ts,*]) => `(tactic| simp -dsimp only [$ts,*, f_ways, f_few, f_most, f_cut, i_way, i_splitting, i_joining, i_parts, i_leave, fold_place, e_is_whole, e_splitting, e_parts, e_joining, isi_place, len_strs, ix_strs, fnM_run, wp_ok, wp_exc, wp_stuck, w2_ok, w2_exc, w2_stuck, wp_bind, w2_bind, wp_noX, w2_noX, vat0, vatS, own0, prm0, ownS, own0', ownS', putS0, putSS, roOwn, roPrm, frz0, frzS, kill0, killS, set0, setS, pv_prm, pv_val, pv_own, w_eC, w_eV, w_eBin, w_eUn, w_aNil, w_aCons, w_eTup, w_eLst, w_eN, w_bT, w_bNot, w_bYes, cond2_t, cond2_f, cond2_not, cond2_d, w_bAnd, w_bOr, w_eIf, w_eAnd, w_eOr, w_eNot, chain_b, w_eChain, w_oN, intK_int, w_oS, w_eSl, w_eDct0, w_eBor, w_bBor, w_eMut, ownK_own, w_eMutT, lstK_li, w_eIxO, dctK_dk, getR_some, w_eGetO, w_eCall, w_eMeth, mkK_own, w_eMake, w_eCallR, w_iX, w_iXs, w_iXo, allOwn0, allOwnN, allOwnS, isOwn0, isPrm0, isOwnS, slotO0, slotP0, slotOS, argS0, argSN, argSS, putB0, putBN, putBO, toPo, toPv, backNil, backO, backVal, seqK_nx, seqK_rt, seqK_bk, seqK_ct, w_sSkip, w_sBrk, w_sCnt, w_sSeq, w_sEx, w_sRet, w_sRetN, w_sRaise, w_sRetO, w_sIf, w_sSet, w_sSetO, w_sFrz, w_sPutL, w_sPutD, w_sPutF, w_sFor, w_sForD, w_sAsg, w_sStar, w_tgt, tupK_t, w_gN, w_gT, w_gsNil, w_gsCons, endK_rt, endK_nx, w_fnM, turnK_nx, turnK_ct, turnK_bk, turnK_rt, w_eLc, w_eLc2, lcK_eq, insF_eq, o_pAdd, o_pSub, o_pMod, o_pFdiv, o_pPow, o_pMul, o_pLt, o_pLe, o_pGt, o_pGe, o_pNeg, o_isN_non, o_isN_int, o_isN_str, o_isN_tup, o_isN_lst, o_isN_ins, o_isN_opt, o_isnt, isNon_non, isNon_int, isNon_str, isNon_opt, o_pB, o_tru_bl, o_tru_int, o_tru_lst, o_tru_tup, o_tru_non, o_len_lst, o_len_tup, o_len_scr, o_len_dct, o_list_lst, o_list_tup, o_tuple_lst, o_tuple_tup, o_addL, o_addT, o_ix_lst, o_ix_tup, o_ix_scr, o_ix_dctS, o_ix_dctI, o_in_dctS, o_pAt, atI_0, atI_1, atI_2, atI_3, atI_4, o_eqII, o_eqSS, o_neII, o_neSS, o_eq_dct0, o_max2, o_min2, o_rng1, o_fSeq_lst, o_fSeq_tup, o_fSeq_scr, keyOf_int, keyOf_str, o_isLst, o_isDct, o_append, o_extend, o_slL, o_slT, fld_hit, Int.cast_ofNat_Int, castZ0, castZ1, Int.reduceEq, Int.reduceLT, decide_true, decide_false, Option.isSome_map,  Option.isNone_none, Option.isNone_some,  o_fSeq_str, o_in_sign, o_len_str, o_allB, o_anyB, o_sumI, sdct_len, sdct_look, sdct_items, sdct_keys, sdct_vals, sdct_isEmpty, isi_non_int, isi_non_bool, isi_non_str, isi_non_tuple, isi_non_list, isi_non_dict, isi_bl_int, isi_bl_bool, isi_bl_str, isi_bl_tuple, isi_bl_list, isi_bl_dict, isi_int_int, isi_int_bool, isi_int_str, isi_int_tuple, isi_int_list, isi_int_dict, isi_str_int, isi_str_bool, isi_str_str, isi_str_tuple, isi_str_list, isi_str_dict, isi_tup_int, isi_tup_bool, isi_tup_str, isi_tup_tuple, isi_tup_list, isi_tup_dict, isi_lst_int, isi_lst_bool, isi_lst_str, isi_lst_tuple, isi_lst_list, isi_lst_dict, isi_scr_int, isi_scr_bool, isi_scr_str, isi_scr_tuple, isi_scr_list, isi_scr_dict, isi_dct_int, isi_dct_bool, isi_dct_str, isi_dct_tuple, isi_dct_list, isi_dct_dict,  lset0, lset1, lset2, noOwn0, noOwnS, nvS, nvV, nvD, flat_int, flat_bl, flat_str, flat_non, Bool.and_true, Bool.true_and, Bool.and_self, List.map_cons, List.map_nil, List.replicate_succ, List.replicate_zero, List.cons_append, List.nil_append, List.append_nil, List.length_cons, List.length_nil, Bool.not_true, Bool.not_false, Bool.false_eq_true, if_true, if_false, true_and, and_true, ite_true, ite_false, reduceIte, not_true_eq_false, not_false_eq_true, true_implies, false_implies, implies_true, sl_true, List.set_nil, Nat.reduceAdd, Nat.reduceLeDiff, Nat.reduceLT, Int.reduceLT, Int.reduceLE, Int.reduceAbs, Int.reduceToNat, Int.reducePow, Nat.reducePow, Nat.reduceEqDiff, lgS, cmulXr, cmulXl, List.length_map,  Nat.zero_add])
local macro_rules
  | `(tactic| norm_cast0) => `(tactic| push_cast [wp_ok])
theorem small_lower : ∀ c ∈ smallZ.cps.toList, 97 ≤ c ∧ c ≤ 122 := by decide +kernel
theorem name_lower {z : Str} (h : isNameB z = true) : lower z = true := by
  unfold isNameB at h
  simp only [Bool.and_eq_true, List.all_eq_true, decide_eq_true_eq] at h
  unfold lower
  rw [List.all_eq_true]
  intro c hc
  have := small_lower c (h.2 c hc)
  simp [this.1, this.2]
theorem name_le8 {z : Str} (h : isNameB z = true) : z.length ≤ 8 := by
  simp only [isNameB, Bool.and_eq_true, decide_eq_true_eq] at h
  have := h.1.2
  omega
def toldD (p : Plc) : PyData := .tuple [PE.dat p.ways, .int p.few, PE.dat p.most, PE.dat p.cut]
theorem told_pd (p : Plc) : (toldP p).pd = some (toldD p) := by
  unfold toldP toldD
  simp only [PV.pd, PV.pds, PE.pd, Option.map_some]
def toldS (p : Plc) : Str := (toldD p).shown
theorem simple_opt (o : Option Int) (h : ∀ m, o = some m → 0 ≤ m) : simple (PE.dat o) = true := by
  cases o with
  | none => rfl
  | some m => simpa [PE.dat, simple] using h m rfl
theorem small_opt (o : Option Int) (h : ∀ m, o = some m → m < 10 ^ 20) : smallB 20 (PE.dat o) = true := by
  cases o with
  | none => rfl
  | some m => simpa [PE.dat, smallB] using h m rfl
theorem simpleAll_map {α : Type} [PE α] : ∀ l : List α, (∀ a ∈ l, simple (PE.dat a) = true) → simpleAll (l.map PE.dat) = true
  | [], _ => rfl
  | a :: l, h => by simp only [List.map_cons, simpleAll, h a (by simp), simpleAll_map l fun x hx => h x (by simp [hx]), Bool.and_self]
theorem smallAll_map {α : Type} [PE α] (k : Nat) : ∀ l : List α, (∀ a ∈ l, smallB k (PE.dat a) = true) → smallAll k (l.map PE.dat) = true
  | [], _ => rfl
  | a :: l, h => by simp only [List.map_cons, smallAll, h a (by simp), smallAll_map k l fun x hx => h x (by simp [hx]), Bool.and_self]
theorem nodesAll_map {α : Type} [PE α] (k : Nat) : ∀ l : List α, (∀ a ∈ l, nodes (PE.dat a) ≤ k) → nodesAll (l.map PE.dat) ≤ k * l.length
  | [], _ => by simp [nodesAll]
  | a :: l, h => by
    have h1 := h a (by simp)
    have h2 := nodesAll_map k l fun x hx => h x (by simp [hx])
    simp only [List.map_cons, nodesAll, List.length_cons, Nat.mul_succ]; omega
theorem WaysOk.mem {ns : List Str} {ws : List (Option Int × Str)} (h : WaysOk ns ws) : ∀ w ∈ ws, w.2 ∈ ns ∧ ∀ b, w.1 = some b → 1 ≤ b ∧ b < 10 ^ 20 := by
  obtain ⟨bs, last, e, _, h2, h3⟩ := h.ex
  intro w hw
  rw [e] at hw
  rcases List.mem_append.mp hw with hw | hw
  · obtain ⟨b, hb, rfl⟩ := List.mem_map.mp hw
    have := h2 b hb
    exact ⟨this.2.2, fun c hc => by simp at hc; subst hc; exact ⟨this.1, this.2.1⟩⟩
  · simp only [List.mem_singleton] at hw
    subst hw
    exact ⟨h3, fun c hc => by simp at hc⟩
section
variable {ns : List Str} (hns : ∀ y ∈ ns, isNameB y = true)
include hns
theorem told_simple {p : Plc} (h : PlcOk ns p) : simple (toldD p) = true ∧ smallB 20 (toldD p) = true := by
  have hw := h.ways.mem
  have a1 : ∀ w ∈ p.ways, simple (PE.dat w) = true := fun w hw' => by
    have h1 := hw w hw'
    show simple (.tuple [PE.dat w.1, PE.dat w.2]) = true
    simp only [simple, simpleAll, simple_opt w.1 fun m hm => by have := (h1.2 m hm).1; omega, Bool.true_and, Bool.and_true]
    exact name_lower (hns _ h1.1)
  have a2 : ∀ w ∈ p.ways, smallB 20 (PE.dat w) = true := fun w hw' => by
    have h1 := hw w hw'
    show smallB 20 (.tuple [PE.dat w.1, PE.dat w.2]) = true
    simp only [smallB, smallAll, small_opt w.1 fun m hm => (h1.2 m hm).2, Bool.true_and, Bool.and_true]
    show decide (w.2.length ≤ 20) = true
    have := name_le8 (hns _ h1.1)
    simp; omega
  have hc1 : ∀ c, p.cut = some c → 0 ≤ c ∧ c < 10 ^ 20 := fun c hc => by
    obtain ⟨m, e, h1, h2⟩ := h.cut c hc
    have := h.most m e
    omega
  constructor
  · show simple (.tuple [.list (p.ways.map PE.dat), .int p.few, PE.dat p.most, PE.dat p.cut]) = true
    simp only [simple, simpleAll, simpleAll_map _ a1, simple_opt p.most fun m hm => by have := (h.most m hm).1; omega, simple_opt p.cut fun m hm => (hc1 m hm).1, h.few.1, decide_true, Bool.and_self]
  · show smallB 20 (.tuple [.list (p.ways.map PE.dat), .int p.few, PE.dat p.most, PE.dat p.cut]) = true
    simp only [smallB, smallAll, smallAll_map 20 _ a2, small_opt p.most fun m hm => (h.most m hm).2, small_opt p.cut fun m hm => (hc1 m hm).2, h.few.2, decide_true, Bool.and_self]
theorem e_told {p : Plc} (h : PlcOk ns p) : pStr [toldP p] = .ok (.val (.str (toldS p))) := by
  obtain ⟨h1, h2⟩ := told_simple hns h
  have hw : ∀ w ∈ p.ways, nodes (PE.dat w) ≤ 3 := fun w _ => by
    show nodes (.tuple [PE.dat w.1, PE.dat w.2]) ≤ 3
    obtain ⟨b, z⟩ := w
    cases b <;> exact Nat.le_refl _
  have hn : nodes (toldD p) ≤ 10000 := by
    have h3 := nodesAll_map 3 p.ways hw
    have h4 := h.ways.len
    show nodes (.tuple [.list (p.ways.map PE.dat), .int p.few, PE.dat p.most, PE.dat p.cut]) ≤ 10000
    have o : ∀ o : Option Int, nodes (PE.dat o) = 1 := fun o => by cases o <;> rfl
    simp only [nodes, nodesAll, o]
    omega
  have hd : (toldD p).depth ≤ 64 := by
    have := PE.dep p.ways
    have h1 := PE.dep p.most
    have h2 := PE.dep p.cut
    have e : PE.dmax (List (Option Int × Str)) = 2 := rfl
    have e2 : PE.dmax (Option Int) = 0 := rfl
    simp only [toldD, PyData.depth, PyData.depthAll]
    omega
  exact o_str_tup (told_pd p) h1 h2 (by omega) (by omega) hd hn
theorem toldS_inj {p q : Plc} (hp : PlcOk ns p) (hq : PlcOk ns q) (h : toldS p = toldS q) : p = q := by
  have := shown_inj (told_simple hns hp).1 (told_simple hns hq).1 h
  simp only [toldD, PyData.tuple.injEq, List.cons.injEq, and_true] at this
  obtain ⟨h1, h2, h3, h4⟩ := this
  have i1 := PE.inj p.ways q.ways (by rw [h1]; exact PE.refl _)
  have i2 : p.few = q.few := by injection h2
  have i3 := PE.inj p.most q.most (by rw [h3]; exact PE.refl _)
  have i4 := PE.inj p.cut q.cut (by rw [h4]; exact PE.refl _)
  cases p; cases q
  simp only at i1 i2 i3 i4
  rw [i1, i2, i3, i4]
end
theorem fSeq_strs (ns : List Str) : fSeq (strsP ns) = .ok (ns.map .str) := rfl
structure ModelOk (m : List (Str × Plc)) : Prop where
  ne : m ≠ []
  len : m.length < 64
  nd : (m.map Prod.fst).Nodup
  nm : ∀ y ∈ m.map Prod.fst, isNameB y = true
  pl : ∀ q ∈ m, PlcOk (m.map Prod.fst) q.2
theorem ways_go {ns : List Str} {ws : List (Option Int × Str)} (h : WaysOk ns ws) (n : Int) : ∃ x, (ws.find? (goB n)).map Prod.snd = some x := by
  obtain ⟨bs, last, e, _⟩ := h.ex
  rw [e, List.find?_append]
  cases (bs.map fun b : Int × Str => ((some b.1, b.2) : Option Int × Str)).find? (goB n) with
  | none => exact ⟨last, by simp [goB]⟩
  | some w => exact ⟨w.2, by simp⟩
theorem ModelOk.rules {m : List (Str × Plc)} (h : ModelOk m) : RulesOk m where
  ne := h.ne
  len := h.len
  nd := h.nd
  nm := fun p hp => h.nm _ (List.mem_map_of_mem hp)
  wl := fun p hp => by have := (h.pl p hp).ways.len; omega
  wy := fun p hp w hw => ((h.pl p hp).ways.mem w hw).1
  go := fun p hp n => ways_go (h.pl p hp).ways n
local macro_rules
  | `(tactic| push_cast [$ts,*]) => `(tactic| simp -dsimp only [$ts,*, f_ways, f_few, f_most, f_cut, i_way, i_splitting, i_joining, i_parts, i_leave, fold_place, e_is_whole, e_splitting, e_parts, e_joining, isi_place, len_strs, ix_strs, fSeq_strs, fnM_run, wp_ok, wp_exc, wp_stuck, w2_ok, w2_exc, w2_stuck, wp_bind, w2_bind, wp_noX, w2_noX, vat0, vatS, own0, prm0, ownS, own0', ownS', putS0, putSS, roOwn, roPrm, frz0, frzS, kill0, killS, set0, setS, pv_prm, pv_val, pv_own, w_eC, w_eV, w_eBin, w_eUn, w_aNil, w_aCons, w_eTup, w_eLst, w_eN, w_bT, w_bNot, w_bYes, cond2_t, cond2_f, cond2_not, cond2_d, w_bAnd, w_bOr, w_eIf, w_eAnd, w_eOr, w_eNot, chain_b, w_eChain, w_oN, intK_int, w_oS, w_eSl, w_eDct0, w_eBor, w_bBor, w_eMut, ownK_own, w_eMutT, lstK_li, w_eIxO, dctK_dk, getR_some, w_eGetO, w_eCall, w_eMeth, mkK_own, w_eMake, w_eCallR, w_iX, w_iXs, w_iXo, allOwn0, allOwnN, allOwnS, isOwn0, isPrm0, isOwnS, slotO0, slotP0, slotOS, argS0, argSN, argSS, putB0, putBN, putBO, toPo, toPv, backNil, backO, backVal, seqK_nx, seqK_rt, seqK_bk, seqK_ct, w_sSkip, w_sBrk, w_sCnt, w_sSeq, w_sEx, w_sRet, w_sRetN, w_sRaise, w_sRetO, w_sIf, w_sSet, w_sSetO, w_sFrz, w_sPutL, w_sPutD, w_sPutF, w_sFor, w_sForD, w_sAsg, w_sStar, w_tgt, tupK_t, w_gN, w_gT, w_gsNil, w_gsCons, endK_rt, endK_nx, w_fnM, turnK_nx, turnK_ct, turnK_bk, turnK_rt, w_eLc, w_eLc2, lcK_eq, insF_eq, o_pAdd, o_pSub, o_pMod, o_pFdiv, o_pPow, o_pMul, o_pLt, o_pLe, o_pGt, o_pGe, o_pNeg, o_isN_non, o_isN_int, o_isN_str, o_isN_tup, o_isN_lst, o_isN_ins, o_isN_opt, o_isnt, isNon_non, isNon_int, isNon_str, isNon_opt, o_pB, o_tru_bl, o_tru_int, o_tru_lst, o_tru_tup, o_tru_non, o_len_lst, o_len_tup, o_len_scr, o_len_dct, o_list_lst, o_list_tup, o_tuple_lst, o_tuple_tup, o_addL, o_addT, o_ix_lst, o_ix_tup, o_ix_scr, o_ix_dctS, o_ix_dctI, o_in_dctS, o_pAt, atI_0, atI_1, atI_2, atI_3, atI_4, o_eqII, o_eqSS, o_neII, o_neSS, o_eq_dct0, o_max2, o_min2, o_rng1, o_fSeq_lst, o_fSeq_tup, o_fSeq_scr, keyOf_int, keyOf_str, o_isLst, o_isDct, o_append, o_extend, o_slL, o_slT, fld_hit, Int.cast_ofNat_Int, castZ0, castZ1, Int.reduceEq, Int.reduceLT, decide_true, decide_false, Option.isSome_map,  Option.isNone_none, Option.isNone_some,  o_fSeq_str, o_in_sign, o_len_str, o_allB, o_anyB, o_sumI, sdct_len, sdct_look, sdct_items, sdct_keys, sdct_vals, sdct_isEmpty, isi_non_int, isi_non_bool, isi_non_str, isi_non_tuple, isi_non_list, isi_non_dict, isi_bl_int, isi_bl_bool, isi_bl_str, isi_bl_tuple, isi_bl_list, isi_bl_dict, isi_int_int, isi_int_bool, isi_int_str, isi_int_tuple, isi_int_list, isi_int_dict, isi_str_int, isi_str_bool, isi_str_str, isi_str_tuple, isi_str_list, isi_str_dict, isi_tup_int, isi_tup_bool, isi_tup_str, isi_tup_tuple, isi_tup_list, isi_tup_dict, isi_lst_int, isi_lst_bool, isi_lst_str, isi_lst_tuple, isi_lst_list, isi_lst_dict, isi_scr_int, isi_scr_bool, isi_scr_str, isi_scr_tuple, isi_scr_list, isi_scr_dict, isi_dct_int, isi_dct_bool, isi_dct_str, isi_dct_tuple, isi_dct_list, isi_dct_dict,  lset0, lset1, lset2, noOwn0, noOwnS, nvS, nvV, nvD, flat_int, flat_bl, flat_str, flat_non, Bool.and_true, Bool.true_and, Bool.and_self, List.map_cons, List.map_nil, List.replicate_succ, List.replicate_zero, List.cons_append, List.nil_append, List.append_nil, List.length_cons, List.length_nil, Bool.not_true, Bool.not_false, Bool.false_eq_true, if_true, if_false, true_and, and_true, ite_true, ite_false, reduceIte, not_true_eq_false, not_false_eq_true, true_implies, false_implies, implies_true, sl_true, List.set_nil, Nat.reduceAdd, Nat.reduceLeDiff, Nat.reduceLT, Int.reduceLT, Int.reduceLE, Int.reduceAbs, Int.reduceToNat, Int.reducePow, Nat.reducePow, Nat.reduceEqDiff, lgS, cmulXr, cmulXl, List.length_map,  Nat.zero_add])
local macro_rules
  | `(tactic| norm_cast0) => `(tactic| push_cast [wp_ok])
def modelP (m : List (Str × Plc)) : PV := .dct (sdct toldP m)
end LW

set_option maxRecDepth 100000
set_option maxHeartbeats 1000000
namespace LW
open PySem PySem.Spec L2 BF
open PyProof.Rows hiding St
set_option autoImplicit false
open PE (enc)
local macro_rules
  | `(tactic| push_cast [$ts,*]) => `(tactic| simp -dsimp only [$ts,*, f_ways, f_few, f_most, f_cut, i_way, i_splitting, i_joining, i_parts, i_leave, fold_place, e_is_whole, e_splitting, e_parts, e_joining, isi_place, len_strs, ix_strs, fnM_run, wp_ok, wp_exc, wp_stuck, w2_ok, w2_exc, w2_stuck, wp_bind, w2_bind, wp_noX, w2_noX, vat0, vatS, own0, prm0, ownS, own0', ownS', putS0, putSS, roOwn, roPrm, frz0, frzS, kill0, killS, set0, setS, pv_prm, pv_val, pv_own, w_eC, w_eV, w_eBin, w_eUn, w_aNil, w_aCons, w_eTup, w_eLst, w_eN, w_bT, w_bNot, w_bYes, cond2_t, cond2_f, cond2_not, cond2_d, w_bAnd, w_bOr, w_eIf, w_eAnd, w_eOr, w_eNot, chain_b, w_eChain, w_oN, intK_int, w_oS, w_eSl, w_eDct0, w_eBor, w_bBor, w_eMut, ownK_own, w_eMutT, lstK_li, w_eIxO, dctK_dk, getR_some, w_eGetO, w_eCall, w_eMeth, mkK_own, w_eMake, w_eCallR, w_iX, w_iXs, w_iXo, allOwn0, allOwnN, allOwnS, isOwn0, isPrm0, isOwnS, slotO0, slotP0, slotOS, argS0, argSN, argSS, putB0, putBN, putBO, toPo, toPv, backNil, backO, backVal, seqK_nx, seqK_rt, seqK_bk, seqK_ct, w_sSkip, w_sBrk, w_sCnt, w_sSeq, w_sEx, w_sRet, w_sRetN, w_sRaise, w_sRetO, w_sIf, w_sSet, w_sSetO, w_sFrz, w_sPutL, w_sPutD, w_sPutF, w_sFor, w_sForD, w_sAsg, w_sStar, w_tgt, tupK_t, w_gN, w_gT, w_gsNil, w_gsCons, endK_rt, endK_nx, w_fnM, turnK_nx, turnK_ct, turnK_bk, turnK_rt, w_eLc, w_eLc2, lcK_eq, insF_eq, o_pAdd, o_pSub, o_pMod, o_pFdiv, o_pPow, o_pMul, o_pLt, o_pLe, o_pGt, o_pGe, o_pNeg, o_isN_non, o_isN_int, o_isN_str, o_isN_tup, o_isN_lst, o_isN_ins, o_isN_opt, o_isnt, isNon_non, isNon_int, isNon_str, isNon_opt, o_pB, o_tru_bl, o_tru_int, o_tru_lst, o_tru_tup, o_tru_non, o_len_lst, o_len_tup, o_len_scr, o_len_dct, o_list_lst, o_list_tup, o_tuple_lst, o_tuple_tup, o_addL, o_addT, o_ix_lst, o_ix_tup, o_ix_scr, o_ix_dctS, o_ix_dctI, o_in_dctS, o_pAt, atI_0, atI_1, atI_2, atI_3, atI_4, o_eqII, o_eqSS, o_neII, o_neSS, o_eq_dct0, o_max2, o_min2, o_rng1, o_fSeq_lst, o_fSeq_tup, o_fSeq_scr, keyOf_int, keyOf_str, o_isLst, o_isDct, o_append, o_extend, o_slL, o_slT, fld_hit, Int.cast_ofNat_Int, castZ0, castZ1, Int.reduceEq, Int.reduceLT, decide_true, decide_false, Option.isSome_map,  Option.isNone_none, Option.isNone_some,  o_fSeq_str, o_in_sign, o_len_str, o_allB, o_anyB, o_sumI, sdct_len, sdct_look, sdct_items, sdct_keys, sdct_vals, sdct_isEmpty, isi_non_int, isi_non_bool, isi_non_str, isi_non_tuple, isi_non_list, isi_non_dict, isi_bl_int, isi_bl_bool, isi_bl_str, isi_bl_tuple, isi_bl_list, isi_bl_dict, isi_int_int, isi_int_bool, isi_int_str, isi_int_tuple, isi_int_list, isi_int_dict, isi_str_int, isi_str_bool, isi_str_str, isi_str_tuple, isi_str_list, isi_str_dict, isi_tup_int, isi_tup_bool, isi_tup_str, isi_tup_tuple, isi_tup_list, isi_tup_dict, isi_lst_int, isi_lst_bool, isi_lst_str, isi_lst_tuple, isi_lst_list, isi_lst_dict, isi_scr_int, isi_scr_bool, isi_scr_str, isi_scr_tuple, isi_scr_list, isi_scr_dict, isi_dct_int, isi_dct_bool, isi_dct_str, isi_dct_tuple, isi_dct_list, isi_dct_dict,  lset0, lset1, lset2, noOwn0, noOwnS, nvS, nvV, nvD, flat_int, flat_bl, flat_str, flat_non, Bool.and_true, Bool.true_and, Bool.and_self, List.map_cons, List.map_nil, List.replicate_succ, List.replicate_zero, List.cons_append, List.nil_append, List.append_nil, List.length_cons, List.length_nil, Bool.not_true, Bool.not_false, Bool.false_eq_true, if_true, if_false, true_and, and_true, ite_true, ite_false, reduceIte, not_true_eq_false, not_false_eq_true, true_implies, false_implies, implies_true, sl_true, List.set_nil, Nat.reduceAdd, Nat.reduceLeDiff, Nat.reduceLT, Int.reduceLT, Int.reduceLE, Int.reduceAbs, Int.reduceToNat, Int.reducePow, Nat.reducePow, Nat.reduceEqDiff, lgS, cmulXr, cmulXl, List.length_map,  Nat.zero_add])
local macro_rules
  | `(tactic| norm_cast0) => `(tactic| push_cast [wp_ok])
theorem lgz {n : Int} (h0 : 0 ≤ n) (h : n ≤ 10 ^ 30) : n.natAbs.log2 < 9000 := by
  have : ((n.natAbs.log2 < 9000) = True) := lgS (by omega)
  rw [this]; trivial
theorem w_place {x : Src} {ns : List Str} {top : Int} {K : Slot → List Slot → Prop} {X : Str → Prop} (hn : ns ≠ []) (hnl : ns.length ≤ 100) (ht : 1 ≤ top) (ht2 : top ≤ 100)
    (k : ∀ (p : Plc) (x' : Src), PlcOk ns p → K (.val (toldP p)) [.own (srcP x'), .val (strsP ns), .val (.int top)]) : W2 (m__law_place [.own (srcP x), .val (strsP ns), .val (.int top)]) K X := by
  have hpos : (0 : Int) < ns.length := by have := List.length_pos_iff.mpr hn; omega
  have hlg : (ns.length : Int).natAbs.log2 < 9000 := lgz (by omega) (by omega)
  unfold m__law_place S__law_place
  norm_cast0
  refine w_next (by omega) (by decide) fun d0 x0 hd0 hd1 => ?_
  norm_cast0
  obtain ⟨v0, hv0, ev0⟩ := atI_mem (xs := [PV.int 3, .int 3, .int 3, .int 7]) hd0 (by simpa using hd1)
  have hq0 : ∃ q : Int, v0 = .int q ∧ 1 ≤ q ∧ q ≤ 7 := by
    simp only [List.mem_cons, List.not_mem_nil, or_false] at hv0
    rcases hv0 with rfl | rfl | rfl | rfl
    · exact ⟨3, rfl, by omega, by omega⟩
    · exact ⟨3, rfl, by omega, by omega⟩
    · exact ⟨3, rfl, by omega, by omega⟩
    · exact ⟨7, rfl, by omega, by omega⟩
  obtain ⟨q0, rfl, hq1, hq2⟩ := hq0
  push_cast [ev0]
  refine w_next (by omega) (lgz (by omega) (by omega)) fun d x1 hd0 hd1 => ?_
  norm_cast0
  refine ⟨by omega, ?_⟩
  refine w_loop (e := fun k : Nat => PV.int k) (fun r ρ => ∃ (x : Src) (bs : List (Int × Str)) (b : Int) (s4 : Slot), ρ = [.prm (srcP x), .val (strsP ns), .val (.int top), .own (.lst ((bs.map fun b : Int × Str => ((some b.1, b.2) : Option Int × Str)).map enc)), .val (.int b), s4, .dead, .dead, .dead] ∧
    bs.length + r.length ≤ 7 ∧ 0 ≤ b ∧ b ≤ 40 - 5 * r.length ∧ (∀ c ∈ bs, 1 ≤ c.1 ∧ c.1 ≤ b ∧ c.2 ∈ ns) ∧ (bs.map Prod.fst).Pairwise (· < ·)) ?_ ?_ _ _ ⟨x1, [], 0, _, rfl, by simp; omega, by omega, by simp; omega, by simp, by simp⟩
  · rintro a r ρ ⟨x, bs, b, s4, rfl, h1, h2, h2', h3, h4⟩
    norm_cast0
    refine w_next (by omega) (by decide) fun d2 x2 hd2 hd3 => ?_
    norm_cast0
    refine w_next hpos hlg fun d3 x3 hd4 hd5 => ?_
    norm_cast0
    obtain ⟨y, hy, e⟩ := name_at hd4 hd5
    push_cast [e]
    have h5 : (bs.map fun b : Int × Str => ((some b.1, b.2) : Option Int × Str)).map enc ++ [PV.tup [.int (b + 1 + d2), .str y]] = (((bs ++ [(b + 1 + d2, y)]).map fun b : Int × Str => ((some b.1, b.2) : Option Int × Str)).map enc) := by
      simp [enc_pair, enc_some, enc_str]
    simp only [List.length_cons] at h1 h2'
    refine ⟨sl_lt (by omega), x3, bs ++ [(b + 1 + d2, y)], b + 1 + d2, _, by rw [← h5], by simp; omega, by omega, by omega, ?_, ?_⟩
    · intro c hc
      rcases List.mem_append.mp hc with hc | hc
      · have := h3 c hc; exact ⟨this.1, by omega, this.2.2⟩
      · simp only [List.mem_singleton] at hc; subst hc; exact ⟨by simp; omega, by simp, hy⟩
    · rw [List.map_append, List.pairwise_append]
      refine ⟨h4, by simp, ?_⟩
      intro u hu v hv
      simp only [List.map_cons, List.map_nil, List.mem_singleton] at hv
      obtain ⟨c, hc, rfl⟩ := List.mem_map.mp hu
      have := h3 c hc
      omega
  · rintro ρ ⟨x, bs, b, s4, rfl, h1, h2, h2', h3, h4⟩
    norm_cast0
    refine w_next hpos hlg fun d3 x3 hd4 hd5 => ?_
    norm_cast0
    obtain ⟨y, hy, e⟩ := name_at hd4 hd5
    push_cast [e]
    refine ⟨sl_lt (by simp at h1; omega), ?_⟩
    refine w_next (by omega) (lgz (by omega) (by omega)) fun f1 x4 hf1 hf2 => ?_
    norm_cast0
    refine w_next (by omega) (by decide) fun f3 x6 hf5 hf6 => ?_
    norm_cast0
    obtain ⟨v, hv, ev⟩ := atI_mem (xs := [PV.int 0, .int 1, .int 2, .int f1]) hf5 (by simpa using hf6)
    have hq : ∃ q : Int, v = .int q ∧ 0 ≤ q ∧ q < 10 ^ 20 := by
      simp only [List.mem_cons, List.not_mem_nil, or_false] at hv
      rcases hv with rfl | rfl | rfl | rfl
      · exact ⟨0, rfl, by omega, by omega⟩
      · exact ⟨1, rfl, by omega, by omega⟩
      · exact ⟨2, rfl, by omega, by omega⟩
      · exact ⟨f1, rfl, hf1, by omega⟩
    obtain ⟨q, rfl, hq0⟩ := hq
    push_cast [ev]
    refine w_next (by omega) (lgz (by omega) (by omega)) fun g1 x7 hg1 hg2 => ?_
    norm_cast0
    refine w_next (by omega) (by decide) fun g3 x9 hg5 hg6 => ?_
    norm_cast0
    obtain ⟨v, hv2, ev2⟩ := atI_mem (xs := [PV.non, .int 1, .int 2, .int 3, .int (1 + g1)]) hg5 (by simpa using hg6)
    have ho : ∃ o : Option Int, v = enc o ∧ ∀ m, o = some m → 1 ≤ m ∧ m ≤ 1000 := by
      simp only [List.mem_cons, List.not_mem_nil, or_false] at hv2
      rcases hv2 with rfl | rfl | rfl | rfl | rfl
      · exact ⟨none, rfl, by simp⟩
      · exact ⟨some 1, rfl, by simp⟩
      · exact ⟨some 2, rfl, by simp⟩
      · exact ⟨some 3, rfl, by simp⟩
      · exact ⟨some (1 + g1), rfl, by simp; omega⟩
    obtain ⟨o, rfl, ho⟩ := ho
    push_cast [ev2]
    have hw : (bs.map fun b : Int × Str => ((some b.1, b.2) : Option Int × Str)).map enc ++ [PV.tup [.non, .str y]] = (bs.map (fun b : Int × Str => ((some b.1, b.2) : Option Int × Str)) ++ [(none, y)]).map enc := by
      simp [enc_pair, enc_none, enc_str]
    have hwok : WaysOk ns (bs.map (fun b : Int × Str => ((some b.1, b.2) : Option Int × Str)) ++ [(none, y)]) :=
      ⟨⟨bs, y, rfl, h4, fun c hc => ⟨(h3 c hc).1, by have := (h3 c hc).2.1; simp at h2'; omega, (h3 c hc).2.2⟩, hy⟩, by simp at h1 ⊢; omega⟩
    rw [hw]
    cases o with
    | none =>
      push_cast [enc_none]
      exact k ⟨_, q, none, none⟩ x9 ⟨hwok, hq0, by simp, by simp⟩
    | some m =>
      push_cast [enc_some]
      refine w_next (by omega) (by decide) fun c1 x10 hc1 hc2 => ?_
      norm_cast0
      have hm := ho m rfl
      refine ⟨fun hc0 => ?_, fun hc0 => ?_⟩
      · refine w_next (by omega) (lgz (by omega) (by omega)) fun c2 x11 hc3 hc4 => ?_
        norm_cast0
        exact k ⟨_, q, some m, some (1 + c2)⟩ x11 ⟨hwok, hq0, by simp; omega, by simp; omega⟩
      · exact k ⟨_, q, some m, none⟩ x10 ⟨hwok, hq0, by simp; omega, by simp⟩
local macro_rules
  | `(tactic| push_cast [$ts,*]) => `(tactic| simp -dsimp only [$ts,*, f_ways, f_few, f_most, f_cut, i_way, i_splitting, i_joining, i_parts, i_leave, fold_place, e_is_whole, e_splitting, e_parts, e_joining, isi_place, len_strs, ix_strs, f_ways, f_few, f_most, f_cut, i_way, i_splitting, i_joining, i_parts, i_leave, fold_place, e_is_whole, e_splitting, e_parts, e_joining, isi_place, len_strs, ix_strs, fSeq_strs, fnM_run, wp_ok, wp_exc, wp_stuck, w2_ok, w2_exc, w2_stuck, wp_bind, w2_bind, wp_noX, w2_noX, vat0, vatS, own0, prm0, ownS, own0', ownS', putS0, putSS, roOwn, roPrm, frz0, frzS, kill0, killS, set0, setS, pv_prm, pv_val, pv_own, w_eC, w_eV, w_eBin, w_eUn, w_aNil, w_aCons, w_eTup, w_eLst, w_eN, w_bT, w_bNot, w_bYes, cond2_t, cond2_f, cond2_not, cond2_d, w_bAnd, w_bOr, w_eIf, w_eAnd, w_eOr, w_eNot, chain_b, w_eChain, w_oN, intK_int, w_oS, w_eSl, w_eDct0, w_eBor, w_bBor, w_eMut, ownK_own, w_eMutT, lstK_li, w_eIxO, dctK_dk, getR_some, w_eGetO, w_eCall, w_eMeth, mkK_own, w_eMake, w_eCallR, w_iX, w_iXs, w_iXo, allOwn0, allOwnN, allOwnS, isOwn0, isPrm0, isOwnS, slotO0, slotP0, slotOS, argS0, argSN, argSS, putB0, putBN, putBO, toPo, toPv, backNil, backO, backVal, seqK_nx, seqK_rt, seqK_bk, seqK_ct, w_sSkip, w_sBrk, w_sCnt, w_sSeq, w_sEx, w_sRet, w_sRetN, w_sRaise, w_sRetO, w_sIf, w_sSet, w_sSetO, w_sFrz, w_sPutL, w_sPutD, w_sPutF, w_sFor, w_sForD, w_sAsg, w_sStar, w_tgt, tupK_t, w_gN, w_gT, w_gsNil, w_gsCons, endK_rt, endK_nx, w_fnM, turnK_nx, turnK_ct, turnK_bk, turnK_rt, w_eLc, w_eLc2, lcK_eq, insF_eq, o_pAdd, o_pSub, o_pMod, o_pFdiv, o_pPow, o_pMul, o_pLt, o_pLe, o_pGt, o_pGe, o_pNeg, o_isN_non, o_isN_int, o_isN_str, o_isN_tup, o_isN_lst, o_isN_ins, o_isN_opt, o_isnt, isNon_non, isNon_int, isNon_str, isNon_opt, o_pB, o_tru_bl, o_tru_int, o_tru_lst, o_tru_tup, o_tru_non, o_len_lst, o_len_tup, o_len_scr, o_len_dct, o_list_lst, o_list_tup, o_tuple_lst, o_tuple_tup, o_addL, o_addT, o_ix_lst, o_ix_tup, o_ix_scr, o_ix_dctS, o_ix_dctI, o_in_dctS, o_pAt, atI_0, atI_1, atI_2, atI_3, atI_4, o_eqII, o_eqSS, o_neII, o_neSS, o_eq_dct0, o_max2, o_min2, o_rng1, o_fSeq_lst, o_fSeq_tup, o_fSeq_scr, keyOf_int, keyOf_str, o_isLst, o_isDct, o_append, o_extend, o_slL, o_slT, fld_hit, Int.cast_ofNat_Int, castZ0, castZ1, Int.reduceEq, Int.reduceLT, decide_true, decide_false, Option.isSome_map,  Option.isNone_none, Option.isNone_some,  o_fSeq_str, o_in_sign, o_len_str, o_allB, o_anyB, o_sumI, sdct_len, sdct_look, sdct_items, sdct_keys, sdct_vals, sdct_isEmpty, isi_non_int, isi_non_bool, isi_non_str, isi_non_tuple, isi_non_list, isi_non_dict, isi_bl_int, isi_bl_bool, isi_bl_str, isi_bl_tuple, isi_bl_list, isi_bl_dict, isi_int_int, isi_int_bool, isi_int_str, isi_int_tuple, isi_int_list, isi_int_dict, isi_str_int, isi_str_bool, isi_str_str, isi_str_tuple, isi_str_list, isi_str_dict, isi_tup_int, isi_tup_bool, isi_tup_str, isi_tup_tuple, isi_tup_list, isi_tup_dict, isi_lst_int, isi_lst_bool, isi_lst_str, isi_lst_tuple, isi_lst_list, isi_lst_dict, isi_scr_int, isi_scr_bool, isi_scr_str, isi_scr_tuple, isi_scr_list, isi_scr_dict, isi_dct_int, isi_dct_bool, isi_dct_str, isi_dct_tuple, isi_dct_list, isi_dct_dict,  lset0, lset1, lset2, noOwn0, noOwnS, nvS, nvV, nvD, flat_int, flat_bl, flat_str, flat_non, Bool.and_true, Bool.true_and, Bool.and_self, List.map_cons, List.map_nil, List.replicate_succ, List.replicate_zero, List.cons_append, List.nil_append, List.append_nil, List.length_cons, List.length_nil, Bool.not_true, Bool.not_false, Bool.false_eq_true, if_true, if_false, true_and, and_true, ite_true, ite_false, reduceIte, not_true_eq_false, not_false_eq_true, true_implies, false_implies, implies_true, sl_true, List.set_nil, Nat.reduceAdd, Nat.reduceLeDiff, Nat.reduceLT, Int.reduceLT, Int.reduceLE, Int.reduceAbs, Int.reduceToNat, Int.reducePow, Nat.reducePow, Nat.reduceEqDiff, lgS, cmulXr, cmulXl, List.length_map,  Nat.zero_add])
local macro_rules
  | `(tactic| norm_cast0) => `(tactic| push_cast [wp_ok])
theorem sdct_set {α : Type} (f : α → PV) (k : Str) (a b : α) (l : List (Str × α)) (h : ∀ p ∈ l, p.1 ≠ k) : dPut (sdct f (l ++ [(k, a)])) (.inr k) (f b) = sdct f (l ++ [(k, b)]) := by
  unfold dPut
  have : (sdct f (l ++ [(k, a)])).any (fun kv => decide (kv.1 = .inr k)) = true := by simp [sdct]
  rw [if_pos this]
  unfold sdct
  rw [List.map_append, List.map_append, List.map_append]
  congr 1
  · rw [List.map_map]
    refine List.map_congr_left fun p hp => ?_
    have : ¬ (Sum.inr p.1 : Key) = .inr k := fun e => h p hp (Sum.inr.inj e)
    simp [this]
  · simp
theorem atI_last {α : Type} (l : List α) (x : α) : atI (l ++ [x]) (-1) = some x := by
  unfold atI ixN
  simp only [List.length_append, List.length_cons, List.length_nil]
  rw [if_neg (by omega), if_pos (by omega)]
  have e : (-1 + ((l.length + (0 + 1) : Nat) : Int)).toNat = l.length := by omega
  simp only [Option.bind_some, e]
  simp
theorem w_model2 {x : Src} {many top : Int} {K : Slot → List Slot → Prop} {X : Str → Prop} (h1 : 1 ≤ many) (h2 : many ≤ 11) (ht : 1 ≤ top) (ht2 : top ≤ 100)
    (k : ∀ (m : List (Str × Plc)) (x' : Src), ModelOk m → (m.length : Int) = many → (∀ y ∈ m.map Prod.fst, y ∈ allNames) → K (.own (modelP m)) [.own (srcP x'), .val (.int many), .val (.int top)]) : W2 (m__law_model [.own (srcP x), .val (.int many), .val (.int top)]) K X := by
  unfold m__law_model S__law_model
  norm_cast0
  refine w_names2 (by omega) (by omega) fun ns x2 hl hn hok hal => ?_
  norm_cast0
  have hne : ns ≠ [] := fun e => by rw [e] at hl; simp at hl; omega
  have hlen : ns.length ≤ 11 := by omega
  refine w_lc (I := fun r acc ρ => ∃ (x : Src) (m0 : List (Str × Plc)) (s2 : Slot), ns = m0.map Prod.fst ++ r ∧ acc = m0.map (fun q => .tup [.str q.1, toldP q.2]) ∧ (∀ q ∈ m0, PlcOk ns q.2) ∧ ρ = [.prm (srcP x), .val (.int many), .val (.int top), .val (strsP ns), .dead, s2])
    ?_ ?_ ns [] _ ⟨x2, [], _, rfl, rfl, by simp, rfl⟩
  · rintro y r acc ρ ⟨x, m0, s2, hm, rfl, hpl, rfl⟩
    norm_cast0
    refine w_place hne (by omega) ht ht2 fun p x' hp => ?_
    norm_cast0
    refine ⟨sl_lt (by have := congrArg List.length hm; simp at this; simp; omega), x', m0 ++ [(y, p)], _, by rw [hm]; simp, by simp, ?_, rfl⟩
    intro q hq
    rcases List.mem_append.mp hq with hq | hq
    · exact hpl q hq
    · simp only [List.mem_singleton] at hq; subst hq; exact hp
  · rintro acc ρ ⟨x, m0, s2, hm, rfl, hpl, rfl⟩
    simp only [List.append_nil] at hm
    have hd := o_dictS toldP m0 (by rw [← hm]; exact hn)
    have hmg : mergeE [5] [.prm (srcP x2), .val (.int many), .val (.int top), .val (strsP ns), .dead, .dead] [.prm (srcP x), .val (.int many), .val (.int top), .val (strsP ns), .dead, s2] = [.prm (srcP x), .val (.int many), .val (.int top), .val (strsP ns), .dead, .dead] := rfl
    push_cast [hd, hmg]
    refine w_next (by omega) (by decide) fun d x3 hd0 hd1 => ?_
    norm_cast0
    have ok : ModelOk m0 := by
      refine ⟨?_, ?_, ?_, ?_, ?_⟩
      · intro e; subst e; simp at hm; exact hne hm
      · have := congrArg List.length hm; simp at this; omega
      · rw [← hm]; exact hn
      · rw [← hm]; exact hok
      · rw [← hm]; exact hpl
    have hml : (m0.length : Int) = many := by have := congrArg List.length hm; simp at this; omega
    refine ⟨fun _ => ?_, fun _ => k m0 x3 ok hml (by rw [← hm]; exact hal)⟩
    have hne0 : m0 ≠ [] := ok.ne
    obtain ⟨mi, ⟨yl, pl⟩, hmi⟩ : ∃ mi z, m0 = mi ++ [z] := ⟨m0.dropLast, m0.getLast hne0, (List.dropLast_concat_getLast hne0).symm⟩
    obtain ⟨⟨y0, p0⟩, mt, hmt⟩ : ∃ z mt, m0 = z :: mt := by
      cases m0 with
      | nil => exact (hne0 rfl).elim
      | cons z mt => exact ⟨z, mt, rfl⟩
    have e0 : atI (ns.map PV.str) 0 = some (.str y0) := by rw [hm, hmt]; exact atI_0 _ _
    have el : atI (ns.map PV.str) (-1) = some (.str yl) := by
      rw [hm, hmi, List.map_append, List.map_append]
      exact atI_last _ _
    have hl0 : m0.lookup y0 = some p0 := by rw [hmt]; simp
    have hmem0 : (y0, p0) ∈ m0 := by rw [hmt]; simp
    have hnd := ok.nd
    have hk : ∀ p ∈ mi, p.1 ≠ yl := by
      intro p hp e
      rw [hmi, List.map_append, List.nodup_append] at hnd
      exact hnd.2.2 p.1 (List.mem_map_of_mem hp) yl (by simp) e
    have hset : dPut (sdct toldP m0) (.inr yl) (toldP p0) = sdct toldP (mi ++ [(yl, p0)]) := by
      rw [hmi]; exact sdct_set toldP yl pl p0 mi hk
    have hns : (mi ++ [(yl, p0)]).map Prod.fst = m0.map Prod.fst := by rw [hmi]; simp
    push_cast [e0, el, hl0, Option.map_some, hset]
    refine ⟨sl_lt (by have := ok.len; omega), k (mi ++ [(yl, p0)]) x3 ⟨by simp, ?_, ?_, ?_, ?_⟩ ?_ (by rw [hns, ← hm]; exact hal)⟩
    · have := congrArg List.length hns; simp at this; have := ok.len; simp; omega
    · rw [hns]; exact ok.nd
    · rw [hns]; exact ok.nm
    · rw [hns]
      intro q hq
      rcases List.mem_append.mp hq with hq | hq
      · exact ok.pl q (by rw [hmi]; simp [hq])
      · simp only [List.mem_singleton] at hq
        subst hq
        exact ok.pl (y0, p0) hmem0
    · have := congrArg List.length hns; simp at this; simp; omega
theorem w_model {x : Src} {many top : Int} {K : Slot → List Slot → Prop} {X : Str → Prop} (h1 : 1 ≤ many) (h2 : many ≤ 11) (ht : 1 ≤ top) (ht2 : top ≤ 100)
    (k : ∀ (m : List (Str × Plc)) (x' : Src), ModelOk m → (m.length : Int) = many → K (.own (modelP m)) [.own (srcP x'), .val (.int many), .val (.int top)]) : W2 (m__law_model [.own (srcP x), .val (.int many), .val (.int top)]) K X := w_model2 h1 h2 ht ht2 fun m x' a b _ => k m x' a b
end LW

set_option maxRecDepth 100000
set_option maxHeartbeats 1000000
namespace LW
open PySem PySem.Spec L2 BF
open PyProof.Rows hiding St
set_option autoImplicit false
open PE (enc)
local macro_rules
  | `(tactic| push_cast [$ts,*]) => `(tactic| simp -dsimp only [$ts,*, f_ways, f_few, f_most, f_cut, i_way, i_splitting, i_joining, i_parts, i_leave, fold_place, e_is_whole, e_splitting, e_parts, e_joining, isi_place, len_strs, ix_strs, fSeq_strs, fnM_run, wp_ok, wp_exc, wp_stuck, w2_ok, w2_exc, w2_stuck, wp_bind, w2_bind, wp_noX, w2_noX, vat0, vatS, own0, prm0, ownS, own0', ownS', putS0, putSS, roOwn, roPrm, frz0, frzS, kill0, killS, set0, setS, pv_prm, pv_val, pv_own, w_eC, w_eV, w_eBin, w_eUn, w_aNil, w_aCons, w_eTup, w_eLst, w_eN, w_bT, w_bNot, w_bYes, cond2_t, cond2_f, cond2_not, cond2_d, w_bAnd, w_bOr, w_eIf, w_eAnd, w_eOr, w_eNot, chain_b, w_eChain, w_oN, intK_int, w_oS, w_eSl, w_eDct0, w_eBor, w_bBor, w_eMut, ownK_own, w_eMutT, lstK_li, w_eIxO, dctK_dk, getR_some, w_eGetO, w_eCall, w_eMeth, mkK_own, w_eMake, w_eCallR, w_iX, w_iXs, w_iXo, allOwn0, allOwnN, allOwnS, isOwn0, isPrm0, isOwnS, slotO0, slotP0, slotOS, argS0, argSN, argSS, putB0, putBN, putBO, toPo, toPv, backNil, backO, backVal, seqK_nx, seqK_rt, seqK_bk, seqK_ct, w_sSkip, w_sBrk, w_sCnt, w_sSeq, w_sEx, w_sRet, w_sRetN, w_sRaise, w_sRetO, w_sIf, w_sSet, w_sSetO, w_sFrz, w_sPutL, w_sPutD, w_sPutF, w_sFor, w_sForD, w_sAsg, w_sStar, w_tgt, tupK_t, w_gN, w_gT, w_gsNil, w_gsCons, endK_rt, endK_nx, w_fnM, turnK_nx, turnK_ct, turnK_bk, turnK_rt, w_eLc, w_eLc2, lcK_eq, insF_eq, o_pAdd, o_pSub, o_pMod, o_pFdiv, o_pPow, o_pMul, o_pLt, o_pLe, o_pGt, o_pGe, o_pNeg, o_isN_non, o_isN_int, o_isN_str, o_isN_tup, o_isN_lst, o_isN_ins, o_isN_opt, o_isnt, isNon_non, isNon_int, isNon_str, isNon_opt, o_pB, o_tru_bl, o_tru_int, o_tru_lst, o_tru_tup, o_tru_non, o_len_lst, o_len_tup, o_len_scr, o_len_dct, o_list_lst, o_list_tup, o_tuple_lst, o_tuple_tup, o_addL, o_addT, o_ix_lst, o_ix_tup, o_ix_scr, o_ix_dctS, o_ix_dctI, o_in_dctS, o_pAt, atI_0, atI_1, atI_2, atI_3, atI_4, o_eqII, o_eqSS, o_neII, o_neSS, o_eq_dct0, o_max2, o_min2, o_rng1, o_fSeq_lst, o_fSeq_tup, o_fSeq_scr, keyOf_int, keyOf_str, o_isLst, o_isDct, o_append, o_extend, o_slL, o_slT, fld_hit, Int.cast_ofNat_Int, castZ0, castZ1, Int.reduceEq, Int.reduceLT, decide_true, decide_false, Option.isSome_map,  Option.isNone_none, Option.isNone_some,  o_fSeq_str, o_in_sign, o_len_str, o_allB, o_anyB, o_sumI, sdct_len, sdct_look, sdct_items, sdct_keys, sdct_vals, sdct_isEmpty, isi_non_int, isi_non_bool, isi_non_str, isi_non_tuple, isi_non_list, isi_non_dict, isi_bl_int, isi_bl_bool, isi_bl_str, isi_bl_tuple, isi_bl_list, isi_bl_dict, isi_int_int, isi_int_bool, isi_int_str, isi_int_tuple, isi_int_list, isi_int_dict, isi_str_int, isi_str_bool, isi_str_str, isi_str_tuple, isi_str_list, isi_str_dict, isi_tup_int, isi_tup_bool, isi_tup_str, isi_tup_tuple, isi_tup_list, isi_tup_dict, isi_lst_int, isi_lst_bool, isi_lst_str, isi_lst_tuple, isi_lst_list, isi_lst_dict, isi_scr_int, isi_scr_bool, isi_scr_str, isi_scr_tuple, isi_scr_list, isi_scr_dict, isi_dct_int, isi_dct_bool, isi_dct_str, isi_dct_tuple, isi_dct_list, isi_dct_dict,  lset0, lset1, lset2, noOwn0, noOwnS, nvS, nvV, nvD, flat_int, flat_bl, flat_str, flat_non, Bool.and_true, Bool.true_and, Bool.and_self, List.map_cons, List.map_nil, List.replicate_succ, List.replicate_zero, List.cons_append, List.nil_append, List.append_nil, List.length_cons, List.length_nil, Bool.not_true, Bool.not_false, Bool.false_eq_true, if_true, if_false, true_and, and_true, ite_true, ite_false, reduceIte, not_true_eq_false, not_false_eq_true, true_implies, false_implies, implies_true, sl_true, List.set_nil, Nat.reduceAdd, Nat.reduceLeDiff, Nat.reduceLT, Int.reduceLT, Int.reduceLE, Int.reduceAbs, Int.reduceToNat, Int.reducePow, Nat.reducePow, Nat.reduceEqDiff, lgS, cmulXr, cmulXl, List.length_map,  Nat.zero_add])
local macro_rules
  | `(tactic| norm_cast0) => `(tactic| push_cast [wp_ok])
theorem e_is_way {w : Option Int × Str} (h1 : isNameB w.2 = true) (h2 : ∀ b, w.1 = some b → 1 ≤ b) : m_is_way [.val (enc w)] = .ok (.val (.bl true), [.val (enc w)]) := by
  apply W2.eq
  unfold m_is_way S_is_way
  have h4 := e_is_name w.2 (name_len h1)
  obtain ⟨b, z⟩ := w
  cases b with
  | none => push_cast [enc_pair, enc_str, enc_none, h4, h1]
  | some b =>
    have := h2 b rfl
    push_cast [enc_pair, enc_str, enc_some, h4, h1, this]
theorem starP_end (l : List PV) (x : PV) : starP 2 0 (l ++ [x]) = [.lst l, x] := by
  unfold starP
  have : (l ++ [x]).length + 1 - 2 = l.length := by simp
  rw [this]
  simp
theorem zip_tail_lt : ∀ l : List Int, l.Pairwise (· < ·) → ((l.zip (l.drop 1)).all fun p => decide (p.1 < p.2)) = true
  | [], _ => rfl
  | [a], _ => rfl
  | a :: b :: l, h => by
    have ih := zip_tail_lt (b :: l) (List.pairwise_cons.mp h).2
    have hab := (List.pairwise_cons.mp h).1 b (by simp)
    simp only [List.drop_succ_cons, List.drop_zero, List.zip_cons_cons, List.all_cons, hab, decide_true, Bool.true_and] at ih ⊢
    exact ih
theorem e_are_ways {ns : List Str} {ws : List (Option Int × Str)} (hns : ∀ y ∈ ns, isNameB y = true) (h : WaysOk ns ws) : m_are_ways [.val (.lst (ws.map enc))] = .ok (.val (.bl true), [.val (.lst (ws.map enc))]) := by
  have hlen := h.len
  have hm := h.mem
  obtain ⟨bs, last, e, hp, _, _⟩ := h.ex
  have hne : ws ≠ [] := by rw [e]; simp
  have hq : pEqA (.lst (ws.map enc)) (.lst []) = .ok (.val (.bl false)) := by
    have := o_eq_enc ws []
    rw [show decide (ws = []) = false by simp [hne]] at this
    exact this
  apply W2.eq
  unfold m_are_ways S_are_ways
  push_cast [hq]
  refine w_comp0 (fun _ => .bl true) _ (fun _ _ => rfl) (fun _ _ => rfl) (fun w hw => ?_) (sl_le (by omega)) fun ρ' hr => ?_
  · have hw' := hm w hw
    have hi := e_is_way (hns _ hw'.1) fun b hb => (hw'.2 b hb).1
    push_cast [hi]
  · have ha : (ws.all fun _ => true) = true := by simp
    push_cast [hr, ha]
    refine w_comp0 (fun w => enc w.1) _ (fun _ _ => rfl) (fun _ _ => rfl) (fun w hw => ?_) (sl_le (by omega)) fun ρ2 hr2 => ?_
    · norm_cast0
    · have hl : (ws.map fun w => (enc w.1 : PV)) = (bs.map Prod.fst).map PV.int ++ [.non] := by
        rw [e]; simp [enc_some, enc_none, Function.comp_def]
      have hbl : bs.length ≤ 100 := by rw [e] at hlen; simp at hlen; omega
      have hin : pIn false .non (.lst ((bs.map Prod.fst).map PV.int)) = .ok (.val (.bl false)) := by
        have := pIn_lst (α := Option Int) ((bs.map Prod.fst).map some) none false
        simpa [enc_some, enc_none, Function.comp_def] using this
      rw [hl]
      push_cast [hr2, starP_end, List.length_append]
      have hcut : cutL ((bs.map Prod.fst).map PV.int) (some 1) none = ((bs.map Prod.fst).map PV.int).drop 1 := cutL_from _ 1
      refine ⟨by omega, ?_⟩
      push_cast [hin, hcut]
      have hz : (((bs.map Prod.fst).map PV.int).zip (((bs.map Prod.fst).map PV.int).drop 1)).map (fun p => PV.tup [p.1, p.2]) = ((bs.map Prod.fst).zip ((bs.map Prod.fst).drop 1)).map fun p => .tup [.int p.1, .int p.2] := by
        rw [← List.map_drop, List.zip_map, List.map_map]; rfl
      simp only [fZip]
      rw [hz]
      norm_cast0
      refine w_comp0 (fun p => .bl (decide (p.1 < p.2))) _ (fun _ _ => rfl) (fun _ _ => rfl) (fun w hw => ?_) (sl_le (by simp; omega)) fun ρ3 hr3 => ?_
      · norm_cast0
      · have hz2 := zip_tail_lt _ hp
        push_cast [hr3, hz2]
theorem pf1 (a : PV) : putFP "held_ways" a [] = ([("held_ways", a)] : List (Str × PV)) := rfl
theorem pf2 (a b : PV) : putFP "held_few" b [("held_ways", a)] = ([("held_ways", a), ("held_few", b)] : List (Str × PV)) := rfl
theorem pf3 (a b c : PV) : putFP "held_most" c [("held_ways", a), ("held_few", b)] = ([("held_ways", a), ("held_few", b), ("held_most", c)] : List (Str × PV)) := rfl
theorem pf4 (a b c d : PV) : putFP "held_cut" d [("held_ways", a), ("held_few", b), ("held_most", c)] = ([("held_ways", a), ("held_few", b), ("held_most", c), ("held_cut", d)] : List (Str × PV)) := rfl
theorem e_init {ns : List Str} {p : Plc} (hns : ∀ y ∈ ns, isNameB y = true) (h : PlcOk ns p) :
    m_Place___init__ [.own (.ins "Place" []), .val (.lst (p.ways.map enc)), .val (.int p.few), .val (enc p.most), .val (enc p.cut)] = .ok (.val .non, [.own (placeP p), .val (.lst (p.ways.map enc)), .val (.int p.few), .val (enc p.most), .val (enc p.cut)]) := by
  apply W2.eq
  unfold m_Place___init__ S_Place___init__
  have h1 := e_are_ways hns h.ways
  have h2 := h.few.1
  have hm := h.most
  have hc := h.cut
  have fin : ∀ P : Plc, PV.ins "Place" [("held_ways", .lst (P.ways.map enc)), ("held_few", .int P.few), ("held_most", enc P.most), ("held_cut", enc P.cut)] = placeP P := fun _ => rfl
  have f := fin p
  obtain ⟨ws, few, most, cut⟩ := p
  simp only at h1 h2 hm hc f
  cases most with
  | none =>
    cases cut with
    | none =>
      rw [← f]
      push_cast [h1, h2, enc_none, pf1, pf2, pf3, pf4, Nat.reduceLT]
    | some c => obtain ⟨m, e, _⟩ := hc c rfl; cases e
  | some m =>
    have hm1 := (hm m rfl).1
    cases cut with
    | none =>
      rw [← f]
      push_cast [h1, h2, enc_none, enc_some, hm1, pf1, pf2, pf3, pf4, Nat.reduceLT]
    | some c =>
      obtain ⟨m', e, hc1, hc2⟩ := hc c rfl
      cases e
      have hc3 : ¬ m < c := by omega
      rw [← f]
      push_cast [h1, h2, enc_none, enc_some, hm1, hc1, hc3, pf1, pf2, pf3, pf4, Nat.reduceLT]
def sput {α : Type} (k : Str) (a : α) (l : List (Str × α)) : List (Str × α) := l ++ [(k, a)]
theorem t_ix0 (p : Plc) : pIxA (toldP p) (.int 0) = .ok (.val (.lst (p.ways.map enc))) := by
  unfold toldP; exact WP.eq (by norm_cast0; rfl)
theorem t_ix1 (p : Plc) : pIxA (toldP p) (.int 1) = .ok (.val (.int p.few)) := by
  unfold toldP; exact WP.eq (by norm_cast0)
theorem t_ix2 (p : Plc) : pIxA (toldP p) (.int 2) = .ok (.val (enc p.most)) := by
  unfold toldP; exact WP.eq (by norm_cast0)
theorem t_ix3 (p : Plc) : pIxA (toldP p) (.int 3) = .ok (.val (enc p.cut)) := by
  unfold toldP; exact WP.eq (by norm_cast0)
theorem items_model (m : List (Str × Plc)) : fItems (modelP m) = .ok (m.map fun q => .tup [.str q.1, toldP q.2]) := sdct_items toldP m
theorem lookup_app {α : Type} (k : Str) (a : α) : ∀ l : List (Str × α), l.lookup k = none → (l ++ [(k, a)]).lookup k = some a
  | [], _ => by simp
  | (j, b) :: l, h => by
    rw [List.lookup_cons] at h
    rw [List.cons_append, List.lookup_cons]
    cases e : (k == j) with
    | true => rw [e] at h; simp at h
    | false => rw [e] at h; simp only at h ⊢; exact lookup_app k a l h
theorem lookup_app_some {α : Type} (k : Str) (x : Str × α) (a : α) : ∀ l : List (Str × α), l.lookup k = some a → (l ++ [x]).lookup k = some a
  | [], h => by simp at h
  | (j, b) :: l, h => by
    rw [List.lookup_cons] at h
    rw [List.cons_append, List.lookup_cons]
    cases e : (k == j) with
    | true => rw [e] at h; exact h
    | false => rw [e] at h; simp only at h ⊢; exact lookup_app_some k x a l h
theorem lookup_none {α : Type} (k : Str) : ∀ l : List (Str × α), l.lookup k = none → ∀ p ∈ l, p.1 ≠ k
  | [], _, p, hp => by simp at hp
  | (j, b) :: l, h, p, hp => by
    rw [List.lookup_cons] at h
    cases e : (k == j) with
    | true => rw [e] at h; simp at h
    | false =>
      rw [e] at h
      rcases List.mem_cons.mp hp with rfl | hp
      · intro z; simp only at z; subst z; simp at e
      · exact lookup_none k l h p hp
local macro_rules
  | `(tactic| push_cast [$ts,*]) => `(tactic| simp -dsimp only [$ts,*, f_ways, f_few, f_most, f_cut, i_way, i_splitting, i_joining, i_parts, i_leave, fold_place, e_is_whole, e_splitting, e_parts, e_joining, isi_place, len_strs, ix_strs, fSeq_strs, items_model, t_ix0, t_ix1, t_ix2, t_ix3, fnM_run, wp_ok, wp_exc, wp_stuck, w2_ok, w2_exc, w2_stuck, wp_bind, w2_bind, wp_noX, w2_noX, vat0, vatS, own0, prm0, ownS, own0', ownS', putS0, putSS, roOwn, roPrm, frz0, frzS, kill0, killS, set0, setS, pv_prm, pv_val, pv_own, w_eC, w_eV, w_eBin, w_eUn, w_aNil, w_aCons, w_eTup, w_eLst, w_eN, w_bT, w_bNot, w_bYes, cond2_t, cond2_f, cond2_not, cond2_d, w_bAnd, w_bOr, w_eIf, w_eAnd, w_eOr, w_eNot, chain_b, w_eChain, w_oN, intK_int, w_oS, w_eSl, w_eDct0, w_eBor, w_bBor, w_eMut, ownK_own, w_eMutT, lstK_li, w_eIxO, dctK_dk, getR_some, w_eGetO, w_eCall, w_eMeth, mkK_own, w_eMake, w_eCallR, w_iX, w_iXs, w_iXo, allOwn0, allOwnN, allOwnS, isOwn0, isPrm0, isOwnS, slotO0, slotP0, slotOS, argS0, argSN, argSS, putB0, putBN, putBO, toPo, toPv, backNil, backO, backVal, seqK_nx, seqK_rt, seqK_bk, seqK_ct, w_sSkip, w_sBrk, w_sCnt, w_sSeq, w_sEx, w_sRet, w_sRetN, w_sRaise, w_sRetO, w_sIf, w_sSet, w_sSetO, w_sFrz, w_sPutL, w_sPutD, w_sPutF, w_sFor, w_sForD, w_sAsg, w_sStar, w_tgt, tupK_t, w_gN, w_gT, w_gsNil, w_gsCons, endK_rt, endK_nx, w_fnM, turnK_nx, turnK_ct, turnK_bk, turnK_rt, w_eLc, w_eLc2, lcK_eq, insF_eq, o_pAdd, o_pSub, o_pMod, o_pFdiv, o_pPow, o_pMul, o_pLt, o_pLe, o_pGt, o_pGe, o_pNeg, o_isN_non, o_isN_int, o_isN_str, o_isN_tup, o_isN_lst, o_isN_ins, o_isN_opt, o_isnt, isNon_non, isNon_int, isNon_str, isNon_opt, o_pB, o_tru_bl, o_tru_int, o_tru_lst, o_tru_tup, o_tru_non, o_len_lst, o_len_tup, o_len_scr, o_len_dct, o_list_lst, o_list_tup, o_tuple_lst, o_tuple_tup, o_addL, o_addT, o_ix_lst, o_ix_tup, o_ix_scr, o_ix_dctS, o_ix_dctI, o_in_dctS, o_pAt, atI_0, atI_1, atI_2, atI_3, atI_4, o_eqII, o_eqSS, o_neII, o_neSS, o_eq_dct0, o_max2, o_min2, o_rng1, o_fSeq_lst, o_fSeq_tup, o_fSeq_scr, keyOf_int, keyOf_str, o_isLst, o_isDct, o_append, o_extend, o_slL, o_slT, fld_hit, Int.cast_ofNat_Int, castZ0, castZ1, Int.reduceEq, Int.reduceLT, decide_true, decide_false, Option.isSome_map,  Option.isNone_none, Option.isNone_some,  o_fSeq_str, o_in_sign, o_len_str, o_allB, o_anyB, o_sumI, sdct_len, sdct_look, sdct_items, sdct_keys, sdct_vals, sdct_isEmpty, isi_non_int, isi_non_bool, isi_non_str, isi_non_tuple, isi_non_list, isi_non_dict, isi_bl_int, isi_bl_bool, isi_bl_str, isi_bl_tuple, isi_bl_list, isi_bl_dict, isi_int_int, isi_int_bool, isi_int_str, isi_int_tuple, isi_int_list, isi_int_dict, isi_str_int, isi_str_bool, isi_str_str, isi_str_tuple, isi_str_list, isi_str_dict, isi_tup_int, isi_tup_bool, isi_tup_str, isi_tup_tuple, isi_tup_list, isi_tup_dict, isi_lst_int, isi_lst_bool, isi_lst_str, isi_lst_tuple, isi_lst_list, isi_lst_dict, isi_scr_int, isi_scr_bool, isi_scr_str, isi_scr_tuple, isi_scr_list, isi_scr_dict, isi_dct_int, isi_dct_bool, isi_dct_str, isi_dct_tuple, isi_dct_list, isi_dct_dict,  lset0, lset1, lset2, noOwn0, noOwnS, nvS, nvV, nvD, flat_int, flat_bl, flat_str, flat_non, Bool.and_true, Bool.true_and, Bool.and_self, List.map_cons, List.map_nil, List.replicate_succ, List.replicate_zero, List.cons_append, List.nil_append, List.append_nil, List.length_cons, List.length_nil, Bool.not_true, Bool.not_false, Bool.false_eq_true, if_true, if_false, true_and, and_true, ite_true, ite_false, reduceIte, not_true_eq_false, not_false_eq_true, true_implies, false_implies, implies_true, sl_true, List.set_nil, Nat.reduceAdd, Nat.reduceLeDiff, Nat.reduceLT, Int.reduceLT, Int.reduceLE, Int.reduceAbs, Int.reduceToNat, Int.reducePow, Nat.reducePow, Nat.reduceEqDiff, lgS, cmulXr, cmulXl, List.length_map,  Nat.zero_add])
local macro_rules
  | `(tactic| norm_cast0) => `(tactic| push_cast [wp_ok])
theorem e_made (m : List (Str × Plc)) (h : ModelOk m) : m__law_made [.val (modelP m)] = .ok (.own (rulesP m), [.val (modelP m)]) := by
  apply W2.eq
  unfold m__law_made S__law_made
  norm_cast0
  refine w_loop (e := fun q : Str × Plc => .tup [.str q.1, toldP q.2]) (fun r ρ => ∃ (m0 hs : List (Str × Plc)) (s3 s4 : Slot), m = m0 ++ r ∧ ρ = [.val (modelP m), .own (.dct (sdct placeP m0)), .own (.dct (sdct placeP hs)), s3, s4] ∧
    hs.length ≤ m0.length ∧ (∀ e ∈ hs, e.1 = toldS e.2 ∧ PlcOk (m.map Prod.fst) e.2)) ?_ ?_ m _ ⟨[], [], _, _, rfl, rfl, by simp, by simp⟩
  · rintro ⟨x, p⟩ r ρ ⟨m0, hs, s3, s4, hm, rfl, hl, hh⟩
    have hmem : (x, p) ∈ m := by rw [hm]; simp
    have hp := h.pl _ hmem
    have hs1 := e_told h.nm hp
    have hlen := h.len
    have hm0 : m0.length < 64 := by rw [hm] at hlen; simp at hlen; omega
    have hx : ∀ q ∈ m0, q.1 ≠ x := by
      have := h.nd
      rw [hm, List.map_append, List.nodup_append] at this
      intro q hq e
      exact this.2.2 q.1 (List.mem_map_of_mem hq) x (by simp) e
    have put1 := sdct_put placeP x p m0 hx
    norm_cast0
    simp only at hs1
    cases hk : hs.lookup (toldS p) with
    | none =>
      have hi := e_init (p := p) h.nm hp
      have put2 := sdct_put placeP (toldS p) p hs (lookup_none _ _ hk)
      have hk2 := lookup_app (toldS p) p hs hk
      push_cast [hs1, hk, Option.map_none, Option.isSome_none, gp_mk_Place_0, hi, put1, put2, hk2, Option.map_some]
      refine ⟨sl_lt (by omega), sl_lt (by omega), m0 ++ [(x, p)], hs ++ [(toldS p, p)], _, _, by rw [hm]; simp, rfl, by simp; omega, ?_⟩
      intro e he
      rcases List.mem_append.mp he with he | he
      · exact hh e he
      · simp only [List.mem_singleton] at he; subst he; exact ⟨rfl, hp⟩
    | some q =>
      have hq := hh _ (lookup_mem hk)
      have e : q = p := (toldS_inj h.nm hp hq.2 (by simpa using hq.1)).symm
      subst e
      push_cast [hs1, hk, Option.map_some, Option.isSome_some, put1]
      exact ⟨sl_lt (by omega), m0 ++ [(x, q)], hs, _, _, by rw [hm]; simp, rfl, by simp; omega, hh⟩
  · rintro ρ ⟨m0, hs, s3, s4, hm, rfl, hl, hh⟩
    simp only [List.append_nil] at hm
    subst hm
    norm_cast0
    rfl
theorem sorted_model (m : List (Str × Plc)) (h : m.length < 64) : pSortedA false [modelP m] = .ok (.own (.lst ((srt (m.map Prod.fst)).map enc))) := o_sorted_dct toldP m h
theorem keys_model (m : List (Str × Plc)) : fKeys (modelP m) = .ok (m.map fun q => .str q.1) := sdct_keys toldP m
theorem l_model (m : List (Str × Plc)) (x : Str) {Q : Slot → Prop} {X : Str → Prop} : WP (pIxA (modelP m) (.str x)) Q X = WP (getR ((m.lookup x).map toldP)) (fun y => Q (.val y)) X := by
  unfold modelP; rw [o_ix_dctS, sdct_look]
end LW

set_option maxRecDepth 100000
set_option maxHeartbeats 1000000
namespace LW
open PySem PySem.Spec L2 BF
open PyProof.Rows hiding St
set_option autoImplicit false
open PE (enc)
def badWays : List PV := [.lst [], .non, .str "a", .tup [.tup [.non, .str "a"]], .lst [.tup [.non, .str "a"], .tup [.non, .str "a"]], .lst [.tup [.int 1, .str "a"]], .dct [],
  .lst [.tup [.int 2, .str "a"], .tup [.int 1, .str "a"], .tup [.non, .str "a"]], .lst [.tup [.int 1, .str "a"], .tup [.int 1, .str "b"], .tup [.non, .str "a"]], .lst [.tup [.int 0, .str "a"], .tup [.non, .str "a"]],
  .lst [.tup [.non, .str "A"]], .lst [.tup [.non, .str ""]], .lst [.lst [.non, .str "a"]], .lst [.tup [.non, .str "a", .int 1]], .lst [.tup [.bl true, .str "a"], .tup [.non, .str "a"]],
  .lst [.tup [.non, .int 5]], .lst [.tup [.non, .str "ninesigns"]], .lst [.tup [.int (-1), .str "a"], .tup [.non, .str "a"]], .lst [.tup [.non, .str "a1"]], .lst [.tup [.non, .str "aB"]], .lst [.tup [.non, .str "1"]]]
def noWayB (w : PV) : Bool := match m_are_ways [.val w] with
  | .ok (.val (.bl false), [.val _]) => true
  | _ => false
theorem bad_all : (badWays.all noWayB) = true := by decide +kernel
theorem bad_are {w : PV} (h : w ∈ badWays) : ∃ ss, m_are_ways [.val w] = .ok (.val (.bl false), ss) := by
  have := List.all_eq_true.mp bad_all w h
  unfold noWayB at this
  split at this
  · rename_i x e; exact ⟨_, e⟩
  · cases this
def wholeB (x : PV) (n : Int) (b : Bool) : Bool := match m_is_whole [.val x, .val (.int n)] with
  | .ok (.val (.bl c), [_, _]) => c == b
  | _ => false
theorem whole_of {x : PV} {n : Int} {b : Bool} (h : wholeB x n b = true) : ∃ ss, m_is_whole [.val x, .val (.int n)] = .ok (.val (.bl b), ss) := by
  unfold wholeB at h
  split at h
  · rename_i c s1 s2 e
    have : c = b := by simpa using h
    subst this; exact ⟨_, e⟩
  · cases h
def oddL : List PV := [.int (-1), .non, .str "1", .bl true, .lst [.int 1], .tup [.int 1]]
def mostL : List PV := [.int 0, .int (-1), .str "3", .bl true, .lst [.int 3], .bl false]
def cutL0 : List PV := [.int 0, .int (-1), .str "1", .bl true, .lst [.int 1]]
def sizeL : List PV := [.int 0, .int (-1), .bl true, .bl false, .non, .str "1", .tup [.int 1], .lst [.int 1], .int (-1000000000000)]
theorem odd_all : (oddL.all fun x => wholeB x 0 false) = true := by decide +kernel
theorem most_all : (mostL.all fun x => wholeB x 1 false && !x.isNon) = true := by decide +kernel
theorem cut_all : (cutL0.all fun x => wholeB x 1 false && !x.isNon) = true := by decide +kernel
theorem size_all : (sizeL.all fun x => wholeB x 1 false) = true := by decide +kernel
local macro_rules
  | `(tactic| push_cast [$ts,*]) => `(tactic| simp -dsimp only [$ts,*, f_ways, f_few, f_most, f_cut, i_way, i_splitting, i_joining, i_parts, i_leave, fold_place, e_is_whole, e_splitting, e_parts, e_joining, isi_place, len_strs, ix_strs, fSeq_strs, items_model, t_ix0, t_ix1, t_ix2, t_ix3, keys_model, l_model, fnM_run, wp_ok, wp_exc, wp_stuck, w2_ok, w2_exc, w2_stuck, wp_bind, w2_bind, wp_noX, w2_noX, vat0, vatS, own0, prm0, ownS, own0', ownS', putS0, putSS, roOwn, roPrm, frz0, frzS, kill0, killS, set0, setS, pv_prm, pv_val, pv_own, w_eC, w_eV, w_eBin, w_eUn, w_aNil, w_aCons, w_eTup, w_eLst, w_eN, w_bT, w_bNot, w_bYes, cond2_t, cond2_f, cond2_not, cond2_d, w_bAnd, w_bOr, w_eIf, w_eAnd, w_eOr, w_eNot, chain_b, w_eChain, w_oN, intK_int, w_oS, w_eSl, w_eDct0, w_eBor, w_bBor, w_eMut, ownK_own, w_eMutT, lstK_li, w_eIxO, dctK_dk, getR_some, w_eGetO, w_eCall, w_eMeth, mkK_own, w_eMake, w_eCallR, w_iX, w_iXs, w_iXo, allOwn0, allOwnN, allOwnS, isOwn0, isPrm0, isOwnS, slotO0, slotP0, slotOS, argS0, argSN, argSS, putB0, putBN, putBO, toPo, toPv, backNil, backO, backVal, seqK_nx, seqK_rt, seqK_bk, seqK_ct, w_sSkip, w_sBrk, w_sCnt, w_sSeq, w_sEx, w_sRet, w_sRetN, w_sRaise, w_sRetO, w_sIf, w_sSet, w_sSetO, w_sFrz, w_sPutL, w_sPutD, w_sPutF, w_sFor, w_sForD, w_sAsg, w_sStar, w_tgt, tupK_t, w_gN, w_gT, w_gsNil, w_gsCons, endK_rt, endK_nx, w_fnM, turnK_nx, turnK_ct, turnK_bk, turnK_rt, w_eLc, w_eLc2, lcK_eq, insF_eq, o_pAdd, o_pSub, o_pMod, o_pFdiv, o_pPow, o_pMul, o_pLt, o_pLe, o_pGt, o_pGe, o_pNeg, o_isN_non, o_isN_int, o_isN_str, o_isN_tup, o_isN_lst, o_isN_ins, o_isN_opt, o_isnt, isNon_non, isNon_int, isNon_str, isNon_opt, o_pB, o_tru_bl, o_tru_int, o_tru_lst, o_tru_tup, o_tru_non, o_len_lst, o_len_tup, o_len_scr, o_len_dct, o_list_lst, o_list_tup, o_tuple_lst, o_tuple_tup, o_addL, o_addT, o_ix_lst, o_ix_tup, o_ix_scr, o_ix_dctS, o_ix_dctI, o_in_dctS, o_pAt, atI_0, atI_1, atI_2, atI_3, atI_4, o_eqII, o_eqSS, o_neII, o_neSS, o_eq_dct0, o_max2, o_min2, o_rng1, o_fSeq_lst, o_fSeq_tup, o_fSeq_scr, keyOf_int, keyOf_str, o_isLst, o_isDct, o_append, o_extend, o_slL, o_slT, fld_hit, Int.cast_ofNat_Int, castZ0, castZ1, Int.reduceEq, Int.reduceLT, decide_true, decide_false, Option.isSome_map,  Option.isNone_none, Option.isNone_some,  o_fSeq_str, o_in_sign, o_len_str, o_allB, o_anyB, o_sumI, sdct_len, sdct_look, sdct_items, sdct_keys, sdct_vals, sdct_isEmpty, isi_non_int, isi_non_bool, isi_non_str, isi_non_tuple, isi_non_list, isi_non_dict, isi_bl_int, isi_bl_bool, isi_bl_str, isi_bl_tuple, isi_bl_list, isi_bl_dict, isi_int_int, isi_int_bool, isi_int_str, isi_int_tuple, isi_int_list, isi_int_dict, isi_str_int, isi_str_bool, isi_str_str, isi_str_tuple, isi_str_list, isi_str_dict, isi_tup_int, isi_tup_bool, isi_tup_str, isi_tup_tuple, isi_tup_list, isi_tup_dict, isi_lst_int, isi_lst_bool, isi_lst_str, isi_lst_tuple, isi_lst_list, isi_lst_dict, isi_scr_int, isi_scr_bool, isi_scr_str, isi_scr_tuple, isi_scr_list, isi_scr_dict, isi_dct_int, isi_dct_bool, isi_dct_str, isi_dct_tuple, isi_dct_list, isi_dct_dict,  lset0, lset1, lset2, noOwn0, noOwnS, nvS, nvV, nvD, flat_int, flat_bl, flat_str, flat_non, Bool.and_true, Bool.true_and, Bool.and_self, List.map_cons, List.map_nil, List.replicate_succ, List.replicate_zero, List.cons_append, List.nil_append, List.append_nil, List.length_cons, List.length_nil, Bool.not_true, Bool.not_false, Bool.false_eq_true, if_true, if_false, true_and, and_true, ite_true, ite_false, reduceIte, not_true_eq_false, not_false_eq_true, true_implies, false_implies, implies_true, sl_true, List.set_nil, Nat.reduceAdd, Nat.reduceLeDiff, Nat.reduceLT, Int.reduceLT, Int.reduceLE, Int.reduceAbs, Int.reduceToNat, Int.reducePow, Nat.reducePow, Nat.reduceEqDiff, lgS, cmulXr, cmulXl, List.length_map,  Nat.zero_add])
local macro_rules
  | `(tactic| norm_cast0) => `(tactic| push_cast [wp_ok])
theorem init_ways {w f mo c : PV} {ss : List Slot} (h : m_are_ways [.val w] = .ok (.val (.bl false), ss)) : m_Place___init__ [.own (.ins "Place" []), .val w, .val f, .val mo, .val c] = .exc "NoPlace" := by
  apply W2.raises
  unfold m_Place___init__ S_Place___init__
  push_cast [h]
theorem init_few {w f mo c : PV} {ss s1 : List Slot} (h : m_are_ways [.val w] = .ok (.val (.bl true), ss)) (h1 : m_is_whole [.val f, .val (.int 0)] = .ok (.val (.bl false), s1)) :
    m_Place___init__ [.own (.ins "Place" []), .val w, .val f, .val mo, .val c] = .exc "NoPlace" := by
  apply W2.raises
  unfold m_Place___init__ S_Place___init__
  push_cast [h, h1]
theorem init_most {w f mo c : PV} {ss s1 s2 : List Slot} (h : m_are_ways [.val w] = .ok (.val (.bl true), ss)) (h1 : m_is_whole [.val f, .val (.int 0)] = .ok (.val (.bl true), s1)) (h2 : m_is_whole [.val mo, .val (.int 1)] = .ok (.val (.bl false), s2)) (h3 : mo.isNon = false) :
    m_Place___init__ [.own (.ins "Place" []), .val w, .val f, .val mo, .val c] = .exc "NoPlace" := by
  apply W2.raises
  unfold m_Place___init__ S_Place___init__
  push_cast [h, h1, h2, h3]
theorem init_cut {w f mo c : PV} {ss s1 s2 s3 : List Slot} (h : m_are_ways [.val w] = .ok (.val (.bl true), ss)) (h1 : m_is_whole [.val f, .val (.int 0)] = .ok (.val (.bl true), s1)) (h2 : mo.isNon = true ∨ m_is_whole [.val mo, .val (.int 1)] = .ok (.val (.bl true), s2)) (h3 : c.isNon = false)
    (h4 : m_is_whole [.val c, .val (.int 1)] = .ok (.val (.bl false), s3)) (h5 : pIsN mo .non = .ok (.val (.bl mo.isNon))) :
    m_Place___init__ [.own (.ins "Place" []), .val w, .val f, .val mo, .val c] = .exc "NoPlace" := by
  apply W2.raises
  unfold m_Place___init__ S_Place___init__
  cases hm : mo.isNon with
  | true =>
    rw [hm] at h5
    push_cast [h, h1, h3, h4, h5, hm]
  | false =>
    rw [hm] at h5
    have h2' := h2.resolve_left (by rw [hm]; exact Bool.false_ne_true)
    push_cast [h, h1, h2', h3, h4, h5, hm]
theorem init_none {w f : PV} {c : Int} {ss s1 : List Slot} (h : m_are_ways [.val w] = .ok (.val (.bl true), ss)) (h1 : m_is_whole [.val f, .val (.int 0)] = .ok (.val (.bl true), s1)) :
    m_Place___init__ [.own (.ins "Place" []), .val w, .val f, .val .non, .val (.int c)] = .exc "NoPlace" := by
  apply W2.raises
  unfold m_Place___init__ S_Place___init__
  push_cast [h, h1]
theorem init_above {w f : PV} {m c : Int} {ss s1 : List Slot} (h : m_are_ways [.val w] = .ok (.val (.bl true), ss)) (h1 : m_is_whole [.val f, .val (.int 0)] = .ok (.val (.bl true), s1)) (hm : 1 ≤ m) (hc : m < c) :
    m_Place___init__ [.own (.ins "Place" []), .val w, .val f, .val (.int m), .val (.int c)] = .exc "NoPlace" := by
  apply W2.raises
  unfold m_Place___init__ S_Place___init__
  have e1 := e_is_whole m 1
  have e2 := e_is_whole c 1
  have h2 : 1 ≤ c := by omega
  push_cast [h, h1, e1, e2, hm, hc, h2]
theorem ex64 : exEn 6 4 = [.dead, .dead, .dead, .dead, .val (.cl "#e"), .dead] := (rfl)
theorem ex42 : exEn 4 2 = [.dead, .dead, .val (.cl "#e"), .dead] := (rfl)
theorem ex31 : exEn 3 1 = [.dead, .val (.cl "#e"), .dead] := (rfl)
section
variable {b : Bool} {s0 s1 s2 s3 s4 s5 : Slot} {K : Slot → En → Prop} {X : Str → Prop}
theorem isE4 : W2 (eIsE 4 b [s0, s1, s2, s3, .val (.cl "#e"), s5]) K X = K (.val (.bl b)) [s0, s1, s2, s3, .val (.cl "#e"), s5] := w_eIsE rfl
theorem isE2 : W2 (eIsE 2 b [s0, s1, .val (.cl "#e"), s3]) K X = K (.val (.bl b)) [s0, s1, .val (.cl "#e"), s3] := w_eIsE rfl
theorem isE1 : W2 (eIsE 1 b [s0, .val (.cl "#e"), s2]) K X = K (.val (.bl b)) [s0, .val (.cl "#e"), s2] := w_eIsE rfl
end
theorem eqTFF : pEqA (.lst [.bl true, .bl false, .bl false]) (.lst [.bl true, .bl false, .bl false]) = .ok (.val (.bl true)) := (rfl)
local macro_rules
  | `(tactic| push_cast [$ts,*]) => `(tactic| simp -dsimp only [$ts,*, f_ways, f_few, f_most, f_cut, i_way, i_splitting, i_joining, i_parts, i_leave, fold_place, e_is_whole, e_splitting, e_parts, e_joining, isi_place, len_strs, ix_strs, fSeq_strs, items_model, t_ix0, t_ix1, t_ix2, t_ix3, keys_model, l_model, f_ways, f_few, f_most, f_cut, i_way, i_splitting, i_joining, i_parts, i_leave, fold_place, e_is_whole, e_splitting, e_parts, e_joining, isi_place, len_strs, ix_strs, fSeq_strs, items_model, t_ix0, t_ix1, t_ix2, t_ix3, keys_model, l_model, w_sTry, suiteK_rt, suiteK_nx, simpleV_str, ex64, ex42, ex31, isE4, isE2, isE1, o_pIntB, eqTFF, fnM_run, wp_ok, wp_exc, wp_stuck, w2_ok, w2_exc, w2_stuck, wp_bind, w2_bind, wp_noX, w2_noX, vat0, vatS, own0, prm0, ownS, own0', ownS', putS0, putSS, roOwn, roPrm, frz0, frzS, kill0, killS, set0, setS, pv_prm, pv_val, pv_own, w_eC, w_eV, w_eBin, w_eUn, w_aNil, w_aCons, w_eTup, w_eLst, w_eN, w_bT, w_bNot, w_bYes, cond2_t, cond2_f, cond2_not, cond2_d, w_bAnd, w_bOr, w_eIf, w_eAnd, w_eOr, w_eNot, chain_b, w_eChain, w_oN, intK_int, w_oS, w_eSl, w_eDct0, w_eBor, w_bBor, w_eMut, ownK_own, w_eMutT, lstK_li, w_eIxO, dctK_dk, getR_some, w_eGetO, w_eCall, w_eMeth, mkK_own, w_eMake, w_eCallR, w_iX, w_iXs, w_iXo, allOwn0, allOwnN, allOwnS, isOwn0, isPrm0, isOwnS, slotO0, slotP0, slotOS, argS0, argSN, argSS, putB0, putBN, putBO, toPo, toPv, backNil, backO, backVal, seqK_nx, seqK_rt, seqK_bk, seqK_ct, w_sSkip, w_sBrk, w_sCnt, w_sSeq, w_sEx, w_sRet, w_sRetN, w_sRaise, w_sRetO, w_sIf, w_sSet, w_sSetO, w_sFrz, w_sPutL, w_sPutD, w_sPutF, w_sFor, w_sForD, w_sAsg, w_sStar, w_tgt, tupK_t, w_gN, w_gT, w_gsNil, w_gsCons, endK_rt, endK_nx, w_fnM, turnK_nx, turnK_ct, turnK_bk, turnK_rt, w_eLc, w_eLc2, lcK_eq, insF_eq, o_pAdd, o_pSub, o_pMod, o_pFdiv, o_pPow, o_pMul, o_pLt, o_pLe, o_pGt, o_pGe, o_pNeg, o_isN_non, o_isN_int, o_isN_str, o_isN_tup, o_isN_lst, o_isN_ins, o_isN_opt, o_isnt, isNon_non, isNon_int, isNon_str, isNon_opt, o_pB, o_tru_bl, o_tru_int, o_tru_lst, o_tru_tup, o_tru_non, o_len_lst, o_len_tup, o_len_scr, o_len_dct, o_list_lst, o_list_tup, o_tuple_lst, o_tuple_tup, o_addL, o_addT, o_ix_lst, o_ix_tup, o_ix_scr, o_ix_dctS, o_ix_dctI, o_in_dctS, o_pAt, atI_0, atI_1, atI_2, atI_3, atI_4, o_eqII, o_eqSS, o_neII, o_neSS, o_eq_dct0, o_max2, o_min2, o_rng1, o_fSeq_lst, o_fSeq_tup, o_fSeq_scr, keyOf_int, keyOf_str, o_isLst, o_isDct, o_append, o_extend, o_slL, o_slT, fld_hit, Int.cast_ofNat_Int, castZ0, castZ1, Int.reduceEq, Int.reduceLT, decide_true, decide_false, Option.isSome_map,  Option.isNone_none, Option.isNone_some,  o_fSeq_str, o_in_sign, o_len_str, o_allB, o_anyB, o_sumI, sdct_len, sdct_look, sdct_items, sdct_keys, sdct_vals, sdct_isEmpty, isi_non_int, isi_non_bool, isi_non_str, isi_non_tuple, isi_non_list, isi_non_dict, isi_bl_int, isi_bl_bool, isi_bl_str, isi_bl_tuple, isi_bl_list, isi_bl_dict, isi_int_int, isi_int_bool, isi_int_str, isi_int_tuple, isi_int_list, isi_int_dict, isi_str_int, isi_str_bool, isi_str_str, isi_str_tuple, isi_str_list, isi_str_dict, isi_tup_int, isi_tup_bool, isi_tup_str, isi_tup_tuple, isi_tup_list, isi_tup_dict, isi_lst_int, isi_lst_bool, isi_lst_str, isi_lst_tuple, isi_lst_list, isi_lst_dict, isi_scr_int, isi_scr_bool, isi_scr_str, isi_scr_tuple, isi_scr_list, isi_scr_dict, isi_dct_int, isi_dct_bool, isi_dct_str, isi_dct_tuple, isi_dct_list, isi_dct_dict,  lset0, lset1, lset2, noOwn0, noOwnS, nvS, nvV, nvD, flat_int, flat_bl, flat_str, flat_non, Bool.and_true, Bool.true_and, Bool.and_self, List.map_cons, List.map_nil, List.replicate_succ, List.replicate_zero, List.cons_append, List.nil_append, List.append_nil, List.length_cons, List.length_nil, Bool.not_true, Bool.not_false, Bool.false_eq_true, if_true, if_false, true_and, and_true, ite_true, ite_false, reduceIte, not_true_eq_false, not_false_eq_true, true_implies, false_implies, implies_true, sl_true, List.set_nil, Nat.reduceAdd, Nat.reduceLeDiff, Nat.reduceLT, Int.reduceLT, Int.reduceLE, Int.reduceAbs, Int.reduceToNat, Int.reducePow, Nat.reducePow, Nat.reduceEqDiff, lgS, cmulXr, cmulXl, List.length_map,  Nat.zero_add])
local macro_rules
  | `(tactic| norm_cast0) => `(tactic| push_cast [wp_ok])
theorem word_bad {w f mo c : PV} (h : m_Place___init__ [.own (.ins "Place" []), .val w, .val f, .val mo, .val c] = .exc "NoPlace") :
    ∃ ss, m__law_word [.val w, .val f, .val mo, .val c] = .ok (.val (.str "place"), ss) := by
  suffices q : W2 (m__law_word [.val w, .val f, .val mo, .val c]) (fun s _ => s = .val (.str "place")) nX by
    obtain ⟨s, ss, e, rfl⟩ := q.out
    exact ⟨ss, e⟩
  have q1 : qx "BandError" "NoPlace" = some true := by decide
  have q2 : isaT "NoPlace" "NoPlace" = true := by decide
  have q3 : isaT "NoPlace" "NoRules" = false := by decide
  have q4 : isaT "NoPlace" "NoState" = false := by decide
  unfold m__law_word S__law_word
  push_cast [gp_mk_Place_0, h, tryX_t q1, q2, q3, q4]
theorem word_good {ns : List Str} {p : Plc} (hns : ∀ y ∈ ns, isNameB y = true) (hp : PlcOk ns p) :
    ∃ ss, m__law_word [.val (.lst (p.ways.map enc)), .val (.int p.few), .val (enc p.most), .val (enc p.cut)] = .ok (.val (.str "made"), ss) := by
  suffices q : W2 (m__law_word [.val (.lst (p.ways.map enc)), .val (.int p.few), .val (enc p.most), .val (enc p.cut)]) (fun s _ => s = .val (.str "made")) nX by
    obtain ⟨s, ss, e, rfl⟩ := q.out
    exact ⟨ss, e⟩
  have h := e_init hns hp
  unfold m__law_word S__law_word
  push_cast [gp_mk_Place_0, h]
theorem way_exc {p : Plc} {x : PV} {ss : List Slot} (h : m_is_whole [.val x, .val (.int 1)] = .ok (.val (.bl false), ss)) : m_Place_way [.val (placeP p), .val x] = .exc "NoState" := by
  apply W2.raises
  unfold m_Place_way S_Place_way
  push_cast [h]
theorem way_bad {p : Plc} {x : PV} (h : m_Place_way [.val (placeP p), .val x] = .exc "NoState") : ∃ ss, m__law_way_word [.val (placeP p), .val x] = .ok (.val (.str "state"), ss) := by
  suffices q : W2 (m__law_way_word [.val (placeP p), .val x]) (fun s _ => s = .val (.str "state")) nX by
    obtain ⟨s, ss, e, rfl⟩ := q.out
    exact ⟨ss, e⟩
  have q1 : qx "BandError" "NoState" = some true := by decide
  have q2 : isaT "NoState" "NoState" = true := by decide
  have q3 : isaT "NoState" "NoPlace" = false := by decide
  have q4 : isaT "NoState" "NoRules" = false := by decide
  unfold m__law_way_word S__law_way_word
  push_cast [h, tryX_t q1, q2, q3, q4]
theorem rules_bad {r : PV} (h : m_checked_rules [.val r] = .exc "NoRules") : ∃ ss, m__law_rules_word [.val r] = .ok (.val (.str "rules"), ss) := by
  suffices q : W2 (m__law_rules_word [.val r]) (fun s _ => s = .val (.str "rules")) nX by
    obtain ⟨s, ss, e, rfl⟩ := q.out
    exact ⟨ss, e⟩
  have q1 : qx "BandError" "NoRules" = some true := by decide
  have q2 : isaT "NoRules" "NoRules" = true := by decide
  have q3 : isaT "NoRules" "NoPlace" = false := by decide
  have q4 : isaT "NoRules" "NoState" = false := by decide
  have hn : m_next_day [.val r, .val (.lst [])] = .exc "NoRules" := by
    apply W2.raises
    unfold m_next_day S_next_day
    push_cast [h]
  unfold m__law_rules_word S__law_rules_word
  push_cast [hn, tryX_t q1, q2, q3, q4]
theorem rules_good {m : List (Str × Plc)} (hm : ModelOk m) : ∃ ss, m__law_rules_word [.val (rulesP m)] = .ok (.val (.str "told"), ss) := by
  suffices q : W2 (m__law_rules_word [.val (rulesP m)]) (fun s _ => s = .val (.str "told")) nX by
    obtain ⟨s, ss, e, rfl⟩ := q.out
    exact ⟨ss, e⟩
  have h := e_next_day m hm.rules [] (fun b hb => by simp at hb) (by simp)
  rw [show ([] : List (Str × Int)).map (enc : Str × Int → PV) = [] from rfl] at h
  unfold m__law_rules_word S__law_rules_word
  push_cast [h]
theorem w_no_ways {x : Src} {K : Slot → List Slot → Prop} {X : Str → Prop} (k : ∀ (w : PV) (x' : Src), w ∈ badWays → K (.val w) [.own (srcP x')]) : W2 (m__law_no_ways [.own (srcP x)]) K X := by
  unfold m__law_no_ways S__law_no_ways
  norm_cast0
  refine ⟨sl_lt (by omega), ?_⟩
  refine w_next (by omega) (by decide) fun d x1 hd0 hd1 => ?_
  norm_cast0
  obtain ⟨w, hw, ew⟩ := atI_mem (xs := badWays) hd0 (by simpa [badWays] using hd1)
  unfold badWays at ew
  push_cast [ew]
  exact k w x1 hw
theorem dct_name {k : Key} {v : PV} {ss : List Slot} (h : m_is_name [.val (keyV k)] = .ok (.val (.bl false), ss)) : m_checked_rules [.val (.dct [(k, v)])] = .exc "NoRules" := by
  apply W2.raises
  unfold m_checked_rules S_checked_rules
  have e0 : fItems (.dct [(k, v)]) = .ok [.tup [keyV k, v]] := (rfl)
  push_cast [List.isEmpty_cons, e0]
  refine w_loop (α := Unit) (e := fun _ => .tup [keyV k, v]) (I := fun r ρ => r = [()] ∧ ∃ s1 s2, ρ = [.val (.dct [(k, v)]), s1, s2, .dead, .dead]) ?_ ?_ [()] _ ⟨rfl, _, _, rfl⟩
  · rintro a r ρ ⟨_, s1, s2, rfl⟩
    push_cast [h]
  · rintro ρ ⟨z, _⟩; cases z
theorem dct_place {z : Str} {v : PV} (h : isNameB z = true) (h2 : pIsi clsN [v, .cl "Place"] = .ok (.val (.bl false))) : m_checked_rules [.val (.dct [(.inr z, v)])] = .exc "NoRules" := by
  apply W2.raises
  unfold m_checked_rules S_checked_rules
  have e0 : fItems (.dct [(.inr z, v)]) = .ok [.tup [.str z, v]] := (rfl)
  have e1 := e_is_name z (name_len h)
  push_cast [List.isEmpty_cons, e0]
  refine w_loop (α := Unit) (e := fun _ => .tup [.str z, v]) (I := fun r ρ => r = [()] ∧ ∃ s1 s2, ρ = [.val (.dct [(.inr z, v)]), s1, s2, .dead, .dead]) ?_ ?_ [()] _ ⟨rfl, _, _, rfl⟩
  · rintro a r ρ ⟨_, s1, s2, rfl⟩
    push_cast [e1, h, h2]
  · rintro ρ ⟨z, _⟩; cases z
theorem look_one (z y : Str) (v : PV) : (dLook [(.inr z, v)] (.inr y)).isSome = decide (y = z) := by
  unfold dLook
  simp only [List.find?_cons, List.find?_nil]
  by_cases h : y = z
  · subst h; simp
  · have : ¬ (Sum.inr z : Key) = .inr y := fun e => h (Sum.inr.inj e).symm
    simp [this, h]
theorem dct_ways {z : Str} {p : Plc} (h : isNameB z = true) (hl : p.ways.length ≤ 1000) (hw : (p.ways.all fun w => decide (w.2 = z)) = false) : m_checked_rules [.val (.dct [(.inr z, placeP p)])] = .exc "NoRules" := by
  apply W2.raises
  unfold m_checked_rules S_checked_rules
  have e0 : fItems (.dct [(.inr z, placeP p)]) = .ok [.tup [.str z, placeP p]] := (rfl)
  have e1 := e_is_name z (name_len h)
  push_cast [List.isEmpty_cons, e0]
  refine w_loop (α := Unit) (e := fun _ => .tup [.str z, placeP p]) (I := fun r ρ => r = [()] ∧ ∃ s1 s2, ρ = [.val (.dct [(.inr z, placeP p)]), s1, s2, .dead, .dead]) ?_ ?_ [()] _ ⟨rfl, _, _, rfl⟩
  · rintro a r ρ ⟨_, s1, s2, rfl⟩
    push_cast [e1, h, isi_place]
    refine w_comp0 (fun w => .bl (decide (w.2 = z))) _ (fun _ _ => rfl) (fun _ _ => rfl) (fun w _ => ?_) (sl_le (by omega)) fun ρ' hr => ?_
    · push_cast [enc_str, look_one]
    · push_cast [hr, hw]
  · rintro ρ ⟨z, _⟩; cases z
theorem no_dct {r : PV} (h : pIsi clsN [r, .ty "dict"] = .ok (.val (.bl false))) : m_checked_rules [.val r] = .exc "NoRules" := by
  apply W2.raises
  unfold m_checked_rules S_checked_rules
  push_cast [h]
theorem dct_nil : m_checked_rules [.val (.dct [])] = .exc "NoRules" := by
  apply W2.raises
  unfold m_checked_rules S_checked_rules
  push_cast [List.isEmpty_nil]
def pq : Plc := ⟨[(some 3, "a"), (none, "q")], 0, none, none⟩
theorem pq_ok : PlcOk ["a", "q"] pq where
  ways := ⟨⟨[(3, "a")], "q", rfl, by simp, by simp, by simp⟩, by decide⟩
  few := by decide
  most := fun m h => by cases h
  cut := fun m h => by cases h
def badR (m : List (Str × Plc)) (p : Plc) : List PV := [.non, .dct [], .lst [rulesP m], .str "a", .int 5, .dct [(.inr "a", .int 5)], .dct [(.inr "A", placeP p)], .dct [(.inr "ninesigns", placeP p)], .dct [(.inl 5, placeP p)],
  .dct [(.inr "qq", placeP p)], .dct [(.inr "a1", placeP p)], .dct [(.inr "a", toldP p)], .dct [(.inr "q", .non)], .bl true, .dct [(.inr "q", placeP pq)]]
def noNameB (x : PV) : Bool := match m_is_name [.val x] with
  | .ok (.val (.bl false), _) => true
  | _ => false
theorem noName_of {x : PV} (h : noNameB x = true) : ∃ ss, m_is_name [.val x] = .ok (.val (.bl false), ss) := by
  unfold noNameB at h
  split at h
  · rename_i ss e; exact ⟨_, e⟩
  · cases h
theorem badR_exc {m : List (Str × Plc)} (hm : ModelOk m) (hal : ∀ y ∈ m.map Prod.fst, y ∈ allNames) {y : Str} {p : Plc} (hp : (y, p) ∈ m) : ∀ r ∈ badR m p, m_checked_rules [.val r] = .exc "NoRules" := by
  have hpo := hm.pl _ hp
  have n1 := noName_of (x := .str "A") (by decide +kernel)
  have n2 := noName_of (x := .str "ninesigns") (by decide +kernel)
  have n3 := noName_of (x := .int 5) (by decide +kernel)
  have n4 := noName_of (x := .str "a1") (by decide +kernel)
  obtain ⟨_, n1⟩ := n1
  obtain ⟨_, n2⟩ := n2
  obtain ⟨_, n3⟩ := n3
  obtain ⟨_, n4⟩ := n4
  intro r hr
  simp only [badR, List.mem_cons, List.not_mem_nil, or_false] at hr
  rcases hr with rfl | rfl | rfl | rfl | rfl | rfl | rfl | rfl | rfl | rfl | rfl | rfl | rfl | rfl | rfl
  · exact no_dct rfl
  · exact dct_nil
  · exact no_dct rfl
  · exact no_dct rfl
  · exact no_dct rfl
  · exact dct_place (by decide) rfl
  · exact dct_name n1
  · exact dct_name n2
  · exact dct_name n3
  · refine dct_ways (by decide) (by have : p.ways.length ≤ 100 := hpo.ways.len; omega) ?_
    obtain ⟨bs, last, e, _, _, h4⟩ := hpo.ways.ex
    rw [List.all_eq_false]
    refine ⟨(none, last), by rw [e]; simp, ?_⟩
    have := hal last h4
    intro z
    have z2 : last = "qq" := by simpa using z
    rw [z2] at this
    revert this
    decide
  · exact dct_name n4
  · exact dct_place (by decide) rfl
  · exact dct_place (by decide) rfl
  · exact no_dct rfl
  · exact dct_ways (by decide) (by decide) (by decide)
theorem pq_names : ∀ y ∈ (["a", "q"] : List Str), isNameB y = true := by decide +kernel
theorem pq_init : m_Place___init__ [.own (.ins "Place" []), .val (.lst [.tup [.int 3, .str "a"], .tup [.non, .str "q"]]), .val (.int 0), .val .non, .val .non] = .ok (.val .non, [.own (placeP pq), .val (.lst [.tup [.int 3, .str "a"], .tup [.non, .str "q"]]), .val (.int 0), .val .non, .val .non]) := by
  have h := e_init (p := pq) pq_names pq_ok
  have e1 : pq.ways.map enc = [PV.tup [.int 3, .str "a"], .tup [.non, .str "q"]] := rfl
  have e2 : (enc pq.most : PV) = .non := rfl
  have e3 : (enc pq.cut : PV) = .non := rfl
  have e4 : pq.few = 0 := rfl
  rw [e1, e2, e3, e4] at h
  exact h
theorem size9 : (sizeL.map fun _ => PV.str "state") = [.str "state", .str "state", .str "state", .str "state", .str "state", .str "state", .str "state", .str "state", .str "state"] := (rfl)
theorem sizeL_le : sizeL.length ≤ sizeLine := sl_le (by show 9 ≤ 16777216; omega)
theorem state9 : pNe (.lst [.str "state", .str "state", .str "state", .str "state", .str "state", .str "state", .str "state", .str "state", .str "state"]) (.lst [.str "state", .str "state", .str "state", .str "state", .str "state", .str "state", .str "state", .str "state", .str "state"]) = .ok (.val (.bl false)) := by
  have := o_ne_enc (["state", "state", "state", "state", "state", "state", "state", "state", "state"] : List Str) ["state", "state", "state", "state", "state", "state", "state", "state", "state"]
  simp only [decide_true, Bool.not_true] at this
  exact this
end LW

set_option maxRecDepth 100000
set_option maxHeartbeats 1000000
namespace LW
open PySem PySem.Spec L2 BF
open PyProof.Rows hiding St
set_option autoImplicit false
open PE (enc)
local macro_rules
  | `(tactic| push_cast [$ts,*]) => `(tactic| simp -dsimp only [$ts,*, f_ways, f_few, f_most, f_cut, i_way, i_splitting, i_joining, i_parts, i_leave, fold_place, e_is_whole, e_splitting, e_parts, e_joining, isi_place, len_strs, ix_strs, fSeq_strs, items_model, t_ix0, t_ix1, t_ix2, t_ix3, keys_model, l_model, w_sTry, suiteK_rt, suiteK_nx, simpleV_str, ex64, ex42, ex31, isE4, isE2, isE1, o_pIntB, eqTFF, fnM_run, wp_ok, wp_exc, wp_stuck, w2_ok, w2_exc, w2_stuck, wp_bind, w2_bind, wp_noX, w2_noX, vat0, vatS, own0, prm0, ownS, own0', ownS', putS0, putSS, roOwn, roPrm, frz0, frzS, kill0, killS, set0, setS, pv_prm, pv_val, pv_own, w_eC, w_eV, w_eBin, w_eUn, w_aNil, w_aCons, w_eTup, w_eLst, w_eN, w_bT, w_bNot, w_bYes, cond2_t, cond2_f, cond2_not, cond2_d, w_bAnd, w_bOr, w_eIf, w_eAnd, w_eOr, w_eNot, chain_b, w_eChain, w_oN, intK_int, w_oS, w_eSl, w_eDct0, w_eBor, w_bBor, w_eMut, ownK_own, w_eMutT, lstK_li, w_eIxO, dctK_dk, getR_some, w_eGetO, w_eCall, w_eMeth, mkK_own, w_eMake, w_eCallR, w_iX, w_iXs, w_iXo, allOwn0, allOwnN, allOwnS, isOwn0, isPrm0, isOwnS, slotO0, slotP0, slotOS, argS0, argSN, argSS, putB0, putBN, putBO, toPo, toPv, backNil, backO, backVal, seqK_nx, seqK_rt, seqK_bk, seqK_ct, w_sSkip, w_sBrk, w_sCnt, w_sSeq, w_sEx, w_sRet, w_sRetN, w_sRaise, w_sRetO, w_sIf, w_sSet, w_sSetO, w_sFrz, w_sPutL, w_sPutD, w_sPutF, w_sFor, w_sForD, w_sAsg, w_sStar, w_tgt, tupK_t, w_gN, w_gT, w_gsNil, w_gsCons, endK_rt, endK_nx, w_fnM, turnK_nx, turnK_ct, turnK_bk, turnK_rt, w_eLc, w_eLc2, lcK_eq, insF_eq, o_pAdd, o_pSub, o_pMod, o_pFdiv, o_pPow, o_pMul, o_pLt, o_pLe, o_pGt, o_pGe, o_pNeg, o_isN_non, o_isN_int, o_isN_str, o_isN_tup, o_isN_lst, o_isN_ins, o_isN_opt, o_isnt, isNon_non, isNon_int, isNon_str, isNon_opt, o_pB, o_tru_bl, o_tru_int, o_tru_lst, o_tru_tup, o_tru_non, o_len_lst, o_len_tup, o_len_scr, o_len_dct, o_list_lst, o_list_tup, o_tuple_lst, o_tuple_tup, o_addL, o_addT, o_ix_lst, o_ix_tup, o_ix_scr, o_ix_dctS, o_ix_dctI, o_in_dctS, o_pAt, atI_0, atI_1, atI_2, atI_3, atI_4, o_eqII, o_eqSS, o_neII, o_neSS, o_eq_dct0, o_max2, o_min2, o_rng1, o_fSeq_lst, o_fSeq_tup, o_fSeq_scr, keyOf_int, keyOf_str, o_isLst, o_isDct, o_append, o_extend, o_slL, o_slT, fld_hit, Int.cast_ofNat_Int, castZ0, castZ1, Int.reduceEq, Int.reduceLT, decide_true, decide_false, Option.isSome_map,  Option.isNone_none, Option.isNone_some,  o_fSeq_str, o_in_sign, o_len_str, o_allB, o_anyB, o_sumI, sdct_len, sdct_look, sdct_items, sdct_keys, sdct_vals, sdct_isEmpty, isi_non_int, isi_non_bool, isi_non_str, isi_non_tuple, isi_non_list, isi_non_dict, isi_bl_int, isi_bl_bool, isi_bl_str, isi_bl_tuple, isi_bl_list, isi_bl_dict, isi_int_int, isi_int_bool, isi_int_str, isi_int_tuple, isi_int_list, isi_int_dict, isi_str_int, isi_str_bool, isi_str_str, isi_str_tuple, isi_str_list, isi_str_dict, isi_tup_int, isi_tup_bool, isi_tup_str, isi_tup_tuple, isi_tup_list, isi_tup_dict, isi_lst_int, isi_lst_bool, isi_lst_str, isi_lst_tuple, isi_lst_list, isi_lst_dict, isi_scr_int, isi_scr_bool, isi_scr_str, isi_scr_tuple, isi_scr_list, isi_scr_dict, isi_dct_int, isi_dct_bool, isi_dct_str, isi_dct_tuple, isi_dct_list, isi_dct_dict,  lset0, lset1, lset2, noOwn0, noOwnS, nvS, nvV, nvD, flat_int, flat_bl, flat_str, flat_non, Bool.and_true, Bool.true_and, Bool.and_self, List.map_cons, List.map_nil, List.replicate_succ, List.replicate_zero, List.cons_append, List.nil_append, List.append_nil, List.length_cons, List.length_nil, Bool.not_true, Bool.not_false, Bool.false_eq_true, if_true, if_false, true_and, and_true, ite_true, ite_false, reduceIte, not_true_eq_false, not_false_eq_true, true_implies, false_implies, implies_true, sl_true, List.set_nil, Nat.reduceAdd, Nat.reduceLeDiff, Nat.reduceLT, Int.reduceLT, Int.reduceLE, Int.reduceAbs, Int.reduceToNat, Int.reducePow, Nat.reducePow, Nat.reduceEqDiff, lgS, cmulXr, cmulXl, List.length_map,  Nat.zero_add])
local macro_rules
  | `(tactic| norm_cast0) => `(tactic| push_cast [wp_ok])
theorem main_law (js : List Int) (hl : js.length ≤ 63) : ∃ ss, m_law [.val (.scr js)] = .ok (.val (.bl true), ss) := by
  suffices h : W2 (m_law [.val (.scr js)]) (fun s _ => s = .val (.bl true)) nX by
    obtain ⟨s, ss, e, rfl⟩ := h.out
    exact ⟨ss, e⟩
  unfold m_law S_law
  norm_cast0
  refine ⟨by omega, ?_⟩
  refine w_loop (e := fun k : Nat => PV.int k) (I := fun r ρ => ∃ s1 s2 s3 s4 s5 s6 s7 s8 s9 s10 s11 s12 s13 s14 s15, ρ = [.val (.scr js), s1, s2, s3, s4, s5, s6, s7, s8, s9, s10, s11, s12, s13, s14, s15, .dead]) ?_ ?_ _ _ ⟨_, _, _, _, _, _, _, _, _, _, _, _, _, _, _, rfl⟩
  · rintro k r ρ ⟨s1, s2, s3, s4, s5, s6, s7, s8, s9, s10, s11, s12, s13, s14, s15, rfl⟩
    norm_cast0
    refine w_source (by omega) fun x => ?_
    norm_cast0
    refine w_model2 (by omega) (by omega) (by omega) (by omega) fun m x1 hm hml hal => ?_
    have hmade := e_made m hm
    have hs := sorted_model m hm.len
    have hsl : (srt (m.map Prod.fst)).length = m.length := by rw [srt_length]; simp
    push_cast [hs]
    refine w_next (by omega) (by decide) fun d x2 hd0 hd1 => ?_
    obtain ⟨y, hy, ey⟩ := atI_mem (xs := srt (m.map Prod.fst)) hd0 (by omega)
    have hy2 : y ∈ m.map Prod.fst := srt_mem.mp hy
    obtain ⟨p, hlk, hp⟩ := hm.rules.look hy2
    have hpo := hm.pl _ hp
    have hto : toldP p = .tup [.lst (p.ways.map enc), .int p.few, enc p.most, enc p.cut] := rfl
    have hw := e_are_ways hm.nm hpo.ways
    have hf : m_is_whole [.val (.int p.few), .val (.int 0)] = .ok (.val (.bl true), [.val (.int p.few), .val (.int 0)]) := by
      rw [e_is_whole, decide_eq_true hpo.few.1]
    obtain ⟨_, W1⟩ := word_good hm.nm hpo
    have W2' : ∀ w ∈ badWays, ∃ ss, m__law_word [.val w, .val (.int p.few), .val (enc p.most), .val (enc p.cut)] = .ok (.val (.str "place"), ss) := fun w h => by
      obtain ⟨_, e⟩ := bad_are h
      exact word_bad (init_ways e)
    have W3 : ∀ v ∈ oddL, ∃ ss, m__law_word [.val (.lst (p.ways.map enc)), .val v, .val (enc p.most), .val (enc p.cut)] = .ok (.val (.str "place"), ss) := fun v h => by
      obtain ⟨_, e⟩ := whole_of (List.all_eq_true.mp odd_all v h)
      exact word_bad (init_few hw e)
    have W4 : ∀ v ∈ mostL, ∃ ss, m__law_word [.val (.lst (p.ways.map enc)), .val (.int p.few), .val v, .val .non] = .ok (.val (.str "place"), ss) := fun v h => by
      have h2 := List.all_eq_true.mp most_all v h
      rw [Bool.and_eq_true] at h2
      obtain ⟨_, e⟩ := whole_of h2.1
      exact word_bad (init_most hw hf e (by simpa using h2.2))
    have W6 : ∃ ss, m__law_word [.val (.lst (p.ways.map enc)), .val (.int p.few), .val .non, .val (.int 1)] = .ok (.val (.str "place"), ss) := word_bad (init_none hw hf)
    obtain ⟨_, W6⟩ := W6
    have hcut : ∀ v ∈ cutL0, ∃ ss, m__law_word [.val (.lst (p.ways.map enc)), .val (.int p.few), .val (enc p.most), .val v] = .ok (.val (.str "place"), ss) := fun v h => by
      have h2 := List.all_eq_true.mp cut_all v h
      rw [Bool.and_eq_true] at h2
      obtain ⟨_, e⟩ := whole_of h2.1
      refine word_bad (init_cut (s2 := [.val (enc p.most), .val (.int 1)]) hw hf ?_ (by simpa using h2.2) e ?_)
      · cases hq : p.most with
        | none => exact .inl rfl
        | some q => exact .inr (by rw [enc_some, e_is_whole, decide_eq_true (hpo.most q hq).1])
      · cases p.most <;> rfl
    obtain ⟨cv, hcv, hcw⟩ : ∃ cv : Int, (∀ (s0 s1 s2 s3 s4 s5 s6 : Slot) (r : En) (K : Slot → En → Prop) (X : Str → Prop), W2 (eBin pAdd (eOr (eV 7) (eC (.int 0))) (eC (.int 1)) (s0 :: s1 :: s2 :: s3 :: s4 :: s5 :: s6 :: .val (enc p.most) :: r)) K X = K (.val (.int cv)) (s0 :: s1 :: s2 :: s3 :: s4 :: s5 :: s6 :: .val (enc p.most) :: r)) ∧
        ∃ ss, m__law_word [.val (.lst (p.ways.map enc)), .val (.int p.few), .val (enc p.most), .val (.int cv)] = .ok (.val (.str "place"), ss) := by
      cases hq : p.most with
      | none =>
        refine ⟨0 + 1, fun s0 s1 s2 s3 s4 s5 s6 r K X => ?_, word_bad (init_none hw hf)⟩
        push_cast [enc_none]
      | some q =>
        have h1 := (hpo.most q hq).1
        have hq0 : (q != 0) = true := by simp; omega
        refine ⟨q + 1, fun s0 s1 s2 s3 s4 s5 s6 r K X => ?_, word_bad (init_above hw hf h1 (by omega))⟩
        push_cast [enc_some, hq0]
    obtain ⟨_, hcw⟩ := hcw
    have hcut2 : ∀ v ∈ cutL0 ++ [.int cv], ∃ ss, m__law_word [.val (.lst (p.ways.map enc)), .val (.int p.few), .val (enc p.most), .val v] = .ok (.val (.str "place"), ss) := fun v h => by
      rcases List.mem_append.mp h with h | h
      · exact hcut v h
      · rw [List.mem_singleton] at h; subst h; exact ⟨_, hcw⟩
    have hne : pNe (.lst [.str "made", .str "place", .str "place", .str "place", .str "place", .str "place"]) (.lst [.str "made", .str "place", .str "place", .str "place", .str "place", .str "place"]) = .ok (.val (.bl false)) := by
      have := o_ne_enc (["made", "place", "place", "place", "place", "place"] : List Str) ["made", "place", "place", "place", "place", "place"]
      simp only [decide_true, Bool.not_true] at this
      exact this
    push_cast [atI_map, ey, Option.map_some, enc_str, hlk, hto]
    refine w_next (by omega) (by decide) fun d1 x3 h1 h1' => ?_
    obtain ⟨v1, hv1, ev1⟩ := atI_mem (xs := oddL) h1 (by simpa [oddL] using h1')
    obtain ⟨_, W3⟩ := W3 v1 hv1
    unfold oddL at ev1
    push_cast [ev1]
    refine w_next (by omega) (by decide) fun d2 x4 h2 h2' => ?_
    obtain ⟨v2, hv2, ev2⟩ := atI_mem (xs := mostL) h2 (by simpa [mostL] using h2')
    obtain ⟨_, W4⟩ := W4 v2 hv2
    unfold mostL at ev2
    push_cast [ev2, hcv]
    refine w_next (by omega) (by decide) fun d3 x5 h3 h3' => ?_
    obtain ⟨v3, hv3, ev3⟩ := atI_mem (xs := cutL0 ++ [.int cv]) h3 (by simpa [cutL0] using h3')
    obtain ⟨_, W5⟩ := hcut2 v3 hv3
    unfold cutL0 at ev3
    simp only [List.cons_append, List.nil_append] at ev3
    push_cast [ev3, W1]
    have t := fun K => w_no_ways (x := x5) (K := K) (X := nX)
    generalize m__law_no_ways [.own (srcP x5)] = R at t ⊢
    refine t _ fun w x6 hw6 => ?_
    obtain ⟨_, W2'⟩ := W2' w hw6
    have sl5 : (1 * 5 ≤ sizeLine) = True := sl_true
    have sl9 : (1 * 9 ≤ sizeLine) = True := sl_true
    push_cast [W2', W3, W4, W5, W6, o_pMulL, List.flatten_cons, List.flatten_nil, hne, hmade, sl5, sl9]
    have hss : ∀ v ∈ sizeL, ∃ ss, m__law_way_word [.val (placeP p), .val v] = .ok (.val (.str "state"), ss) := fun v h => by
      obtain ⟨_, e⟩ := whole_of (List.all_eq_true.mp size_all v h)
      exact way_bad (way_exc e)
    refine w_comp0 (l := sizeL) (e := fun x => x) (fun _ => .str "state") _ (fun _ _ => rfl) (fun _ _ => rfl) (fun v hv => ?_) sizeL_le fun ρ' hr => ?_
    · obtain ⟨_, e⟩ := hss v hv
      push_cast [l_rules, hlk, Option.map_some, e]
    · rw [size9]
      push_cast [hr, state9, o_pMulL, List.flatten_cons, List.flatten_nil, sl9, l_rules, hlk, Option.map_some, w_eDisp, w_aPairs0, w_aPairsS, dispK_s, keys?_nil, keys?_int, keys?_str, dMerge_one, gp_mk_Place_1, pq_init, hto]
      refine ⟨sl_lt (by omega), ?_⟩
      refine w_next (by omega) (by decide) fun d4 x7 h4 h4' => ?_
      obtain ⟨v4, hv4, ev4⟩ := atI_mem (xs := badR m p) h4 (by simpa [badR] using h4')
      obtain ⟨_, R1⟩ := rules_bad (badR_exc hm hal hp v4 hv4)
      obtain ⟨_, R2⟩ := rules_good hm
      have hne1 : pNe (.str "rules") (.str "rules") = .ok (.val (.bl false)) := by rw [o_neSS]; simp
      have hne2 : pNe (.str "told") (.str "told") = .ok (.val (.bl false)) := by rw [o_neSS]; simp
      unfold badR at ev4
      rw [hto] at ev4
      push_cast [ev4, R1, R2, hne1, hne2]
      exact ⟨_, _, _, _, _, _, _, _, _, _, _, _, _, _, _, rfl⟩
  · rintro ρ ⟨s1, s2, s3, s4, s5, s6, s7, s8, s9, s10, s11, s12, s13, s14, s15, rfl⟩
    norm_cast0
end LW

set_option maxRecDepth 100000
set_option maxHeartbeats 0
namespace LW
open PySem PySem.Spec L2 BF
open PyProof.Rows hiding St
set_option autoImplicit false
def df0 : He.DefD := ⟨("is_whole", none), "is_whole", "is_whole", defArgs st_is_whole, defBody st_is_whole, defScope st_is_whole, [(.int 0)], []⟩
def df1 : He.DefD := ⟨("is_name", none), "is_name", "is_name", defArgs st_is_name, defBody st_is_name, defScope st_is_name, [], []⟩
def df2 : He.DefD := ⟨("is_way", none), "is_way", "is_way", defArgs st_is_way, defBody st_is_way, defScope st_is_way, [], []⟩
def df3 : He.DefD := ⟨("are_ways", none), "are_ways", "are_ways", defArgs st_are_ways, defBody st_are_ways, defScope st_are_ways, [], []⟩
def df4 : He.DefD := ⟨("Place", some "__init__"), "__init__", "Place.__init__", defArgs st_Place___init__, defBody st_Place___init__, defScope st_Place___init__, [], [("few", (.int 0)), ("most", .non), ("cut", .non)]⟩
def df5 : He.DefD := ⟨("Place", some "ways"), "ways", "Place.ways", defArgs st_Place_ways, defBody st_Place_ways, defScope st_Place_ways, [], []⟩
def df6 : He.DefD := ⟨("Place", some "few"), "few", "Place.few", defArgs st_Place_few, defBody st_Place_few, defScope st_Place_few, [], []⟩
def df7 : He.DefD := ⟨("Place", some "most"), "most", "Place.most", defArgs st_Place_most, defBody st_Place_most, defScope st_Place_most, [], []⟩
def df8 : He.DefD := ⟨("Place", some "cut"), "cut", "Place.cut", defArgs st_Place_cut, defBody st_Place_cut, defScope st_Place_cut, [], []⟩
def df9 : He.DefD := ⟨("Place", some "way"), "way", "Place.way", defArgs st_Place_way, defBody st_Place_way, defScope st_Place_way, [], []⟩
def df10 : He.DefD := ⟨("Place", some "told"), "told", "Place.told", defArgs st_Place_told, defBody st_Place_told, defScope st_Place_told, [], []⟩
def df11 : He.DefD := ⟨("Place", some "__eq__"), "__eq__", "Place.__eq__", defArgs st_Place___eq__, defBody st_Place___eq__, defScope st_Place___eq__, [], []⟩
def df12 : He.DefD := ⟨("Place", some "is_joining"), "is_joining", "Place.is_joining", defArgs st_Place_is_joining, defBody st_Place_is_joining, defScope st_Place_is_joining, [], []⟩
def df13 : He.DefD := ⟨("Place", some "is_splitting"), "is_splitting", "Place.is_splitting", defArgs st_Place_is_splitting, defBody st_Place_is_splitting, defScope st_Place_is_splitting, [], []⟩
def df14 : He.DefD := ⟨("Place", some "parts"), "parts", "Place.parts", defArgs st_Place_parts, defBody st_Place_parts, defScope st_Place_parts, [], []⟩
def df15 : He.DefD := ⟨("Place", some "leave"), "leave", "Place.leave", defArgs st_Place_leave, defBody st_Place_leave, defScope st_Place_leave, [], []⟩
def df16 : He.DefD := ⟨("checked_rules", none), "checked_rules", "checked_rules", defArgs st_checked_rules, defBody st_checked_rules, defScope st_checked_rules, [], []⟩
def df17 : He.DefD := ⟨("is_band", none), "is_band", "is_band", defArgs st_is_band, defBody st_is_band, defScope st_is_band, [], []⟩
def df18 : He.DefD := ⟨("checked_state", none), "checked_state", "checked_state", defArgs st_checked_state, defBody st_checked_state, defScope st_checked_state, [], []⟩
def df19 : He.DefD := ⟨("arrived", none), "arrived", "arrived", defArgs st_arrived, defBody st_arrived, defScope st_arrived, [], []⟩
def df20 : He.DefD := ⟨("day_behind", none), "day_behind", "day_behind", defArgs st_day_behind, defBody st_day_behind, defScope st_day_behind, [], []⟩
def df21 : He.DefD := ⟨("next_day", none), "next_day", "next_day", defArgs st_next_day, defBody st_next_day, defScope st_next_day, [], []⟩
def df22 : He.DefD := ⟨("_law_cell_at", none), "_law_cell_at", "_law_cell_at", defArgs st__law_cell_at, defBody st__law_cell_at, defScope st__law_cell_at, [], []⟩
def df23 : He.DefD := ⟨("_law_mixed", none), "_law_mixed", "_law_mixed", defArgs st__law_mixed, defBody st__law_mixed, defScope st__law_mixed, [], []⟩
def df24 : He.DefD := ⟨("_law_source", none), "_law_source", "_law_source", defArgs st__law_source, defBody st__law_source, defScope st__law_source, [], []⟩
def df25 : He.DefD := ⟨("_law_next", none), "_law_next", "_law_next", defArgs st__law_next, defBody st__law_next, defScope st__law_next, [], []⟩
def df26 : He.DefD := ⟨("_law_names", none), "_law_names", "_law_names", defArgs st__law_names, defBody st__law_names, defScope st__law_names, [], []⟩
def df27 : He.DefD := ⟨("_law_place", none), "_law_place", "_law_place", defArgs st__law_place, defBody st__law_place, defScope st__law_place, [], []⟩
def df28 : He.DefD := ⟨("_law_model", none), "_law_model", "_law_model", defArgs st__law_model, defBody st__law_model, defScope st__law_model, [], []⟩
def df29 : He.DefD := ⟨("_law_made", none), "_law_made", "_law_made", defArgs st__law_made, defBody st__law_made, defScope st__law_made, [], []⟩
def df30 : He.DefD := ⟨("_law_no_ways", none), "_law_no_ways", "_law_no_ways", defArgs st__law_no_ways, defBody st__law_no_ways, defScope st__law_no_ways, [], []⟩
def df31 : He.DefD := ⟨("_law_word", none), "_law_word", "_law_word", defArgs st__law_word, defBody st__law_word, defScope st__law_word, [], []⟩
def df32 : He.DefD := ⟨("_law_way_word", none), "_law_way_word", "_law_way_word", defArgs st__law_way_word, defBody st__law_way_word, defScope st__law_way_word, [], []⟩
def df33 : He.DefD := ⟨("_law_rules_word", none), "_law_rules_word", "_law_rules_word", defArgs st__law_rules_word, defBody st__law_rules_word, defScope st__law_rules_word, [], []⟩
def df34 : He.DefD := ⟨("law", none), "law", "law", defArgs st_law, defBody st_law, defScope st_law, [], []⟩
def fnL : List He.DefD := [df0, df1, df2, df3, df4, df5, df6, df7, df8, df9, df10, df11, df12, df13, df14, df15, df16, df17, df18, df19, df20, df21, df22, df23, df24, df25, df26, df27, df28, df29, df30, df31, df32, df33, df34]
def faL : List He.Fa := [.glo "is_whole", .glo "is_name", .glo "is_way", .glo "are_ways", .mkr "Place", .meth "Place" "ways", .meth "Place" "few", .meth "Place" "most", .meth "Place" "cut", .meth "Place" "way", .meth "Place" "told", .meth "Place" "__eq__", .meth "Place" "is_joining", .meth "Place" "is_splitting", .meth "Place" "parts", .meth "Place" "leave", .glo "checked_rules", .glo "is_band", .glo "checked_state", .glo "arrived", .glo "day_behind", .glo "next_day", .glo "_law_cell_at", .glo "_law_mixed", .glo "_law_source", .glo "_law_next", .glo "_law_names", .glo "_law_place", .glo "_law_model", .glo "_law_made", .glo "_law_no_ways", .glo "_law_word", .glo "_law_way_word", .glo "_law_rules_word", .glo "law", .free "all", .free "bool", .free "dict", .free "int", .free "isinstance", .free "len", .free "list", .free "max", .free "min", .free "range", .free "sorted", .free "str", .free "tuple", .free "zip", .glo "Place", .int "MOST_LETTERS" 8, .str "SMALL" "abcdefghijklmnopqrstuvwxyz", .exc "BandError", .glo "BandError", .exc "NoPlace", .glo "NoPlace", .exc "NoRules", .glo "NoRules", .exc "NoState", .glo "NoState", .cls "Place", .noat "Place" "held_cut", .noat "Place" "held_few", .noat "Place" "held_most", .noat "Place" "held_ways", .exm "BandError" "BandError" true, .exm "BandError" "NoPlace" false, .exm "BandError" "NoRules" false, .exm "BandError" "NoState" false, .exm "NoPlace" "BandError" true, .exm "NoPlace" "NoPlace" true, .exm "NoPlace" "NoRules" false, .exm "NoPlace" "NoState" false, .exm "NoRules" "BandError" true, .exm "NoRules" "NoPlace" false, .exm "NoRules" "NoRules" true, .exm "NoRules" "NoState" false, .exm "NoState" "BandError" true, .exm "NoState" "NoPlace" false, .exm "NoState" "NoRules" false, .exm "NoState" "NoState" true]
def tfL : List He.Defn := []
def Gk (K : PySem.W.Frag) : Gm := { cls := fun x => He.ga K x, tabs := tfL.map fun p => (He.cT K p).2 }
theorem facts {K : PySem.W.Frag} {h base : Heap} {mg : Str → Option Value} (X : K.In h) (G : h.Ns mainGlobals mg) (c : He.SaysD faL fnL K) (x : ownA K (clsN, excN) = true) (tb : ∀ p ∈ tfL, LamX.TabB base mg (He.cT K p).1 (He.cT K p).2) : Fs K mg base (Gk K) where
  d_is_whole := by
    obtain ⟨fd, F⟩ := c.def_ 0 (d := df0) rfl
    exact ⟨_, fd, F, He.glo_ok X G (c.fact 0 (f := .glo "is_whole") rfl)⟩
  d_is_name := by
    obtain ⟨fd, F⟩ := c.def_ 1 (d := df1) rfl
    exact ⟨_, fd, F, He.glo_ok X G (c.fact 1 (f := .glo "is_name") rfl)⟩
  d_is_way := by
    obtain ⟨fd, F⟩ := c.def_ 2 (d := df2) rfl
    exact ⟨_, fd, F, He.glo_ok X G (c.fact 2 (f := .glo "is_way") rfl)⟩
  d_are_ways := by
    obtain ⟨fd, F⟩ := c.def_ 3 (d := df3) rfl
    exact ⟨_, fd, F, He.glo_ok X G (c.fact 3 (f := .glo "are_ways") rfl)⟩
  d_Place___init__ := by
    obtain ⟨fd, F⟩ := c.def_ 4 (d := df4) rfl
    exact ⟨_, fd, F, He.mkr_ok (c.fact 4 (f := .mkr "Place") rfl)⟩
  d_Place_ways := by
    obtain ⟨fd, F⟩ := c.def_ 5 (d := df5) rfl
    exact ⟨_, fd, F, He.meth_ok (c.fact 5 (f := .meth "Place" "ways") rfl)⟩
  d_Place_few := by
    obtain ⟨fd, F⟩ := c.def_ 6 (d := df6) rfl
    exact ⟨_, fd, F, He.meth_ok (c.fact 6 (f := .meth "Place" "few") rfl)⟩
  d_Place_most := by
    obtain ⟨fd, F⟩ := c.def_ 7 (d := df7) rfl
    exact ⟨_, fd, F, He.meth_ok (c.fact 7 (f := .meth "Place" "most") rfl)⟩
  d_Place_cut := by
    obtain ⟨fd, F⟩ := c.def_ 8 (d := df8) rfl
    exact ⟨_, fd, F, He.meth_ok (c.fact 8 (f := .meth "Place" "cut") rfl)⟩
  d_Place_way := by
    obtain ⟨fd, F⟩ := c.def_ 9 (d := df9) rfl
    exact ⟨_, fd, F, He.meth_ok (c.fact 9 (f := .meth "Place" "way") rfl)⟩
  d_Place_told := by
    obtain ⟨fd, F⟩ := c.def_ 10 (d := df10) rfl
    exact ⟨_, fd, F, He.meth_ok (c.fact 10 (f := .meth "Place" "told") rfl)⟩
  d_Place___eq__ := by
    obtain ⟨fd, F⟩ := c.def_ 11 (d := df11) rfl
    exact ⟨_, fd, F, He.meth_ok (c.fact 11 (f := .meth "Place" "__eq__") rfl)⟩
  d_Place_is_joining := by
    obtain ⟨fd, F⟩ := c.def_ 12 (d := df12) rfl
    exact ⟨_, fd, F, He.meth_ok (c.fact 12 (f := .meth "Place" "is_joining") rfl)⟩
  d_Place_is_splitting := by
    obtain ⟨fd, F⟩ := c.def_ 13 (d := df13) rfl
    exact ⟨_, fd, F, He.meth_ok (c.fact 13 (f := .meth "Place" "is_splitting") rfl)⟩
  d_Place_parts := by
    obtain ⟨fd, F⟩ := c.def_ 14 (d := df14) rfl
    exact ⟨_, fd, F, He.meth_ok (c.fact 14 (f := .meth "Place" "parts") rfl)⟩
  d_Place_leave := by
    obtain ⟨fd, F⟩ := c.def_ 15 (d := df15) rfl
    exact ⟨_, fd, F, He.meth_ok (c.fact 15 (f := .meth "Place" "leave") rfl)⟩
  d_checked_rules := by
    obtain ⟨fd, F⟩ := c.def_ 16 (d := df16) rfl
    exact ⟨_, fd, F, He.glo_ok X G (c.fact 16 (f := .glo "checked_rules") rfl)⟩
  d_is_band := by
    obtain ⟨fd, F⟩ := c.def_ 17 (d := df17) rfl
    exact ⟨_, fd, F, He.glo_ok X G (c.fact 17 (f := .glo "is_band") rfl)⟩
  d_checked_state := by
    obtain ⟨fd, F⟩ := c.def_ 18 (d := df18) rfl
    exact ⟨_, fd, F, He.glo_ok X G (c.fact 18 (f := .glo "checked_state") rfl)⟩
  d_arrived := by
    obtain ⟨fd, F⟩ := c.def_ 19 (d := df19) rfl
    exact ⟨_, fd, F, He.glo_ok X G (c.fact 19 (f := .glo "arrived") rfl)⟩
  d_day_behind := by
    obtain ⟨fd, F⟩ := c.def_ 20 (d := df20) rfl
    exact ⟨_, fd, F, He.glo_ok X G (c.fact 20 (f := .glo "day_behind") rfl)⟩
  d_next_day := by
    obtain ⟨fd, F⟩ := c.def_ 21 (d := df21) rfl
    exact ⟨_, fd, F, He.glo_ok X G (c.fact 21 (f := .glo "next_day") rfl)⟩
  d__law_cell_at := by
    obtain ⟨fd, F⟩ := c.def_ 22 (d := df22) rfl
    exact ⟨_, fd, F, He.glo_ok X G (c.fact 22 (f := .glo "_law_cell_at") rfl)⟩
  d__law_mixed := by
    obtain ⟨fd, F⟩ := c.def_ 23 (d := df23) rfl
    exact ⟨_, fd, F, He.glo_ok X G (c.fact 23 (f := .glo "_law_mixed") rfl)⟩
  d__law_source := by
    obtain ⟨fd, F⟩ := c.def_ 24 (d := df24) rfl
    exact ⟨_, fd, F, He.glo_ok X G (c.fact 24 (f := .glo "_law_source") rfl)⟩
  d__law_next := by
    obtain ⟨fd, F⟩ := c.def_ 25 (d := df25) rfl
    exact ⟨_, fd, F, He.glo_ok X G (c.fact 25 (f := .glo "_law_next") rfl)⟩
  d__law_names := by
    obtain ⟨fd, F⟩ := c.def_ 26 (d := df26) rfl
    exact ⟨_, fd, F, He.glo_ok X G (c.fact 26 (f := .glo "_law_names") rfl)⟩
  d__law_place := by
    obtain ⟨fd, F⟩ := c.def_ 27 (d := df27) rfl
    exact ⟨_, fd, F, He.glo_ok X G (c.fact 27 (f := .glo "_law_place") rfl)⟩
  d__law_model := by
    obtain ⟨fd, F⟩ := c.def_ 28 (d := df28) rfl
    exact ⟨_, fd, F, He.glo_ok X G (c.fact 28 (f := .glo "_law_model") rfl)⟩
  d__law_made := by
    obtain ⟨fd, F⟩ := c.def_ 29 (d := df29) rfl
    exact ⟨_, fd, F, He.glo_ok X G (c.fact 29 (f := .glo "_law_made") rfl)⟩
  d__law_no_ways := by
    obtain ⟨fd, F⟩ := c.def_ 30 (d := df30) rfl
    exact ⟨_, fd, F, He.glo_ok X G (c.fact 30 (f := .glo "_law_no_ways") rfl)⟩
  d__law_word := by
    obtain ⟨fd, F⟩ := c.def_ 31 (d := df31) rfl
    exact ⟨_, fd, F, He.glo_ok X G (c.fact 31 (f := .glo "_law_word") rfl)⟩
  d__law_way_word := by
    obtain ⟨fd, F⟩ := c.def_ 32 (d := df32) rfl
    exact ⟨_, fd, F, He.glo_ok X G (c.fact 32 (f := .glo "_law_way_word") rfl)⟩
  d__law_rules_word := by
    obtain ⟨fd, F⟩ := c.def_ 33 (d := df33) rfl
    exact ⟨_, fd, F, He.glo_ok X G (c.fact 33 (f := .glo "_law_rules_word") rfl)⟩
  d_law := by
    obtain ⟨fd, F⟩ := c.def_ 34 (d := df34) rfl
    exact ⟨_, fd, F, He.glo_ok X G (c.fact 34 (f := .glo "law") rfl)⟩
  b_all := He.free_ok X G (c.fact 35 (f := .free "all") rfl)
  b_bool := He.free_ok X G (c.fact 36 (f := .free "bool") rfl)
  b_dict := He.free_ok X G (c.fact 37 (f := .free "dict") rfl)
  b_int := He.free_ok X G (c.fact 38 (f := .free "int") rfl)
  b_isinstance := He.free_ok X G (c.fact 39 (f := .free "isinstance") rfl)
  b_len := He.free_ok X G (c.fact 40 (f := .free "len") rfl)
  b_list := He.free_ok X G (c.fact 41 (f := .free "list") rfl)
  b_max := He.free_ok X G (c.fact 42 (f := .free "max") rfl)
  b_min := He.free_ok X G (c.fact 43 (f := .free "min") rfl)
  b_range := He.free_ok X G (c.fact 44 (f := .free "range") rfl)
  b_sorted := He.free_ok X G (c.fact 45 (f := .free "sorted") rfl)
  b_str := He.free_ok X G (c.fact 46 (f := .free "str") rfl)
  b_tuple := He.free_ok X G (c.fact 47 (f := .free "tuple") rfl)
  b_zip := He.free_ok X G (c.fact 48 (f := .free "zip") rfl)
  k_Place := He.glo_ok X G (c.fact 49 (f := .glo "Place") rfl)
  c_MOST_LETTERS := He.int_ok X G (c.fact 50 (f := .int "MOST_LETTERS" 8) rfl)
  c_SMALL := He.str_ok X G (c.fact 51 (f := .str "SMALL" "abcdefghijklmnopqrstuvwxyz") rfl)
  x_BandError := by
    obtain ⟨a, b, e, f⟩ := He.exc_ok (c.fact 52 (f := .exc "BandError") rfl)
    exact ⟨a, He.glo_ok X G (c.fact 53 (f := .glo "BandError") rfl), b, e, f⟩
  x_NoPlace := by
    obtain ⟨a, b, e, f⟩ := He.exc_ok (c.fact 54 (f := .exc "NoPlace") rfl)
    exact ⟨a, He.glo_ok X G (c.fact 55 (f := .glo "NoPlace") rfl), b, e, f⟩
  x_NoRules := by
    obtain ⟨a, b, e, f⟩ := He.exc_ok (c.fact 56 (f := .exc "NoRules") rfl)
    exact ⟨a, He.glo_ok X G (c.fact 57 (f := .glo "NoRules") rfl), b, e, f⟩
  x_NoState := by
    obtain ⟨a, b, e, f⟩ := He.exc_ok (c.fact 58 (f := .exc "NoState") rfl)
    exact ⟨a, He.glo_ok X G (c.fact 59 (f := .glo "NoState") rfl), b, e, f⟩
  f_Place_held_cut := ⟨He.cls_ok (c.fact 60 (f := .cls "Place") rfl), He.noat_ok (c.fact 61 (f := .noat "Place" "held_cut") rfl)⟩
  f_Place_held_few := ⟨He.cls_ok (c.fact 60 (f := .cls "Place") rfl), He.noat_ok (c.fact 62 (f := .noat "Place" "held_few") rfl)⟩
  f_Place_held_most := ⟨He.cls_ok (c.fact 60 (f := .cls "Place") rfl), He.noat_ok (c.fact 63 (f := .noat "Place" "held_most") rfl)⟩
  f_Place_held_ways := ⟨He.cls_ok (c.fact 60 (f := .cls "Place") rfl), He.noat_ok (c.fact 64 (f := .noat "Place" "held_ways") rfl)⟩
  cl_Place := He.cls_ok (c.fact 60 (f := .cls "Place") rfl)
  gk := gk_of (cs := clsN) (h := (Bool.and_eq_true_iff.mp (Bool.and_eq_true_iff.mp x).1).1) (hcl := fun k hk => He.cls_ok (by
    simp only [clsN, List.mem_cons, List.not_mem_nil, or_false] at hk
    subst hk
    exact c.fact 60 (f := .cls "Place") rfl))
  em := by
    intro k hk d hd
    simp only [excN, List.mem_cons, List.not_mem_nil, or_false] at hk hd
    rcases hk with rfl | rfl | rfl | rfl <;> rcases hd with rfl | rfl | rfl | rfl
    · exact (He.exm_ok (c.fact 65 (f := .exm "BandError" "BandError" true) rfl)).trans (by decide)
    · exact (He.exm_ok (c.fact 66 (f := .exm "BandError" "NoPlace" false) rfl)).trans (by decide)
    · exact (He.exm_ok (c.fact 67 (f := .exm "BandError" "NoRules" false) rfl)).trans (by decide)
    · exact (He.exm_ok (c.fact 68 (f := .exm "BandError" "NoState" false) rfl)).trans (by decide)
    · exact (He.exm_ok (c.fact 69 (f := .exm "NoPlace" "BandError" true) rfl)).trans (by decide)
    · exact (He.exm_ok (c.fact 70 (f := .exm "NoPlace" "NoPlace" true) rfl)).trans (by decide)
    · exact (He.exm_ok (c.fact 71 (f := .exm "NoPlace" "NoRules" false) rfl)).trans (by decide)
    · exact (He.exm_ok (c.fact 72 (f := .exm "NoPlace" "NoState" false) rfl)).trans (by decide)
    · exact (He.exm_ok (c.fact 73 (f := .exm "NoRules" "BandError" true) rfl)).trans (by decide)
    · exact (He.exm_ok (c.fact 74 (f := .exm "NoRules" "NoPlace" false) rfl)).trans (by decide)
    · exact (He.exm_ok (c.fact 75 (f := .exm "NoRules" "NoRules" true) rfl)).trans (by decide)
    · exact (He.exm_ok (c.fact 76 (f := .exm "NoRules" "NoState" false) rfl)).trans (by decide)
    · exact (He.exm_ok (c.fact 77 (f := .exm "NoState" "BandError" true) rfl)).trans (by decide)
    · exact (He.exm_ok (c.fact 78 (f := .exm "NoState" "NoPlace" false) rfl)).trans (by decide)
    · exact (He.exm_ok (c.fact 79 (f := .exm "NoState" "NoRules" false) rfl)).trans (by decide)
    · exact (He.exm_ok (c.fact 80 (f := .exm "NoState" "NoState" true) rfl)).trans (by decide)
  ev := fun k hk => exF_of (cs := (clsN, excN)) (Bool.and_eq_true_iff.mp (Bool.and_eq_true_iff.mp x).1).2 hk
abbrev RR : PySem.W.OpenRow := PySem.W.OpenLaw.row PySem.Challenge.rw_bandforks_k02_what_is_no_place
abbrev hkL : PySem.W.Hook := hookY 4 faL fnL (clsN, excN) tfL
def obL (s : PySem.W.SharedT) : He.AlD × Bool := obsY 4 faL fnL (clsN, excN) tfL (HandSHeadRun.getT s)
theorem obL_eq (s : PySem.W.SharedT) : obL s = hkL.obs s.abs := obsY_eq (HandSHeadRun.getT_eq s)
def looseL : List Str := (["__name__", "BandError", "NoPlace", "NoRules", "NoState", "SMALL", "MOST_LETTERS", "is_whole", "is_name", "is_way", "are_ways", "Place", "checked_rules", "is_band", "checked_state", "arrived"] : List Str) ++ (["day_behind", "next_day", "_law_cell_at", "_law_mixed", "_law_source", "_law_next", "_law_names", "_law_place", "_law_model", "_law_made", "_law_no_ways", "_law_word", "_law_way_word", "_law_rules_word"] : List Str)
theorem runL (w : World) : HandSHeadRun.RunEq RR (PySem.W.view RR.prog [33]) hkL obL 8000 looseL w := by
  intro os
  kernel_rfl
theorem holds_of (M : ∀ js : List Int, js.length ≤ 63 → (∀ j ∈ js, Builtin.Int.intBits j ≤ 1048576) → ∃ ss, m_law [.val (.scr js)] = .ok (.val (.bl true), ss)) : PySem.Challenge.rw_bandforks_k02_what_is_no_place.Holds := by
  w_on; o_law
  refine HandSHeadRun.head_any (r := RR) (q := PySem.W.view RR.prog [33]) (H := hkL) (ob := obL) (M := 8000) (loose := looseL) (d := HandSHeadRun.topDef RR.prog 33) (kwd := []) obL_eq
    (by kernel_rfl) (fun s => by kernel_rfl) runL (by kernel_rfl) (by kernel_rfl) (by kernel_rfl) (by rfl) (by first | assumption | decide +kernel) (by decide +kernel) ⟨rfl, rfl, rfl, rfl, rfl, by decide +kernel⟩ ?hw ?hc
  case hw => w_witness2
  case hc =>
    refine BF.walk_T (l := PySem.Challenge.rw_bandforks_k02_what_is_no_place) (n := 63) (k := 7) (x := "_law_script") (CX := L2.CX (PySem.Challenge.rw_bandforks_k02_what_is_no_place).prog) rfl (by decide) (by kernel_rfl) ⟨rfl, by decide, by decide⟩ ?F noXB
    intro w mg fa h Y G hmg0
    obtain ⟨K, KX, S⟩ := Y
    have hmg : mg ("law" : PySem.Str) = some (.ref fa) := by
      have e : (HandSHeadRun.topDef RR.prog 33).name = ("law" : PySem.Str) := by kernel_rfl
      rw [← e]
      exact hmg0
    obtain ⟨fd, FL⟩ := S.d.def_ 34 (d := df34) rfl
    have g0 := He.glo_ok KX G (S.d.fact 34 (f := .glo "law") rfl)
    have e0 := g0.symm.trans hmg
    injection e0 with e0
    injection e0 with e0
    refine ⟨K, fd, spF (Gk K) 1 m_law, tfL.map (He.cT K), KX, ?_, ?_, ?_, fun s u => (FunD.bindsA (ps := ["_law_script"]) FL fun _ _ _ _ _ _ us hl => match us, hl with | [_], _ => rfl) s [u] rfl, fun H a js hl hbits hT hS => ?_, fun b0 kb nb tb => ?_⟩
    · intro q hq
      obtain ⟨p, hp, rfl⟩ := List.mem_map.mp hq
      exact S.empty p hp
    · intro q hq
      obtain ⟨p, hp, rfl⟩ := List.mem_map.mp hq
      exact S.out p hp
    · intro q hq
      obtain ⟨p, hp, rfl⟩ := List.mem_map.mp hq
      exact S.hd p hp
    · obtain ⟨ss, hm⟩ := M js hl hbits
      refine prom ?_ hm (fun P hP => ?_)
      · rcases hS with r | ⟨o, its, n, lk, oc, _⟩
        · exact r
        · exact absurd oc (ownA_lst (Bool.and_eq_true_iff.mp S.own).2 lk)
      · obtain ⟨p, hp, rfl⟩ := List.mem_map.mp hP
        exact TabM.nil (hT _ (List.mem_map.mpr ⟨p, hp, rfl⟩))
    · rw [← e0]
      exact okx_law (P := (PySem.Challenge.rw_bandforks_k02_what_is_no_place).prog) (w := w) (facts (base := b0) KX G S.d S.own fun p hp => tb _ (List.mem_map.mpr ⟨p, hp, rfl⟩)) FL
end LW

set_option maxRecDepth 100000 in
set_option maxHeartbeats 8000000 in
theorem PySem.Challenge.cw_bandforks_k02_what_is_no_place_holds : PySem.Challenge.rw_bandforks_k02_what_is_no_place.Holds := by
  exact LW.holds_of fun js h1 h2 => LW.main_law js h1
