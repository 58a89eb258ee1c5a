import PyProof.Rows.All
import Wide.All
import OpenK.AllK
import Wide.FinOn
import HandS.ForMost
import HandS.ForExc
import HandS.Lambda
import HandS.Style
import HandS.TupAny
import HandS.Wide
import HandS.Deep
import HandS.Text
import HandS.Flow
import HandS.IsInst
import HandS.WordsDict
import HandS.RaiseMore
import KE.KExcIs
import HandS.CallSlots
import HandS.Iter
import HandS.Zip
import HandS.Comp
import HandS.Dict
import HandS.WordsExc
import HandS.EndBits
import HandS.ExcIs
import HandS.ExcValue
import HandS.ExcField
import HandS.TryMany
import HandS.SetFor
import HandS.Small
import HandS.Conv
import HandS.Replace
import HandS.Defaults
import PyProof.Draws
import PyProof.EnumMake
import PyProof.TupleIter
import HandS.MakeKwOnly
import HandS.Property
import PyProof.InstNe
import HandS.ExcInit
import HandS.ClsMeth
import HandS.SetBool
import HandS.SetKeys
import HandS.OwnEq
import PyProof.EqAt
import PyProof.NeKinds
import PyProof.ReprLen
import KE.KNestM
import HandS.Head2
import PySem.Challenge.RW_endlist_k15_errors_told_apart
set_option Elab.async false
set_option linter.all false
set_option maxRecDepth 100000
set_option maxHeartbeats 4000000
/-! H: the law's head by three kernel runs of the top, each a theorem of its own. -/
namespace D
open PySem PySem.W PyProof.Rows PySem.Calls HandSHeadRun
/-- the state behind the top, by the library's twins -/
noncomputable def topEnd (r : OpenRow) (w : World) (os : OsState) : Option SharedT := endF (stepQ (denQ tabQ) r.prog w) 60000 r.prog w os
theorem map_both {α β γ : Type} {o : Option α} {f : α → β} {g : α → γ} {b : β} {c : γ} (h : o.map f = some b) (k : o.map g = some c) : o.map (fun s => (f s, g s)) = some (b, c) := by
  cases o with
  | none => cases h
  | some a => cases h; cases k; rfl
theorem head_h {r : OpenRow} {q : Program} {K : Params → Frag} {as : List Addr} {e : ∀ P, as = (K P).map (·.1)} {Hk : Hook} {loose : List PySem.Str} {d : DefRec} {kwd : List (PySem.Str × PySem.Expr)}
    (r1 : ∀ w os, (topEnd r w os).map (fun s => looksF r.prog (boot_heap w.params) s.abs) = some true)
    (r2 : ∀ w os, (topEnd r w os).map (fun s => seenQ q loose (importedModules r.prog.main.body) (fun s => xlAt q [] s && recOk r.toRowW.records s) s.abs) = some (openGood q loose))
    (hH : Hk = kHook K as e)
    (r3 : ∀ w os, (topEnd r w os).map (fun s => as.map (getT s)) = some ((K w.params).map fun x => some x.2))
    (eo : opening r.prog = plainProg r.prog.main.scope.names) (f : ∀ s, fenceModules? r.prog s = some s)
    (hdef : defOf q r.name = some (d, kwd)) (hp : r.prog.theDef r.name = some (d.params, d.body, d.scope)) (hk : kwWritten? d.params.kwonlyargs d.params.kw_defaults = some kwd)
    (hwr : (!r.writes || r.records.isEmpty) = true) (k1 : r.wellSaid = true) (ok : (chainsOk q && opensWell r.prog && (frees r.toRowW && r.within.isEmpty)) = true) (hb : r.prog.bare) (hw : r.toRowW.promised)
    (call : WalkO q loose (XL q []) Hk.says r.toRowW d kwd fun f vs => PySem.call f vs) : r.Holds := by
  subst hH
  refine head_any (H := kHook K as e) (ob := fun s => as.map (getT s)) (M := 60000) (fun s => List.map_congr_left fun a _ => getT_eq s a) eo f (fun w os => ?_) hdef hp hk hwr k1 ok hb hw call
  exact map_both (r1 w os) (map_both (r2 w os) (r3 w os))
/-- the same, where the top leaves tables for the code of lambdas -/
theorem head_hm {r : OpenRow} {q : Program} {K : Params → Frag} {as ts : List Addr} {e : ∀ P, as = (K P).map (·.1)} {Hk : Hook} {loose : List PySem.Str} {d : DefRec} {kwd : List (PySem.Str × PySem.Expr)}
    (r1 : ∀ w os, (topEnd r w os).map (fun s => looksF r.prog (boot_heap w.params) s.abs) = some true)
    (r2 : ∀ w os, (topEnd r w os).map (fun s => seenQ q loose (importedModules r.prog.main.body) (fun s => xlAt q [] s && recOk r.toRowW.records s) s.abs) = some (openGood q loose))
    (hH : Hk = kmHook K as e ts)
    (r3 : ∀ w os, (topEnd r w os).map (fun s => (as.map (getT s), ts.map (getT s))) = some ((K w.params).map fun x => some x.2, ts.map fun _ => some (tabObj #[])))
    (eo : opening r.prog = plainProg r.prog.main.scope.names) (f : ∀ s, fenceModules? r.prog s = some s)
    (hdef : defOf q r.name = some (d, kwd)) (hp : r.prog.theDef r.name = some (d.params, d.body, d.scope)) (hk : kwWritten? d.params.kwonlyargs d.params.kw_defaults = some kwd)
    (hwr : (!r.writes || r.records.isEmpty) = true) (k1 : r.wellSaid = true) (ok : (chainsOk q && opensWell r.prog && (frees r.toRowW && r.within.isEmpty)) = true) (hb : r.prog.bare) (hw : r.toRowW.promised)
    (call : WalkO q loose (XL q []) Hk.says r.toRowW d kwd fun f vs => PySem.call f vs) : r.Holds := by
  subst hH
  refine head_any (H := kmHook K as e ts) (ob := fun s => (as.map (getT s), ts.map (getT s))) (M := 60000) (fun s => Prod.ext (List.map_congr_left fun a _ => getT_eq s a) (List.map_congr_left fun a _ => getT_eq s a)) eo f (fun w os => ?_) hdef hp hk hwr k1 ok hb hw call
  exact map_both (r1 w os) (map_both (r2 w os) (r3 w os))
end D
namespace Law
open PySem PySem.W PyProof.Rows PySem.Calls HandSHeadRun
def loose0 : List PySem.Str := ["ArchiveError", "NoBytes", "NoNumber", "NoTime", "NoName", "NoComment", "NoData", "NoState", "NoChange", "NoFile", "NoPlace", "NoEntry", "Taken", "TooMany", "Unsafe", "NoSave", "NoTree", "NoText", "_law_begun", "_law_next", "_law_pick", "_law_marks"]
def looseN : List PySem.Str := loose0
abbrev rowR : OpenRow := OpenLaw.row PySem.Challenge.rw_endlist_k15_errors_told_apart
abbrev viewQ : Program := view rowR.prog [24]
/-- the top runs through, and leaves the statics as they were -/
theorem run1 (w : World) (os : OsState) : (D.topEnd rowR w os).map (fun s => looksF rowR.prog (boot_heap w.params) s.abs) = some true := by kernel_rfl
/-- what is seen of the top behind it -/
theorem run2 (w : World) (os : OsState) : (D.topEnd rowR w os).map (fun s => seenQ viewQ looseN (importedModules rowR.prog.main.body) (fun s => xlAt viewQ [] s && recOk rowR.toRowW.records s) s.abs) = some (openGood viewQ looseN) := by kernel_rfl
end Law
section
open PySem PySem.W PyProof.Rows
local macro_rules | `(tactic| o_head $H:term) => `(tactic| refine D.head_h (r := Law.rowR) (q := Law.viewQ) (Hk := $H) (d := HandSHeadRun.topDef Law.rowR.prog 24) (kwd := []) Law.run1 Law.run2 rfl (fun w os => by kernel_rfl) (by kernel_rfl) (fun s => by kernel_rfl) (by kernel_rfl) (by kernel_rfl) (by kernel_rfl) (by rfl) (by first | assumption | decide +kernel) (by decide +kernel) ⟨rfl, rfl, rfl, rfl, rfl, by decide +kernel⟩ ?hw ?hc)
set_option maxHeartbeats 0 in
open_top Law.top for PySem.Challenge.rw_endlist_k15_errors_told_apart
end

/-! D: deep values, how the abstract heap bears them, the states, the steps. -/
namespace D
open PySem L2

/-- deep values: lists, tuples, dicts, instances as trees; scr: the law's script; cel: a mutable thing that is shared -/
inductive DV where
  | non | bl (b : Bool) | int (i : Int) | str (s : Str)
  | lst (xs : List DV) | tup (xs : List DV) | dct (ks : List Key) (vs : List DV)
  | set (ks : List Key)
  | ins (c : Nat) (ns : List Str) (vs : List DV)
  | exc (c : Nat) (ns : List Str) (vs : List DV)
  | scr (xs : List Int)
  | cel (k : Nat)
  | ty (n : String) | cls (c : Nat)
  | opq
  deriving Inhabited
/-- an exception in flight -/
structure DX where
  c : Nat
  ns : List Str
  vs : List DV
  deriving Inhabited
structure DrawSt where
  digits : Int
  great : List Int
  lumps : List Int
  turn : Int
  deriving Inhabited
inductive CellC where
  | draw (d : DrawSt)
  | obj (d : DV)
  | dead
  deriving Inhabited
structure CellA where
  main : Addr
  more : List Addr
inductive Kd where
  | fro | new | view (i : Nat)
  deriving Inhabited
abbrev Slot := Option (DV × Bool)
structure DS where
  sl : List Slot
  cs : List CellC
  deriving Inhabited
inductive Out (α : Type) where
  | ok (a : α) (st : DS)
  | exc (x : DX) (st : DS)
  | stuck
def Out.bind {α β : Type} (o : Out α) (k : α → DS → Out β) : Out β := match o with
  | .ok a st => k a st
  | .exc x st => .exc x st
  | .stuck => .stuck
abbrev Ev := DS → Out (DV × Kd)

/-- what is fixed for a whole law: the written part, the classes' addresses -/
structure RC where
  K : PySem.W.Frag
  cls : Nat → Addr
  T : List (Addr × Str)

section
variable (C : RC) (ρ : List CellA) (A : Addr → Prop) (H : Hp)
/-- a tuple that the top has written -/
def KT (a : Addr) (xs : List V) : Prop := ∃ (o : Obj) (its : Array Value) (n : Nat), C.K.lookup a = some o ∧ o.cls = .type "tuple" ∧ o.data = .seq its n ∧ its.size ≤ sizeLine ∧ Vals xs its.toList
/-- a list that the top has written -/
def KL (a : Addr) (xs : List V) : Prop := ∃ (o : Obj) (its : Array Value) (n : Nat), C.K.lookup a = some o ∧ o.cls = .type "list" ∧ o.dict = none ∧ o.data = .seq its n ∧ its.size ≤ sizeLine ∧ Vals xs its.toList
/-- an exception object at a, of the class cls, its own dict at d -/
def XO (cls : Value) (d : Option Addr) (a : Addr) : HO := .ext fun h => ∃ (oe : Obj) (vs : Array Value), h.get? a = some oe ∧ Zc cls d oe ∧ oe.data = .fields vs
mutual
inductive Rep : V → DV → Prop where
  | non : Rep .non .non
  | bl (b : Bool) : Rep (.bl b) (.bl b)
  | int (i : Int) : Rep (.int i) (.int i)
  | str (s : Str) : Rep (.str s) (.str s)
  | ty (n : String) : Rep (.ty n) (.ty n)
  | cls (c : Nat) : Rep (.ref (C.cls c)) (.cls c)
  | lst {a : Addr} {xs : List V} {ds : List DV} : ¬ A a → H a = some (.lst xs) → RepL xs ds → Rep (.ref a) (.lst ds)
  | tup {a : Addr} {xs : List V} {ds : List DV} : ¬ A a → H a = some (.tup xs) → RepL xs ds → Rep (.ref a) (.tup ds)
  | ktup {a : Addr} {xs : List V} {ds : List DV} : KT C a xs → RepL xs ds → Rep (.ref a) (.tup ds)
  | dct {a : Addr} {xs : List V} {ks : List Key} {ds : List DV} : ¬ A a → H a = some (.dK (ks.zip xs)) → ks.length = xs.length → RepL xs ds → Rep (.ref a) (.dct ks ds)
  | ins {a dx : Addr} {c : Nat} {xs : List V} {ns : List Str} {ds : List DV} : ¬ A a → H a = some (.ins (C.cls c) dx (ns.zip xs)) → ns.length = xs.length → RepL xs ds → Rep (.ref a) (.ins c ns ds)
  | scr {a : Addr} {o : Obj} {ns : List Int} : ¬ A a → H a = some (.frz o (.lst (ns.map V.int))) → Rep (.ref a) (.scr ns)
  | kscr {a : Addr} {ns : List Int} : KL C a (ns.map V.int) → Rep (.ref a) (.scr ns)
  | cel {k : Nat} {c : CellA} : ρ[k]? = some c → Rep (.ref c.main) (.cel k)
  | opq (a : Addr) : Rep (.ref a) .opq
  | exc {a dx : Addr} {c : Nat} {xs : List V} {ns : List Str} {ds : List DV} : ¬ A a → H a = some (XO (.ref (C.cls c)) (some dx) a) → ¬ A dx → H dx = some (.xd (ns.zip xs)) → ns.length = xs.length → RepL xs ds → Rep (.ref a) (.exc c ns ds)
  | exc0 {a : Addr} {c : Nat} : ¬ A a → H a = some (XO (.ref (C.cls c)) none a) → Rep (.ref a) (.exc c [] [])
inductive RepL : List V → List DV → Prop where
  | nil : RepL [] []
  | cons {v : V} {vs : List V} {d : DV} {ds : List DV} : Rep v d → RepL vs ds → RepL (v :: vs) (d :: ds)
end
end

/-- no table of code objects -/
def NT : HO → Prop
  | .tbl _ => False
  | _ => True
theorem NT.ne {o : HO} (h : NT o) : ∀ ps, o ≠ .tbl ps := fun ps e => by subst e; exact h
section
variable {C : RC} {ρ ρ' : List CellA} {A A' : Addr → Prop} {H H' : Hp}
theorem RepL.length : ∀ {vs : List V} {ds : List DV}, RepL C ρ A H vs ds → vs.length = ds.length
  | _, _, .nil => rfl
  | _, _, .cons _ t => by simp [RepL.length t]
theorem RepL.get : ∀ {vs : List V} {ds : List DV} {i : Nat} {d : DV}, RepL C ρ A H vs ds → ds[i]? = some d → ∃ v, vs[i]? = some v ∧ Rep C ρ A H v d
  | _, _, _, _, .nil, e => by simp at e
  | _, _, 0, _, .cons r _, e => by simp at e; subst e; exact ⟨_, rfl, r⟩
  | _, _, i + 1, d, .cons _ t, e => by
    obtain ⟨v, h1, h2⟩ := RepL.get (i := i) (d := d) t (by simpa using e)
    exact ⟨v, by simpa using h1, h2⟩
theorem RepL.append : ∀ {vs ws : List V} {ds es : List DV}, RepL C ρ A H vs ds → RepL C ρ A H ws es → RepL C ρ A H (vs ++ ws) (ds ++ es)
  | _, _, _, _, .nil, s => s
  | _, _, _, _, .cons r t, s => .cons r (RepL.append t s)
theorem RepL.take : ∀ {vs : List V} {ds : List DV} (n : Nat), RepL C ρ A H vs ds → RepL C ρ A H (vs.take n) (ds.take n)
  | _, _, 0, _ => .nil
  | _, _, _ + 1, .nil => .nil
  | _, _, n + 1, .cons r t => .cons r (RepL.take n t)
theorem RepL.drop : ∀ {vs : List V} {ds : List DV} (n : Nat), RepL C ρ A H vs ds → RepL C ρ A H (vs.drop n) (ds.drop n)
  | _, _, 0, r => r
  | _, _, _ + 1, .nil => .nil
  | _, _, n + 1, .cons _ t => RepL.drop n t
theorem RepL.set {v : V} {d : DV} (r : Rep C ρ A H v d) : ∀ {vs : List V} {ds : List DV} (i : Nat), RepL C ρ A H vs ds → RepL C ρ A H (vs.set i v) (ds.set i d)
  | _, _, _, .nil => .nil
  | _, _, 0, .cons _ t => .cons r t
  | _, _, i + 1, .cons q t => .cons q (RepL.set r i t)
theorem RepL.reverse : ∀ {vs : List V} {ds : List DV}, RepL C ρ A H vs ds → RepL C ρ A H vs.reverse ds.reverse
  | _, _, .nil => .nil
  | _, _, .cons q t => by
    rw [List.reverse_cons, List.reverse_cons]
    exact RepL.append (RepL.reverse t) (.cons q .nil)
mutual
theorem Rep.mv (hp : ρ <+: ρ') (hk : ∀ a o, H a = some o → ¬ A a → NT o → H' a = some o) (ha : ∀ a, A' a → A a ∨ H a = none) : ∀ {v : V} {d : DV}, Rep C ρ A H v d → Rep C ρ' A' H' v d
  | _, _, .non => .non
  | _, _, .bl b => .bl b
  | _, _, .int i => .int i
  | _, _, .str s => .str s
  | _, _, .ty n => .ty n
  | _, _, .cls c => .cls c
  | _, _, .lst n e r => .lst (fun z => (ha _ z).elim n fun q => by rw [e] at q; cases q) (hk _ _ e n trivial) (RepL.mv hp hk ha r)
  | _, _, .tup n e r => .tup (fun z => (ha _ z).elim n fun q => by rw [e] at q; cases q) (hk _ _ e n trivial) (RepL.mv hp hk ha r)
  | _, _, .ktup k r => .ktup k (RepL.mv hp hk ha r)
  | _, _, .dct n e l r => .dct (fun z => (ha _ z).elim n fun q => by rw [e] at q; cases q) (hk _ _ e n trivial) l (RepL.mv hp hk ha r)
  | _, _, .ins n e l r => .ins (fun z => (ha _ z).elim n fun q => by rw [e] at q; cases q) (hk _ _ e n trivial) l (RepL.mv hp hk ha r)
  | _, _, .scr n e => .scr (fun z => (ha _ z).elim n fun q => by rw [e] at q; cases q) (hk _ _ e n trivial)
  | _, _, .kscr k => .kscr k
  | _, _, .cel e => .cel (by
      obtain ⟨t, rfl⟩ := hp
      rw [List.getElem?_append_left (List.getElem?_eq_some_iff.mp e).1]; exact e)
  | _, _, .opq a => .opq a
  | _, _, .exc n e n2 e2 l r => .exc (fun z => (ha _ z).elim n fun q => by rw [e] at q; cases q) (hk _ _ e n trivial) (fun z => (ha _ z).elim n2 fun q => by rw [e2] at q; cases q) (hk _ _ e2 n2 trivial) l (RepL.mv hp hk ha r)
  | _, _, .exc0 n e => .exc0 (fun z => (ha _ z).elim n fun q => by rw [e] at q; cases q) (hk _ _ e n trivial)
theorem RepL.mv (hp : ρ <+: ρ') (hk : ∀ a o, H a = some o → ¬ A a → NT o → H' a = some o) (ha : ∀ a, A' a → A a ∨ H a = none) : ∀ {vs : List V} {ds : List DV}, RepL C ρ A H vs ds → RepL C ρ' A' H' vs ds
  | _, _, .nil => .nil
  | _, _, .cons r t => .cons (Rep.mv hp hk ha r) (RepL.mv hp hk ha t)
end
end

/-- a thing that may be written -/
def WR : HO → Prop
  | .lst _ => True
  | .dK _ => True
  | .ins _ _ _ => True
  | _ => False
theorem tabs_but {T : List (Addr × Str)} {H H' : Hp} (t : LamX.Tabs T H) (h : ∀ a o, H a = some o → ¬ WR o → H' a = some o) : LamX.Tabs T H' := fun q hq => by
  obtain ⟨ps, h1, h2, h3⟩ := t q hq
  refine ⟨ps, h _ _ h1 fun z => z, h2, fun pos cv hc => ?_⟩
  obtain ⟨c, e1, e2⟩ := h3 pos cv hc
  exact ⟨c, e1, h _ _ e2 fun z => z⟩
theorem tabs_write {T : List (Addr × Str)} {H : Hp} {p : Addr} {o' : HO} (t : LamX.Tabs T H) (hw : ∀ o, H p = some o → WR o) : LamX.Tabs T (upd H p o') :=
  tabs_but t fun a o e n => by rw [upd_ne (fun (z : a = p) => n (hw o (by rw [← z]; exact e)))]; exact e
/-! ### cells -/
def CM (ρ : List CellA) (a : Addr) : Prop := ∃ c ∈ ρ, a = c.main ∨ a ∈ c.more
def kDigits : Key := .inr "digits"
def kGreat : Key := .inr "great"
def kLumps : Key := .inr "lumps"
def kTurn : Key := .inr "turn"
/-- the draw's dict at a, its two lists at g and l -/
def DrawAt (H : Hp) (c : CellA) (d : DrawSt) : Prop := ∃ g l, c.more = [g, l] ∧ c.main ≠ g ∧ c.main ≠ l ∧ g ≠ l ∧
  H c.main = some (.dK [(kDigits, .int d.digits), (kGreat, .ref g), (kLumps, .ref l), (kTurn, .int d.turn)]) ∧ H g = some (.lst (d.great.map V.int)) ∧ H l = some (.lst (d.lumps.map V.int))
section
variable (C : RC) (ρ : List CellA) (A : Addr → Prop) (H : Hp)
/-- the content of what is held at p alone -/
def Cont (p : Addr) : DV → Prop
  | .lst ds => ∃ xs, H p = some (.lst xs) ∧ RepL C ρ A H xs ds
  | .dct ks ds => ∃ xs, H p = some (.dK (ks.zip xs)) ∧ ks.length = xs.length ∧ RepL C ρ A H xs ds
  | .ins c ns ds => ∃ dx xs, H p = some (.ins (C.cls c) dx (ns.zip xs)) ∧ ns.length = xs.length ∧ RepL C ρ A H xs ds
  | _ => False
def CellOk (c : CellA) : CellC → Prop
  | .draw d => DrawAt H c d
  | .obj d => c.more = [] ∧ Cont C ρ A H c.main d
  | .dead => True
end
theorem Cont.mv {C : RC} {ρ ρ' : List CellA} {A A' : Addr → Prop} {H H' : Hp} {p : Addr} (hp : ρ <+: ρ') (hk : ∀ a o, H a = some o → ¬ A a → NT o → H' a = some o) (ha : ∀ a, A' a → A a ∨ H a = none)
    (hpp : H' p = H p) : ∀ {d : DV}, Cont C ρ A H p d → Cont C ρ' A' H' p d
  | .lst _, ⟨xs, e, r⟩ => ⟨xs, hpp.trans e, r.mv hp hk ha⟩
  | .dct _ _, ⟨xs, e, l, r⟩ => ⟨xs, hpp.trans e, l, r.mv hp hk ha⟩
  | .ins _ _ _, ⟨dx, xs, e, l, r⟩ => ⟨dx, xs, hpp.trans e, l, r.mv hp hk ha⟩
theorem Cont.some {C : RC} {ρ : List CellA} {A : Addr → Prop} {H : Hp} {p : Addr} : ∀ {d : DV}, Cont C ρ A H p d → H p ≠ none
  | .lst _, ⟨xs, e, r⟩ => by rw [e]; exact fun z => nomatch z
  | .dct _ _, ⟨xs, e, l, r⟩ => by rw [e]; exact fun z => nomatch z
  | .ins _ _ _, ⟨dx, xs, e, l, r⟩ => by rw [e]; exact fun z => nomatch z
theorem Cont.nt {C : RC} {ρ : List CellA} {A : Addr → Prop} {H : Hp} {p : Addr} : ∀ {d : DV}, Cont C ρ A H p d → ∃ o, H p = Option.some o ∧ NT o
  | .lst _, ⟨xs, e, r⟩ => ⟨_, e, trivial⟩
  | .dct _ _, ⟨xs, e, l, r⟩ => ⟨_, e, trivial⟩
  | .ins _ _ _, ⟨dx, xs, e, l, r⟩ => ⟨_, e, trivial⟩
/-- held alone, it is a deep value like another, where p need not be kept away -/
theorem Cont.rep {C : RC} {ρ : List CellA} {A A' : Addr → Prop} {H : Hp} {p : Addr} (ha : ∀ a, A' a → A a) (hp : ¬ A' p) : ∀ {d : DV}, Cont C ρ A H p d → Rep C ρ A' H (.ref p) d
  | .lst _, ⟨xs, e, r⟩ => .lst hp e (r.mv (List.prefix_refl _) (fun _ _ e _ _ => e) fun a z => .inl (ha a z))
  | .dct _ _, ⟨xs, e, l, r⟩ => .dct hp e l (r.mv (List.prefix_refl _) (fun _ _ e _ _ => e) fun a z => .inl (ha a z))
  | .ins _ _ _, ⟨dx, xs, e, l, r⟩ => .ins hp e l (r.mv (List.prefix_refl _) (fun _ _ e _ _ => e) fun a z => .inl (ha a z))

/-! ### the state -/
section
variable (ρ : List CellA) (O : Addr → Prop) (st : DS) (σ : L2.St)
def ownAt (i : Nat) (p : Addr) : Prop := ∃ d, st.sl[i]? = some (some (d, true)) ∧ σ[i]? = some (some (.ref p))
def Av (a : Addr) : Prop := O a ∨ CM ρ a ∨ ∃ i, ownAt st σ i a
end
/-- what is fixed for a def's run: O what the caller wants kept away from what is handed in, H0 the heap at the entry -/
structure BC where
  C : RC
  O : Addr → Prop
  H0 : Hp
structure CellsOk (C : RC) (ρ : List CellA) (A : Addr → Prop) (H : Hp) (cs : List CellC) : Prop where
  len : ρ.length = cs.length
  ok : ∀ (k : Nat) (c : CellA) (x : CellC), ρ[k]? = some c → cs[k]? = some x → CellOk C ρ A H c x
  dis : ∀ (i j : Nat) (c c' : CellA), ρ[i]? = some c → ρ[j]? = some c' → i ≠ j → ∀ a, (a = c.main ∨ a ∈ c.more) → ¬ (a = c'.main ∨ a ∈ c'.more)
structure Rel (B : BC) (ρ : List CellA) (st : DS) (σ : L2.St) (H : Hp) : Prop where
  len : st.sl.length = σ.length
  fro : ∀ (i : Nat) (d : DV), st.sl[i]? = some (some (d, false)) → ∃ v, σ[i]? = some (some v) ∧ Rep B.C ρ (Av ρ B.O st σ) H v d
  own : ∀ (i : Nat) (d : DV), st.sl[i]? = some (some (d, true)) → ∃ p, σ[i]? = some (some (.ref p)) ∧ Cont B.C ρ (Av ρ B.O st σ) H p d ∧ ¬ CM ρ p ∧ ¬ B.O p ∧ B.H0 p = none
  dis : ∀ i j p, ownAt st σ i p → ownAt st σ j p → i = j
  dom : ∀ a, B.H0 a ≠ none → H a ≠ none
  odom : ∀ a, B.O a → H a ≠ none
  cel : CellsOk B.C ρ (Av ρ B.O st σ) H st.cs
  cdom : ∀ a, CM ρ a → H a ≠ none
  tabs : LamX.Tabs B.C.T H
structure Step (B : BC) (σ : L2.St) (ρ : List CellA) (st : DS) (H : Hp) (ρ' : List CellA) (st' : DS) (H' : Hp) : Prop where
  pre : ρ <+: ρ'
  rel : Rel B ρ' st' σ H'
  fr : ∀ a o, H a = some o → ¬ CM ρ a → NT o → H' a = some o
  sub : ∀ i p, ownAt st' σ i p → ownAt st σ i p
  sl : ∀ (i : Nat) (d : DV) (b : Bool), st'.sl[i]? = some (some (d, b)) → ∃ c, st.sl[i]? = some (some (d, c))
  cm : ∀ a, CM ρ' a → CM ρ a ∨ H a = none
  dm : ∀ a, H a ≠ none → H' a ≠ none
section
variable {B : BC} {σ : L2.St} {ρ ρ1 ρ2 : List CellA} {st st1 st2 : DS} {H H1 H2 : Hp}
theorem Step.refl (r : Rel B ρ st σ H) : Step B σ ρ st H ρ st H := ⟨List.prefix_refl _, r, fun _ _ e _ _ => e, fun _ _ z => z, fun _ _ b z => ⟨b, z⟩, fun _ z => .inl z, fun _ z => z⟩
theorem Step.av (s : Step B σ ρ st H ρ1 st1 H1) : ∀ a, Av ρ1 B.O st1 σ a → Av ρ B.O st σ a ∨ H a = none := fun a z => by
  rcases z with z | z | ⟨i, z⟩
  · exact .inl (.inl z)
  · exact (s.cm a z).imp (fun z => .inr (.inl z)) id
  · exact .inl (.inr (.inr ⟨i, s.sub i a z⟩))
theorem none_of_dm {a : Addr} (dm : ∀ a, H a ≠ none → H1 a ≠ none) (h : H1 a = none) : H a = none := by
  cases e : H a with
  | none => rfl
  | some o => exact absurd h (dm a (by rw [e]; exact fun z => nomatch z))
theorem Step.trans (a : Step B σ ρ st H ρ1 st1 H1) (b : Step B σ ρ1 st1 H1 ρ2 st2 H2) : Step B σ ρ st H ρ2 st2 H2 where
  pre := a.pre.trans b.pre
  rel := b.rel
  fr := fun p o e n t => b.fr p o (a.fr p o e n t) (fun z => (a.cm p z).elim n fun q => by rw [e] at q; cases q) t
  sub := fun i p z => a.sub i p (b.sub i p z)
  sl := fun i d c z => let ⟨c', z'⟩ := b.sl i d c z; a.sl i d c' z'
  cm := fun p z => (b.cm p z).elim (a.cm p) fun q => .inr (none_of_dm a.dm q)
  dm := fun p z => b.dm p (a.dm p z)
theorem Av.cm {ρ : List CellA} {O : Addr → Prop} {st : DS} {σ : L2.St} {a : Addr} (h : CM ρ a) : Av ρ O st σ a := .inr (.inl h)
theorem Rep.step (s : Step B σ ρ st H ρ1 st1 H1) {v : V} {d : DV} (r : Rep B.C ρ (Av ρ B.O st σ) H v d) : Rep B.C ρ1 (Av ρ1 B.O st1 σ) H1 v d :=
  r.mv s.pre (fun a o e n t => s.fr a o e (fun z => n (.cm z)) t) s.av
theorem RepL.step (s : Step B σ ρ st H ρ1 st1 H1) {v : List V} {d : List DV} (r : RepL B.C ρ (Av ρ B.O st σ) H v d) : RepL B.C ρ1 (Av ρ1 B.O st1 σ) H1 v d :=
  r.mv s.pre (fun a o e n t => s.fr a o e (fun z => n (.cm z)) t) s.av
end

def isCont : DV → Bool
  | .lst _ => true | .dct _ _ => true | .ins _ _ _ => true | _ => false
/-! ### the kinds of a result -/
/-- a new thing holds nothing that holds it -/
def NewC (B : BC) (ρ : List CellA) (st : DS) (σ : L2.St) (H : Hp) (v : V) (d : DV) : Prop := ∀ p, v = .ref p → isCont d = true → Cont B.C ρ (fun a => Av ρ B.O st σ a ∨ a = p) H p d
def RepK (B : BC) (ρ : List CellA) (st : DS) (σ : L2.St) (H : Hp) (kd : Kd) (v : V) (d : DV) : Prop := match kd with
  | .fro => Rep B.C ρ (Av ρ B.O st σ) H v d
  | .new => Rep B.C ρ (Av ρ B.O st σ) H v d ∧ NewC B ρ st σ H v d
  | .view i => ∃ p, v = .ref p ∧ σ[i]? = some (some (.ref p)) ∧ Cont B.C ρ (Av ρ B.O st σ) H p d ∧ ¬ CM ρ p ∧ ¬ B.O p ∧ (∀ j, ownAt st σ j p → j = i) ∧ B.H0 p = none
def Fresh (H : Hp) (kd : Kd) (v : V) : Prop := match kd with
  | .new => ∀ p, v = .ref p → H p = none
  | _ => True
section
variable {B : BC} {σ : L2.St} {ρ ρ1 ρ2 : List CellA} {st st1 st2 : DS} {H H1 H2 : Hp} {kd : Kd} {v : V} {d : DV}
theorem RepK.step (s : Step B σ ρ st H ρ1 st1 H1) (r : RepK B ρ st σ H kd v d) : RepK B ρ1 st1 σ H1 kd v d := by
  cases kd with
  | fro => exact Rep.step s r
  | new =>
    obtain ⟨r, n⟩ := r
    refine ⟨Rep.step s r, fun p ep hc => ?_⟩
    have c := n p ep hc
    obtain ⟨o, eo, nt⟩ := c.nt
    subst ep
    have hn : ¬ CM ρ p := fun z => by
      cases r with
      | lst n' _ _ => exact n' (.inr (.inl z))
      | dct n' _ _ _ => exact n' (.inr (.inl z))
      | ins n' _ _ _ => exact n' (.inr (.inl z))
      | _ => cases hc
    refine c.mv s.pre (fun a o e n t => s.fr a o e (fun z => n (.inl (.cm z))) t) (fun a z => ?_) ((s.fr p o eo hn nt).trans eo.symm)
    rcases z with z | z
    · exact (s.av a z).imp .inl id
    · exact .inl (.inr z)
  | view i =>
    obtain ⟨p, rfl, e, c, n1, n2, u, n3⟩ := r
    obtain ⟨o, eo, nt⟩ := c.nt
    refine ⟨p, rfl, e, c.mv s.pre (fun a o e n t => s.fr a o e (fun z => n (.cm z)) t) s.av ((s.fr p o eo n1 nt).trans eo.symm), fun z => (s.cm p z).elim n1 fun q => ?_, n2, fun j oj => u j (s.sub j p oj), n3⟩
    rw [eo] at q; cases q
theorem Fresh.dm (dm : ∀ a, H a ≠ none → H1 a ≠ none) (f : Fresh H1 kd v) : Fresh H kd v := by
  cases kd with
  | new => exact fun p e => none_of_dm dm (f p e)
  | fro => trivial
  | view i => trivial
end
end D

/-! D: what a run's answer asks (Res), the readings that say «D's answer» (RD ..), their laws. -/
namespace D
open PySem L2

/-- an exception as it lies: its class, its own dict -/
def XRep (B : BC) (ρ : List CellA) (st : DS) (σ : L2.St) (H : Hp) (x : DX) (cls : Value) (d : Option Addr) : Prop :=
  cls = .ref (B.C.cls x.c) ∧ ((x.ns = [] ∧ x.vs = [] ∧ d = none) ∨ ∃ a vs, d = some a ∧ ¬ Av ρ B.O st σ a ∧ H a = some (.xd (x.ns.zip vs)) ∧ x.ns.length = vs.length ∧ RepL B.C ρ (Av ρ B.O st σ) H vs x.vs)
theorem XRep.step {B : BC} {σ : L2.St} {ρ ρ1 : List CellA} {st st1 : DS} {H H1 : Hp} {x : DX} {cls : Value} {d : Option Addr} (s : Step B σ ρ st H ρ1 st1 H1) (r : XRep B ρ st σ H x cls d) : XRep B ρ1 st1 σ H1 x cls d := by
  obtain ⟨e, r⟩ := r
  refine ⟨e, ?_⟩
  rcases r with r | ⟨a, vs, e1, n, e2, l, r⟩
  · exact .inl r
  · exact .inr ⟨a, vs, e1, fun z => (s.av a z).elim n fun q => (by rw [e2] at q; cases q), s.fr a _ e2 (fun z => n (.cm z)) trivial, l, RepL.step s r⟩

section
variable (B : BC) (W : WX) (σ : L2.St)
/-- what D's answer asks -/
def Res {α : Type} (ρ : List CellA) (st : DS) (H : Hp) (o : Out α) (G : α → DS → List CellA → Hp → Prop) : Prop := match o with
  | .ok a st' => ∀ ρ' H', Step B σ ρ st H ρ' st' H' → G a st' ρ' H'
  | .exc x st' => ∀ ρ' H' cls d, Step B σ ρ st H ρ' st' H' → XRep B ρ' st' σ H' x cls d → W cls d σ H'
  | .stuck => False
end
section
variable {B : BC} {W : WX} {σ : L2.St} {ρ : List CellA} {st : DS} {H : Hp} {α β : Type} {o : Out α}
theorem Res.imp {G G' : α → DS → List CellA → Hp → Prop} (r : Res B W σ ρ st H o G) (h : ∀ a st' ρ' H', Step B σ ρ st H ρ' st' H' → G a st' ρ' H' → G' a st' ρ' H') : Res B W σ ρ st H o G' := by
  cases o with
  | ok a st' => exact fun ρ' H' s => h _ _ _ _ s (r ρ' H' s)
  | exc x st' => exact r
  | stuck => exact r
theorem Res.bind {k : α → DS → Out β} {G : β → DS → List CellA → Hp → Prop} (r : Res B W σ ρ st H (o.bind k) G) : Res B W σ ρ st H o fun a st1 ρ1 H1 => Res B W σ ρ1 st1 H1 (k a st1) G := by
  cases o with
  | ok a st1 =>
    intro ρ1 H1 s
    have r' : Res B W σ ρ st H (k a st1) G := r
    cases e : k a st1 with
    | ok b st2 =>
      rw [e] at r'
      exact fun ρ2 H2 s2 => r' ρ2 H2 (s.trans s2)
    | exc x st2 =>
      rw [e] at r'
      exact fun ρ2 H2 cls d s2 q => r' ρ2 H2 cls d (s.trans s2) q
    | stuck =>
      rw [e] at r'
      exact r'
  | exc x st' => exact r
  | stuck => exact r
/-- an answer at once -/
theorem Res.now {a : α} {G : α → DS → List CellA → Hp → Prop} (rel : Rel B ρ st σ H) (r : Res B W σ ρ st H (.ok a st) G) : G a st ρ H := r ρ H (.refl rel)
end

/-- behind an expression: every value that is D's -/
def GE (B : BC) (σ : L2.St) (H : Hp) (Q : VK) : DV × Kd → DS → List CellA → Hp → Prop := fun a st' ρ' H' => ∀ v, RepK B ρ' st' σ H' a.2 v a.1 → Fresh H a.2 v → Q v H'
def RD (B : BC) (W : WX) (f : Ev) : TE := fun σ H Q => ∃ ρ st, Rel B ρ st σ H ∧ Res B W σ ρ st H (f st) (GE B σ H Q)
def PD (X : Cx) (B : BC) (W : WX) (e : Expr) (f : Ev) : Prop := PE X e (RD B W f)
theorem PE.mono {X : Cx} {e : Expr} {t t' : TE} (h : PE X e t) (m : ∀ σ H Q, t' σ H Q → t σ H Q) : PE X e t' := ⟨fun pins s σ H Q I r => h.run pins s σ H Q I (m _ _ _ r)⟩
theorem PT.mono {X : Cx} {e : Expr} {t t' : TT} (h : PT X e t) (m : ∀ σ H Q, t' σ H Q → t σ H Q) : PT X e t' := ⟨fun pins s σ H Q I r => h.run pins s σ H Q I (m _ _ _ r)⟩
theorem PA.mono {X : Cx} {e : List Expr} {t t' : TA} (h : PA X e t) (m : ∀ σ H Q, t' σ H Q → t σ H Q) : PA X e t' := ⟨fun pos pins s σ H Q I r => h.run pos pins s σ H Q I (m _ _ _ r)⟩
theorem PS.mono {X : Cx} {e : Stmt} {t t' : TS} (h : PS X e t) (m : ∀ D σ H, t' D σ H → t D σ H) : PS X e t' := ⟨fun pins s σ H D I r => h.run pins s σ H D I (m _ _ _ r)⟩
theorem PSs.mono {X : Cx} {e : List Stmt} {t t' : TS} (h : PSs X e t) (m : ∀ D σ H, t' D σ H → t D σ H) : PSs X e t' := ⟨fun pins s σ H D I r => h.run pins s σ H D I (m _ _ _ r)⟩

section
variable {X : Cx} {B : BC} {W : WX} {σ : L2.St} {ρ ρ1 : List CellA} {st st1 : DS} {H H1 : Hp} {f : Ev} {e a b : Expr} {pos : Pos}
/-- the reading of a part, from the answer of the whole -/
theorem RD.go {G : DV × Kd → DS → List CellA → Hp → Prop} {Q : VK} (rel : Rel B ρ st σ H) (r : Res B W σ ρ st H (f st) G)
    (h : ∀ a st' ρ' H', Step B σ ρ st H ρ' st' H' → G a st' ρ' H' → ∀ v, RepK B ρ' st' σ H' a.2 v a.1 → Fresh H a.2 v → Q v H') : RD B W f σ H Q :=
  ⟨ρ, st, rel, r.imp h⟩
/-- a flat value is there in every state -/
def flat : DV → Bool
  | .non => true | .bl _ => true | .int _ => true | .str _ => true | .ty _ => true | _ => false
def flatV' : DV → V
  | .bl b => .bl b | .int i => .int i | .str s => .str s | .ty n => .ty n | _ => .non
theorem Rep.flat {C : RC} {ρ : List CellA} {A : Addr → Prop} {H : Hp} : ∀ {d : DV}, flat d = true → Rep C ρ A H (flatV' d) d
  | .non, _ => .non | .bl b, _ => .bl b | .int i, _ => .int i | .str s, _ => .str s | .ty n, _ => .ty n
theorem Rep.flat_eq {C : RC} {ρ : List CellA} {A : Addr → Prop} {H : Hp} {v : V} {d : DV} (h : D.flat d = true) (r : Rep C ρ A H v d) : v = flatV' d := by
  cases r <;> first | rfl | cases h

/-! ### names and constants -/
/-- the slot i -/
def evVar (i : Nat) : Ev := fun st => match st.sl[i]? with
  | some (some (d, false)) => .ok (d, .fro) st
  | some (some (d, true)) => .ok (d, .view i) st
  | _ => .stuck
theorem pd_var {i : Nat} (h : PE X e (tVar i)) : PD X B W e (evVar i) := by
  refine PE.mono h fun σ H Q ⟨ρ, st, rel, r⟩ => ?_
  unfold evVar at r
  split at r
  · rename_i d hs
    obtain ⟨v, e, q⟩ := rel.fro i d hs
    exact ⟨v, e, Res.now rel r v q trivial⟩
  · rename_i d hs
    obtain ⟨p, e, c, n1, n2, n3⟩ := rel.own i d hs
    exact ⟨.ref p, e, Res.now rel r _ ⟨p, rfl, e, c, n1, n2, fun j oj => rel.dis j i p oj ⟨d, hs, e⟩, n3⟩ trivial⟩
  · exact r.elim
def evC (d : DV) : Ev := fun st => .ok (d, .new) st
theorem pd_c {v : V} {d : DV} (h : PE X e (tC v)) (r : ∀ C ρ A H, Rep C ρ A H v d) (hv : ∀ p, v ≠ .ref p) : PD X B W e (evC d) :=
  PE.mono h fun σ H Q ⟨ρ, st, rel, q⟩ => Res.now rel q v ⟨r _ _ _ _, fun p z => absurd z (hv p)⟩ fun p z => absurd z (hv p)
end

/-! ### a new object -/
section
variable {X : Cx} {B : BC} {W : WX} {σ : L2.St} {ρ ρ1 : List CellA} {st st1 : DS} {H H1 : Hp}
theorem Rel.alloc {p : Addr} {o : HO} (r : Rel B ρ st σ H) (hp : H p = none) : Rel B ρ st σ (upd H p o) := by
  have kp : ∀ a u, H a = some u → upd H p o a = some u := fun a u e => by rw [upd_ne (ne_of_none e hp)]; exact e
  have av : ∀ a, Av ρ B.O st σ a → Av ρ B.O st σ a ∨ H a = none := fun a z => .inl z
  refine ⟨r.len, fun i d h => ?_, fun i d h => ?_, r.dis, fun a z => ?_, fun a z => (by obtain ⟨u, eu⟩ := Option.ne_none_iff_exists'.mp (r.odom a z); rw [kp a u eu]; exact fun z => nomatch z), ⟨r.cel.len, fun k c x h1 h2 => ?_, r.cel.dis⟩, fun a z => ?_, r.tabs.ext kp⟩
  · obtain ⟨v, e, q⟩ := r.fro i d h
    exact ⟨v, e, q.mv (List.prefix_refl _) (fun a u e _ _ => kp a u e) av⟩
  · obtain ⟨q, e, c, n1, n2, n3⟩ := r.own i d h
    obtain ⟨u, eu⟩ := Option.ne_none_iff_exists'.mp c.some
    exact ⟨q, e, c.mv (List.prefix_refl _) (fun a u e _ _ => kp a u e) av ((kp _ _ eu).trans eu.symm), n1, n2, n3⟩
  · obtain ⟨u, eu⟩ := Option.ne_none_iff_exists'.mp (r.dom a z)
    rw [kp a u eu]; exact fun z => nomatch z
  · have q := r.cel.ok k c x h1 h2
    cases x with
    | draw d =>
      obtain ⟨g, l, e, n1, n2, n3, a, b, c⟩ := q
      exact ⟨g, l, e, n1, n2, n3, kp _ _ a, kp _ _ b, kp _ _ c⟩
    | obj d =>
      obtain ⟨e, q⟩ := q
      obtain ⟨u, eu⟩ := Option.ne_none_iff_exists'.mp q.some
      exact ⟨e, q.mv (List.prefix_refl _) (fun a u e _ _ => kp a u e) av ((kp _ _ eu).trans eu.symm)⟩
    | dead => trivial
  · obtain ⟨u, eu⟩ := Option.ne_none_iff_exists'.mp (r.cdom a z)
    rw [kp a u eu]; exact fun z => nomatch z
theorem Step.alloc {p : Addr} {o : HO} (r : Rel B ρ st σ H) (hp : H p = none) : Step B σ ρ st H ρ st (upd H p o) where
  pre := List.prefix_refl _
  rel := r.alloc hp
  fr := fun a u e _ _ => by rw [upd_ne (ne_of_none e hp)]; exact e
  sub := fun _ _ z => z
  sl := fun _ _ b z => ⟨b, z⟩
  cm := fun _ z => .inl z
  dm := fun a z => by
    obtain ⟨u, eu⟩ := Option.ne_none_iff_exists'.mp z
    rw [upd_ne (ne_of_none eu hp), eu]; exact fun z => nomatch z
theorem Rel.av_dom (r : Rel B ρ st σ H) {a : Addr} (h : Av ρ B.O st σ a) : H a ≠ none := by
  rcases h with h | h | ⟨i, d, h1, h2⟩
  · exact r.odom a h
  · exact r.cdom a h
  · obtain ⟨p, e, c, _⟩ := r.own i d h1
    rw [h2] at e
    cases e
    exact c.some
theorem Rel.av_fresh (r : Rel B ρ st σ H) {p : Addr} (hp : H p = none) : ¬ Av ρ B.O st σ p := fun z => r.av_dom z hp
/-- a new list of things that are borne -/
theorem Rep.newLst {xs : List V} {ds : List DV} {p : Addr} (rel : Rel B ρ st σ H) (hp : H p = none) (r : RepL B.C ρ (Av ρ B.O st σ) H xs ds) : Rep B.C ρ (Av ρ B.O st σ) (upd H p (.lst xs)) (.ref p) (.lst ds) :=
  .lst (rel.av_fresh hp) upd_same (RepL.step (Step.alloc rel hp) r)
/-- a new list -/
theorem RepK.newLst {xs : List V} {ds : List DV} {p : Addr} (rel : Rel B ρ st σ H) (hp : H p = none) (r : RepL B.C ρ (Av ρ B.O st σ) H xs ds) : RepK B ρ st σ (upd H p (.lst xs)) .new (.ref p) (.lst ds) :=
  ⟨Rep.newLst rel hp r, fun q e _ => by cases e; exact ⟨xs, upd_same, r.mv (List.prefix_refl _) (fun a o e _ _ => by rw [upd_ne (ne_of_none e hp)]; exact e) fun a z => z.imp id fun z => by rw [z]; exact hp⟩⟩
theorem Rep.newTup {xs : List V} {ds : List DV} {p : Addr} (rel : Rel B ρ st σ H) (hp : H p = none) (r : RepL B.C ρ (Av ρ B.O st σ) H xs ds) : Rep B.C ρ (Av ρ B.O st σ) (upd H p (.tup xs)) (.ref p) (.tup ds) :=
  .tup (rel.av_fresh hp) upd_same (RepL.step (Step.alloc rel hp) r)
theorem RepK.newTup {xs : List V} {ds : List DV} {p : Addr} (rel : Rel B ρ st σ H) (hp : H p = none) (r : RepL B.C ρ (Av ρ B.O st σ) H xs ds) : RepK B ρ st σ (upd H p (.tup xs)) .new (.ref p) (.tup ds) :=
  ⟨Rep.newTup rel hp r, fun q e h => by cases h⟩
end

/-! ### to consume a result: what was a slot's own is shared from now on -/
def dropSl : List Slot → Nat → List Slot
  | [], _ => []
  | s :: r, 0 => (match s with | some (d, _) => some (d, false) | none => none) :: r
  | s :: r, i + 1 => s :: dropSl r i
theorem dropSl_len : ∀ (l : List Slot) (i : Nat), (dropSl l i).length = l.length
  | [], _ => rfl
  | _ :: _, 0 => rfl
  | s :: r, i + 1 => by show (dropSl r i).length + 1 = r.length + 1; rw [dropSl_len r i]
theorem dropSl_ne : ∀ (l : List Slot) (i j : Nat), j ≠ i → (dropSl l i)[j]? = l[j]?
  | [], _, _, _ => rfl
  | _ :: _, 0, 0, h => absurd rfl h
  | _ :: _, 0, j + 1, _ => rfl
  | _ :: _, i + 1, 0, _ => rfl
  | _ :: r, i + 1, j + 1, h => dropSl_ne r i j fun z => h (by rw [z])
theorem dropSl_at : ∀ (l : List Slot) (i : Nat) (d : DV) (b : Bool), (dropSl l i)[i]? = some (some (d, b)) → b = false ∧ ∃ c, l[i]? = some (some (d, c))
  | [], _, _, _, h => by cases h
  | none :: _, 0, _, _, h => by cases h
  | some (d', c) :: _, 0, d, b, h => by
    cases h
    exact ⟨rfl, c, rfl⟩
  | _ :: r, i + 1, d, b, h => dropSl_at r i d b h
def DS.drop (st : DS) (i : Nat) : DS := { st with sl := dropSl st.sl i }
section
variable {X : Cx} {B : BC} {W : WX} {σ : L2.St} {ρ ρ1 : List CellA} {st st1 : DS} {H H1 : Hp}
theorem drop_own {i j : Nat} {p : Addr} (h : ownAt (st.drop i) σ j p) : ownAt st σ j p ∧ j ≠ i := by
  obtain ⟨d, e, e2⟩ := h
  by_cases hj : j = i
  · subst hj
    have := (dropSl_at st.sl j d true e).1
    cases this
  · exact ⟨⟨d, by rw [← dropSl_ne st.sl i j hj]; exact e, e2⟩, hj⟩
theorem drop_av {i : Nat} {a : Addr} (h : Av ρ B.O (st.drop i) σ a) : Av ρ B.O st σ a := by
  rcases h with h | h | ⟨j, h⟩
  · exact .inl h
  · exact .inr (.inl h)
  · exact .inr (.inr ⟨j, (drop_own h).1⟩)
theorem Rel.drop (r : Rel B ρ st σ H) (i : Nat) : Rel B ρ (st.drop i) σ H := by
  have mv : ∀ a, Av ρ B.O (st.drop i) σ a → Av ρ B.O st σ a ∨ H a = none := fun a z => .inl (drop_av z)
  refine ⟨(dropSl_len _ _).trans r.len, fun j d h => ?_, fun j d h => ?_, fun j k p h1 h2 => r.dis j k p (drop_own h1).1 (drop_own h2).1, r.dom, r.odom, ⟨r.cel.len, fun k c x h1 h2 => ?_, r.cel.dis⟩, r.cdom, r.tabs⟩
  · by_cases hj : j = i
    · subst hj
      obtain ⟨_, c, e⟩ := dropSl_at st.sl j d false h
      cases c with
      | false =>
        obtain ⟨v, e1, q⟩ := r.fro j d e
        exact ⟨v, e1, q.mv (List.prefix_refl _) (fun _ _ e _ _ => e) mv⟩
      | true =>
        obtain ⟨p, e1, q, n1, n2, n3⟩ := r.own j d e
        refine ⟨.ref p, e1, q.rep (fun a z => drop_av z) fun z => ?_⟩
        rcases z with z | z | ⟨k, z⟩
        · exact n2 z
        · exact n1 z
        · obtain ⟨z1, z2⟩ := drop_own z
          exact z2 (r.dis k j p z1 ⟨d, e, e1⟩)
    · have h' : st.sl[j]? = some (some (d, false)) := by rw [← dropSl_ne st.sl i j hj]; exact h
      obtain ⟨v, e1, q⟩ := r.fro j d h'
      exact ⟨v, e1, q.mv (List.prefix_refl _) (fun _ _ e _ _ => e) mv⟩
  · by_cases hj : j = i
    · subst hj
      have := (dropSl_at st.sl j d true h).1
      cases this
    · have h' : st.sl[j]? = some (some (d, true)) := by rw [← dropSl_ne st.sl i j hj]; exact h
      obtain ⟨p, e1, q, n⟩ := r.own j d h'
      exact ⟨p, e1, q.mv (List.prefix_refl _) (fun _ _ e _ _ => e) mv rfl, n⟩
  · have q := r.cel.ok k c x h1 h2
    cases x with
    | draw d => exact q
    | obj d => exact ⟨q.1, q.2.mv (List.prefix_refl _) (fun _ _ e _ _ => e) mv rfl⟩
    | dead => trivial
theorem Step.drop (r : Rel B ρ st σ H) (i : Nat) : Step B σ ρ st H ρ (st.drop i) H where
  pre := List.prefix_refl _
  rel := r.drop i
  fr := fun _ _ e _ _ => e
  sub := fun _ _ z => (drop_own z).1
  sl := fun j d b z => by
    by_cases hj : j = i
    · subst hj
      exact (dropSl_at st.sl j d b z).2
    · exact ⟨b, by rw [← dropSl_ne st.sl i j hj]; exact z⟩
  cm := fun _ z => .inl z
  dm := fun _ z => z
/-- the state behind the consumption of a result -/
def DS.eat (st : DS) : Kd → DS
  | .view i => st.drop i
  | _ => st
theorem Step.eat (r : Rel B ρ st σ H) (kd : Kd) : Step B σ ρ st H ρ (st.eat kd) H := by
  cases kd with
  | view i => exact Step.drop r i
  | fro => exact .refl r
  | new => exact .refl r
theorem RepK.eat {kd : Kd} {v : V} {d : DV} (r : RepK B ρ st σ H kd v d) : Rep B.C ρ (Av ρ B.O (st.eat kd) σ) H v d := by
  cases kd with
  | view i =>
    obtain ⟨p, rfl, e, c, n1, n2, u, n3⟩ := r
    refine c.rep (fun a z => drop_av z) fun z => ?_
    rcases z with z | z | ⟨k, z⟩
    · exact n2 z
    · exact n1 z
    · obtain ⟨z1, z2⟩ := drop_own z
      exact z2 (u k z1)
  | fro => exact r
  | new => exact r.1
end
end D

/-! D: operators and comparisons on deep values. -/
namespace D
open PySem L2 PyProof.Rows

section
variable {B : BC} {σ : L2.St} {ρ : List CellA} {st : DS} {H : Hp} {kd : Kd} {v : V}
/-! ### what a result of a kind tells -/
theorem RepK.lst {ds : List DV} (r : RepK B ρ st σ H kd v (.lst ds)) : ∃ p xs, v = .ref p ∧ H p = some (.lst xs) ∧ RepL B.C ρ (Av ρ B.O st σ) H xs ds := by
  cases kd with
  | view i => obtain ⟨p, rfl, _, ⟨xs, e, q⟩, _⟩ := r; exact ⟨p, xs, rfl, e, q⟩
  | fro => cases (show Rep _ _ _ _ _ _ from r) with | lst n e q => exact ⟨_, _, rfl, e, q⟩
  | new => cases (show Rep _ _ _ _ _ _ from r.1) with | lst n e q => exact ⟨_, _, rfl, e, q⟩
theorem RepK.dct {ks : List Key} {ds : List DV} (r : RepK B ρ st σ H kd v (.dct ks ds)) : ∃ p xs, v = .ref p ∧ H p = some (.dK (ks.zip xs)) ∧ ks.length = xs.length ∧ RepL B.C ρ (Av ρ B.O st σ) H xs ds := by
  cases kd with
  | view i => obtain ⟨p, rfl, _, ⟨xs, e, l, q⟩, _⟩ := r; exact ⟨p, xs, rfl, e, l, q⟩
  | fro => cases (show Rep _ _ _ _ _ _ from r) with | dct n e l q => exact ⟨_, _, rfl, e, l, q⟩
  | new => cases (show Rep _ _ _ _ _ _ from r.1) with | dct n e l q => exact ⟨_, _, rfl, e, l, q⟩
theorem RepK.ins {c : Nat} {ns : List Str} {ds : List DV} (r : RepK B ρ st σ H kd v (.ins c ns ds)) : ∃ p dx xs, v = .ref p ∧ H p = some (.ins (B.C.cls c) dx (ns.zip xs)) ∧ ns.length = xs.length ∧ RepL B.C ρ (Av ρ B.O st σ) H xs ds := by
  cases kd with
  | view i => obtain ⟨p, rfl, _, ⟨dx, xs, e, l, q⟩, _⟩ := r; exact ⟨p, dx, xs, rfl, e, l, q⟩
  | fro => cases (show Rep _ _ _ _ _ _ from r) with | ins n e l q => exact ⟨_, _, _, rfl, e, l, q⟩
  | new => cases (show Rep _ _ _ _ _ _ from r.1) with | ins n e l q => exact ⟨_, _, _, rfl, e, l, q⟩
theorem Rep.sqt {C : RC} {A : Addr → Prop} {ds : List DV} (r : Rep C ρ A H v (.tup ds)) : ∃ p xs, v = .ref p ∧ SqT C.K H p xs ∧ RepL C ρ A H xs ds := by
  cases r with
  | tup n e q => exact ⟨_, _, rfl, .inl (.inl e), q⟩
  | ktup k q => exact ⟨_, _, rfl, .inr k, q⟩
theorem RepK.tup {ds : List DV} (r : RepK B ρ st σ H kd v (.tup ds)) : ∃ p xs, v = .ref p ∧ SqT B.C.K H p xs ∧ RepL B.C ρ (Av ρ B.O st σ) H xs ds := by
  cases kd with
  | view i => obtain ⟨p, rfl, _, c, _⟩ := r; cases c
  | fro => exact Rep.sqt r
  | new => exact Rep.sqt r.1
theorem RepK.flat {d : DV} (hf : D.flat d = true) (r : RepK B ρ st σ H kd v d) : v = flatV' d := by
  cases kd with
  | view i => obtain ⟨p, rfl, _, c, _⟩ := r; cases d <;> first | (exact absurd hf Bool.false_ne_true) | cases c
  | fro => exact Rep.flat_eq hf r
  | new => exact Rep.flat_eq hf r.1
theorem RepK.int {i : Int} (r : RepK B ρ st σ H kd v (.int i)) : v = .int i := RepK.flat rfl r
theorem RepK.bl {b : Bool} (r : RepK B ρ st σ H kd v (.bl b)) : v = .bl b := RepK.flat rfl r
theorem RepK.str {s : Str} (r : RepK B ρ st σ H kd v (.str s)) : v = .str s := RepK.flat rfl r
theorem RepK.non (r : RepK B ρ st σ H kd v .non) : v = .non := RepK.flat rfl r
/-- a flat answer -/
theorem RepK.mkF {d : DV} (hf : D.flat d = true) : RepK B ρ st σ H .new (flatV' d) d := ⟨Rep.flat hf, fun p e _ => by cases d <;> first | cases e | cases hf⟩
theorem fresh_flat {d : DV} (hf : D.flat d = true) : Fresh H .new (flatV' d) := fun p e => by
  cases d <;> first | cases e | cases hf
end

/-! ### deep values as data -/
mutual
def toP : DV → Option PyData
  | .non => some .none
  | .bl b => some (.bool b)
  | .int i => some (.int i)
  | .str s => some (.str s)
  | .lst ds => (toPs ds).map .list
  | .tup ds => (toPs ds).map .tuple
  | _ => none
def toPs : List DV → Option (List PyData)
  | [] => some []
  | d :: ds => match toP d, toPs ds with
    | some p, some ps => some (p :: ps)
    | _, _ => none
end
section
variable {C : RC} {ρ : List CellA} {A : Addr → Prop} {H : Hp}
mutual
theorem Rep.dp : ∀ {v : V} {d : DV} {p : PyData}, Rep C ρ A H v d → toP d = some p → Dp C.K H v p
  | _, _, _, .non, e => by cases e; exact .non
  | _, _, _, .bl b, e => by cases e; exact .bl b
  | _, _, _, .int i, e => by cases e; exact .int i
  | _, _, _, .str s, e => by cases e; exact .str s
  | _, _, _, .ty n, e => by cases e
  | _, _, _, .cls c, e => by cases e
  | _, _, p, .lst (ds := ds) n h r, e => by
    cases e2 : toPs ds with
    | none => simp [toP, e2] at e
    | some ps =>
      simp [toP, e2] at e
      subst e
      exact .lst (.inl (.inl h)) (RepL.dp r e2)
  | _, _, p, .tup (ds := ds) n h r, e => by
    cases e2 : toPs ds with
    | none => simp [toP, e2] at e
    | some ps =>
      simp [toP, e2] at e
      subst e
      exact .tup (.inl (.inl h)) (RepL.dp r e2)
  | _, _, p, .ktup (ds := ds) h r, e => by
    cases e2 : toPs ds with
    | none => simp [toP, e2] at e
    | some ps =>
      simp [toP, e2] at e
      subst e
      exact .tup (.inr h) (RepL.dp r e2)
  | _, _, _, .dct _ _ _ _, e => by cases e
  | _, _, _, .ins _ _ _ _, e => by cases e
  | _, _, _, .scr _ _, e => by cases e
  | _, _, _, .kscr _, e => by cases e
  | _, _, _, .cel _, e => by cases e
theorem RepL.dp : ∀ {vs : List V} {ds : List DV} {ps : List PyData}, RepL C ρ A H vs ds → toPs ds = some ps → DpAll C.K H vs ps
  | _, _, _, .nil, e => by cases e; exact .nil
  | _, _, ps, .cons (d := d) (ds := ds) r t, e => by
    cases e1 : toP d with
    | none => simp [toPs, e1] at e
    | some p =>
      cases e2 : toPs ds with
      | none => simp [toPs, e1, e2] at e
      | some qs =>
        simp [toPs, e1, e2] at e
        subst e
        exact .cons (Rep.dp r e1) (RepL.dp t e2)
end
end
theorem RepK.dp {B : BC} {σ : L2.St} {ρ : List CellA} {st : DS} {H : Hp} {kd : Kd} {v : V} {d : DV} {p : PyData} (r : RepK B ρ st σ H kd v d) (e : toP d = some p) : Dp B.C.K H v p := by
  cases kd with
  | view i =>
    obtain ⟨q, rfl, _, c, _⟩ := r
    cases d with
    | lst ds =>
      obtain ⟨xs, h, r⟩ := c
      cases e2 : toPs ds with
      | none => simp [toP, e2] at e
      | some ps =>
        simp [toP, e2] at e
        subst e
        exact .lst (.inl (.inl h)) (RepL.dp r e2)
    | dct => cases e
    | ins => cases e
    | _ => cases c
  | fro => exact Rep.dp r e
  | new => exact Rep.dp r.1 e

/-! ### two-place operations -/
abbrev Op2 := DV → DV → Option (DV × Kd)
/-- what a value-rule r asks is given by D's operation -/
def OpS (C : RC) (r : R2) (f : Op2) : Prop := ∀ (B : BC), B.C = C → ∀ (σ : L2.St) (ρ : List CellA) (st : DS) (H : Hp) (ka kb : Kd) (x y : V) (a b : DV) (c : DV × Kd) (Q : VK), Rel B ρ st σ H → RepK B ρ st σ H ka x a → RepK B ρ st σ H kb y b → f a b = some c →
  (∀ v H', Step B σ ρ st H ρ st H' → RepK B ρ st σ H' c.2 v c.1 → Fresh H c.2 v → Q v H') → r x y H Q
def evOp (f : Op2) (ea eb : Ev) : Ev := fun st => (ea st).bind fun a st1 => (eb st1).bind fun b st2 => match f a.1 b.1 with
  | some c => .ok c st2
  | none => .stuck
section
variable {X : Cx} {B : BC} {W : WX} {a b c : Expr} {fa fb fc : Ev} {pos : Pos} {r r' : R2} {f g : Op2}
theorem tOp_of (hs : OpS B.C r f) {σ : L2.St} {H : Hp} {Q : VK} (h : RD B W (evOp f fa fb) σ H Q) : tOp r (RD B W fa) (RD B W fb) σ H Q := by
  obtain ⟨ρ, st, rel, res⟩ := h
  refine RD.go rel (Res.bind res) fun a st1 ρ1 H1 s1 r1 x rx fx => ?_
  refine RD.go s1.rel (Res.bind r1) fun b st2 ρ2 H2 s2 r2 y ry fy => ?_
  cases e : f a.1 b.1 with
  | none => rw [e] at r2; exact r2.elim
  | some c =>
    rw [e] at r2
    exact hs B rfl σ ρ2 st2 H2 a.2 b.2 x y a.1 b.1 c Q s2.rel (RepK.step s2 rx) ry e fun v H' s3 rv fv => r2 _ _ s3 v rv ((fv.dm s2.dm).dm s1.dm)
theorem pd_bin {op : Operator} (ho : OpR X (binaryOp op) r) (hs : OpS B.C r f) (ha : PD X B W a fa) (hb : PD X B W b fb) : PD X B W (.BinOp a op b pos) (evOp f fa fb) :=
  PE.mono (pe_op ho ha hb) fun _ _ _ h => tOp_of hs h
theorem pd_cmp {op : CmpOp} (ho : OpR X (compareOp op) r) (hs : OpS B.C r f) (ha : PD X B W a fa) (hb : PD X B W b fb) (hm : behindInMarks op b = false) : PD X B W (.Compare a [op] [b] pos) (evOp f fa fb) :=
  PE.mono (pe_cmpR ho ha hb hm) fun _ _ _ h => tOp_of hs h
theorem OpS.or {r r' : R2} {C : RC} (h : OpS C r f) (h' : OpS C r' g) : OpS C (fun x y H Q => r x y H Q ∨ r' x y H Q) (fun a b => match f a b with | some c => some c | none => g a b) := by
  intro B hB σ ρ st H ka kb x y a b c Q rel rx ry e q
  cases e1 : f a b with
  | some c' =>
    simp only [e1] at e
    cases e
    exact .inl (h B hB σ ρ st H ka kb x y a b c Q rel rx ry e1 q)
  | none =>
    simp only [e1] at e
    exact .inr (h' B hB σ ρ st H ka kb x y a b c Q rel rx ry e q)
/-- a rule by D's own cases -/
theorem OpS.orB {r r' : R2} {C : RC} {f g k : Op2} (h : OpS C r f) (h' : OpS C r' g) (e : ∀ a b c, k a b = some c → f a b = some c ∨ g a b = some c) : OpS C (fun x y H Q => r x y H Q ∨ r' x y H Q) k := by
  intro B hB σ ρ st H ka kb x y a b c Q rel rx ry e1 q
  rcases e a b c e1 with e2 | e2
  · exact .inl (h B hB σ ρ st H ka kb x y a b c Q rel rx ry e2 q)
  · exact .inr (h' B hB σ ρ st H ka kb x y a b c Q rel rx ry e2 q)
end

/-- ints under a condition -/
def iOp (P : Int → Int → Bool) (g : Int → Int → Int) : Op2
  | .int i, .int j => if P i j then some (.int (g i j), .new) else none
  | _, _ => none
theorem ops_int0 {C : RC} {g : Int → Int → Int} : OpS C (rI0 fun i j => .int (g i j)) (iOp (fun _ _ => true) g) := by
  intro B hB σ ρ st H ka kb x y a b c Q rel rx ry e q
  cases a <;> try (cases e; done)
  cases b <;> try (cases e; done)
  rename_i i j
  cases e
  obtain rfl := rx.int
  obtain rfl := ry.int
  exact ⟨i, j, rfl, rfl, q _ _ (.refl rel) (RepK.mkF (d := .int (g i j)) rfl) (fresh_flat (d := .int (g i j)) rfl)⟩

/-! ### + -/
def catL : Op2
  | .lst xs, .lst ys => if xs.length + ys.length ≤ sizeLine then some (.lst (xs ++ ys), .new) else none
  | _, _ => none
theorem ops_catL {C : RC} : OpS C rCat catL := by
  intro B hB σ ρ st H ka kb x y a b c Q rel rx ry e q
  cases a <;> try (cases e; done)
  cases b <;> try (cases e; done)
  rename_i xs ys
  by_cases hp : xs.length + ys.length ≤ sizeLine
  · simp only [catL, hp, if_true] at e
    cases e
    obtain ⟨p, vs, rfl, e1, r1⟩ := rx.lst
    obtain ⟨p2, ws, rfl, e2, r2⟩ := ry.lst
    refine ⟨p, p2, vs, ws, rfl, rfl, e1, e2, by rw [r1.length, r2.length]; exact hp, fun n hn => ?_⟩
    exact q _ _ (Step.alloc rel hn) (RepK.newLst rel hn (r1.append r2)) fun m em => by cases em; exact hn
  · simp only [catL, hp, if_false] at e
    cases e
def catS : Op2
  | .str x, .str y => if x.length + y.length ≤ sizeLine then some (.str (x ++ y), .new) else none
  | _, _ => none
theorem ops_catS {C : RC} : OpS C (fun x y H Q => ∃ i j, x = .str i ∧ y = .str j ∧ i.length + j.length ≤ sizeLine ∧ Q (.str (i ++ j)) H) catS := by
  intro B hB σ ρ st H ka kb x y a b c Q rel rx ry e q
  cases a <;> try (cases e; done)
  cases b <;> try (cases e; done)
  rename_i i j
  by_cases hp : i.length + j.length ≤ sizeLine
  · simp only [catS, hp, if_true] at e
    cases e
    obtain rfl := rx.str
    obtain rfl := ry.str
    exact ⟨i, j, rfl, rfl, hp, q _ _ (.refl rel) (RepK.mkF (d := .str (i ++ j)) rfl) (fresh_flat (d := .str (i ++ j)) rfl)⟩
  · simp only [catS, hp, if_false] at e
    cases e
def catT : Op2
  | .tup xs, .tup ys => if xs.length + ys.length ≤ sizeLine then some (.tup (xs ++ ys), .fro) else none
  | _, _ => none
theorem Rep.ofSqt {C : RC} {ρ : List CellA} {A : Addr → Prop} {H : Hp} {v : V} {ds : List DV} {B : BC} {σ : L2.St} {st : DS} {kd : Kd} (r : RepK B ρ st σ H kd v (.tup ds)) : Rep B.C ρ (Av ρ B.O st σ) H v (.tup ds) := by
  cases kd with
  | view i => obtain ⟨p, rfl, _, c, _⟩ := r; cases c
  | fro => exact r
  | new => exact r.1
theorem ops_catT {C : RC} : OpS C (rCatA C.K) catT := by
  intro B hB σ ρ st H ka kb x y a b c Q rel rx ry e q
  subst hB
  cases a <;> try (cases e; done)
  cases b <;> try (cases e; done)
  rename_i xs ys
  by_cases hp : xs.length + ys.length ≤ sizeLine
  · simp only [catT, hp, if_true] at e
    cases e
    have wx := Rep.ofSqt (C := B.C) (A := Av ρ B.O st σ) rx
    have wy := Rep.ofSqt (C := B.C) (A := Av ρ B.O st σ) ry
    obtain ⟨p, vs, rfl, e1, r1⟩ := rx.tup
    obtain ⟨p2, ws, rfl, e2, r2⟩ := ry.tup
    refine ⟨p, p2, vs, ws, rfl, rfl, e1, e2, by rw [r1.length, r2.length]; exact hp, fun ex => ?_, fun nx ey => ?_, fun nx ny n hn => ?_⟩
    · subst ex
      have : xs = [] := List.eq_nil_of_length_eq_zero (by rw [← r1.length]; rfl)
      subst this
      exact q _ _ (.refl rel) wy trivial
    · subst ey
      have : ys = [] := List.eq_nil_of_length_eq_zero (by rw [← r2.length]; rfl)
      subst this
      rw [List.append_nil] at q
      exact q _ _ (.refl rel) wx trivial
    · exact q _ _ (Step.alloc rel hn) (Rep.newTup rel hn (r1.append r2)) trivial
  · simp only [catT, hp, if_false] at e
    cases e
def dAdd : Op2
  | .int i, .int j => some (.int (i + j), .new)
  | .lst xs, .lst ys => if xs.length + ys.length ≤ sizeLine then some (.lst (xs ++ ys), .new) else none
  | .str x, .str y => if x.length + y.length ≤ sizeLine then some (.str (x ++ y), .new) else none
  | .tup xs, .tup ys => if xs.length + ys.length ≤ sizeLine then some (.tup (xs ++ ys), .fro) else none
  | .int i, .bl k => some (.int (i + b2i k), .new)
  | _, _ => none
def rAddIB : R2 := fun x y H Q => ∃ i k, x = .int i ∧ y = .bl k ∧ Q (.int (i + b2i k)) H
def addIB : Op2
  | .int i, .bl k => some (.int (i + b2i k), .new)
  | _, _ => none
theorem ops_addIB {C : RC} : OpS C rAddIB addIB := by
  intro B hB σ ρ st H ka kb x y a b c Q rel rx ry e q
  cases a <;> try (cases e; done)
  cases b <;> try (cases e; done)
  rename_i i k
  cases e
  obtain rfl := rx.int
  obtain rfl := ry.bl
  exact ⟨i, k, rfl, rfl, q _ _ (.refl rel) (RepK.mkF (d := .int (i + b2i k)) rfl) (fresh_flat (d := .int (i + b2i k)) rfl)⟩
def rAddAll (K : PySem.W.Frag) : R2 := fun x y H Q => (rI0 fun i j => .int (i + j)) x y H Q ∨ (rCat x y H Q ∨ ((∃ i j, x = .str i ∧ y = .str j ∧ i.length + j.length ≤ sizeLine ∧ Q (.str (i ++ j)) H) ∨ (rCatA K x y H Q ∨ rAddIB x y H Q)))
theorem opr_add {X : Cx} : OpR X (binaryOp .Add) (rAddAll X.K) := OpR.or op_add (OpR.or op_cat (OpR.or op_add_str (OpR.or op_catA op_add_ib)))
theorem ops_add {C : RC} : OpS C (rAddAll C.K) dAdd := by
  refine OpS.orB ops_int0 (OpS.orB ops_catL (OpS.orB ops_catS (OpS.orB ops_catT ops_addIB (k := fun a b => match catT a b with | some c => some c | none => addIB a b) ?_) (k := fun a b => match catS a b with | some c => some c | none => match catT a b with | some c => some c | none => addIB a b) ?_)
    (k := fun a b => match catL a b with | some c => some c | none => match catS a b with | some c => some c | none => match catT a b with | some c => some c | none => addIB a b) ?_) ?_
  · intro a b c e
    split at e
    · rename_i h; rw [← e]; exact .inl h
    · exact .inr e
  · intro a b c e
    split at e
    · rename_i h; rw [← e]; exact .inl h
    · exact .inr e
  · intro a b c e
    split at e
    · rename_i h; rw [← e]; exact .inl h
    · exact .inr e
  · intro a b c e
    unfold dAdd at e
    split at e
    · exact .inl e
    all_goals first
      | (cases e; done)
      | (refine .inr ?_; simp only [catL, catS, catT, addIB]; exact e)
      | (refine .inr ?_; simp only [catL, catS, catT, addIB]; split at e <;> first | (cases e; rename_i h; simp [h]; done) | (cases e; done))
end D

/-! D: the other operators, comparisons, in, is. -/
namespace D
open PySem L2 PyProof.Rows

/-- an answer that is flat and leaves all as it is -/
theorem ansF {B : BC} {σ : L2.St} {ρ : List CellA} {st : DS} {H : Hp} {Q : VK} {d : DV} (hf : flat d = true) (rel : Rel B ρ st σ H)
    (q : ∀ v H', Step B σ ρ st H ρ st H' → RepK B ρ st σ H' .new v d → Fresh H .new v → Q v H') : Q (flatV' d) H := q _ _ (.refl rel) (RepK.mkF hf) (fresh_flat hf)

/-! ### - * // % ** << >> & | ^ -/
def dSub : Op2 | .int i, .int j => some (.int (i - j), .new) | _, _ => none
theorem ops_sub {C : RC} : OpS C (rI0 fun i j => .int (i - j)) dSub := by
  intro B hB σ ρ st H ka kb x y a b c Q rel rx ry e q
  cases a <;> try (cases e; done)
  cases b <;> try (cases e; done)
  rename_i i j
  cases e
  obtain rfl := rx.int
  obtain rfl := ry.int
  exact ⟨i, j, rfl, rfl, ansF (d := .int (i - j)) rfl rel q⟩
def fits64 (i : Int) : Bool := decide (-(2 ^ 64) < i) && decide (i < 2 ^ 64)
theorem fits64_of {i : Int} (h : fits64 i = true) : -(2 ^ 64) < i ∧ i < 2 ^ 64 := by
  unfold fits64 at h
  rw [Bool.and_eq_true, decide_eq_true_iff, decide_eq_true_iff] at h
  exact h
/-! a text so many times -/
section
open SX PySem.Builtin PySem.Builtin.Str
def repS (s : Str) (n : Nat) : Str := ⟨(List.replicate n s.cps.toList).flatten.toArray⟩
theorem repS_fold (x : Str) : ∀ n : Nat, ∀ acc : Array Nat, (List.replicate n x.cps).foldl (· ++ ·) acc = acc ++ (List.replicate n x.cps.toList).flatten.toArray
  | 0, acc => by simp
  | n + 1, acc => by
    rw [List.replicate_succ, List.foldl_cons, repS_fold x n, List.replicate_succ, List.flatten_cons]
    apply Array.toList_inj.mp
    simp [Array.toList_append]
theorem repS_eq (x : Str) (n : Nat) : repS x n = ⟨(List.replicate n x.cps).foldl (· ++ ·) #[]⟩ := by
  rw [repS_fold]
  unfold repS
  congr 1
  simp
theorem repS_len (x : Str) (n : Nat) : (repS x n).length = n * x.length := by
  show (List.toArray _).size = n * x.cps.size
  rw [List.size_toArray, List.length_flatten, List.map_replicate, List.sum_replicate_nat]
  simp
def rMulS : R2 := fun x y H Q => ∃ s k, x = .str s ∧ y = .int k ∧ 0 ≤ k ∧ k ≤ 4096 ∧ s.length ≤ 1000 ∧ Q (.str (repS s k.toNat)) H
theorem op_mulS {X : Cx} : OpR X (binaryOp .Mult) rMulS := by
  intro pins s σ H x y v u Q I rx ry h
  obtain ⟨a, k, rfl, rfl, h0, h1, hz, q⟩ := h
  obtain ⟨t, rfl⟩ := rx
  obtain ⟨t', rfl⟩ := ry
  have hk : a.length * k.toNat ≤ 1000 * 4096 := Nat.mul_le_mul hz (by omega)
  refine P.mul_str (by simp; omega) (fun h2 h3 => ?_) (fun h2 h3 => ?_) ?_
  · have hk' : (a.length : Int) * k ≤ 2 ^ 63 - 1 := by
      have : ((a.length * k.toNat : Nat) : Int) = (a.length : Int) * k := by
        rw [Int.natCast_mul, Int.toNat_of_nonneg h0]
      omega
    have := (Int.le_ediv_iff_mul_le (show 0 < k by omega)).mpr hk'
    omega
  · unfold tooLong
    have : sizeLine = 16777216 := rfl
    exact decide_eq_false (by omega)
  · have sl : sizeLine = 16777216 := rfl
    split
    · have : k = 0 := by omega
      subst this
      exact ⟨Nat.zero_le _, .str (repS a (Int.toNat 0)), H, I.tok _, ⟨_, rfl⟩, q⟩
    · split
      · rename_i h3
        have e : repS a k.toNat = a := by
          rw [Bool.or_eq_true, beq_iff_eq, beq_iff_eq] at h3
          rcases h3 with rfl | h3
          · show Str.mk _ = _
            simp
          · have : a.cps = #[] := Array.size_eq_zero_iff.mp h3
            have e2 : a = ⟨#[]⟩ := by rw [← this]
            rw [e2]
            show Str.mk _ = _
            simp
        rw [e] at q
        exact ⟨.str a, H, I, ⟨_, rfl⟩, q⟩
      · rw [repS_eq] at q
        refine ⟨?_, .str _, H, I.tok _, ⟨_, rfl⟩, q⟩
        rw [← repS_eq, repS_len, Nat.mul_comm]
        omega
end
def dMul : Op2
  | .int i, .int j => if fits64 i || fits64 j then some (.int (i * j), .new) else none
  | .lst xs, .int k => if -(2 ^ 63) ≤ k ∧ k < 2 ^ 63 ∧ xs.length * k.toNat ≤ sizeLine then some (.lst (List.replicate k.toNat xs).flatten, .new) else none
  | .str s, .int k => if 0 ≤ k ∧ k ≤ 4096 ∧ s.length ≤ 1000 then some (.str (repS s k.toNat), .new) else none
  | _, _ => none
theorem RepL.rep {C : RC} {ρ : List CellA} {A : Addr → Prop} {H : Hp} {vs : List V} {ds : List DV} (r : RepL C ρ A H vs ds) : ∀ n : Nat, RepL C ρ A H (List.replicate n vs).flatten (List.replicate n ds).flatten
  | 0 => .nil
  | n + 1 => by
    rw [List.replicate_succ, List.replicate_succ, List.flatten_cons, List.flatten_cons]
    exact r.append (RepL.rep r n)
theorem ops_mul {C : RC} : OpS C (fun x y H Q => (rI CMul (fun i j => .int (i * j)) x y H Q ∨ rRep x y H Q) ∨ rMulS x y H Q) dMul := by
  intro B hB σ ρ st H ka kb x y a b c Q rel rx ry e q
  cases a <;> try (cases e; done)
  · rename_i i
    cases b <;> try (cases e; done)
    rename_i j
    simp only [dMul] at e
    split at e
    · rename_i h
      cases e
      obtain rfl := rx.int
      obtain rfl := ry.int
      refine .inl (.inl ⟨i, j, rfl, rfl, ?_, ansF (d := .int (i * j)) rfl rel q⟩)
      rw [Bool.or_eq_true] at h
      exact h.imp fits64_of fits64_of
    · cases e
  · rename_i z
    cases b <;> try (cases e; done)
    rename_i k
    simp only [dMul] at e
    split at e
    · rename_i h
      cases e
      obtain rfl := rx.str
      obtain rfl := ry.int
      exact .inr ⟨z, k, rfl, rfl, h.1, h.2.1, h.2.2, ansF (d := .str (repS z k.toNat)) rfl rel q⟩
    · cases e
  · rename_i ds
    cases b <;> try (cases e; done)
    rename_i k
    simp only [dMul] at e
    split at e
    · rename_i h
      cases e
      obtain ⟨p, vs, rfl, e1, r1⟩ := rx.lst
      obtain rfl := ry.int
      refine .inl (.inr ⟨p, k, vs, rfl, rfl, e1, h.1, h.2.1, by rw [r1.length]; exact h.2.2, fun n hn => ?_⟩)
      exact q _ _ (Step.alloc rel hn) (RepK.newLst rel hn (r1.rep _)) fun m em => by cases em; exact hn
    · cases e
def dDiv : Op2 | .int i, .int j => if 0 < j ∧ j < 2 ^ 64 then some (.int (i / j), .new) else none | _, _ => none
theorem ops_div {C : RC} : OpS C (rI CDivW fun i j => .int (i / j)) dDiv := by
  intro B hB σ ρ st H ka kb x y a b c Q rel rx ry e q
  cases a <;> try (cases e; done)
  cases b <;> try (cases e; done)
  rename_i i j
  simp only [dDiv] at e
  split at e
  · rename_i h
    cases e
    obtain rfl := rx.int
    obtain rfl := ry.int
    refine ⟨i, j, rfl, rfl, ⟨h.1, ?_⟩, ansF (d := .int (i / j)) rfl rel q⟩
    have h0 : j.natAbs ≠ 0 := by omega
    have h1 : j.natAbs < 2 ^ 64 := by omega
    exact Nat.lt_trans ((Nat.log2_lt h0).mpr h1) (by decide)
  · cases e
def dMod : Op2 | .int i, .int j => if 0 < j then some (.int (i % j), .new) else none | _, _ => none
theorem ops_mod {C : RC} : OpS C (rI (fun _ j => 0 < j) fun i j => .int (i % j)) dMod := by
  intro B hB σ ρ st H ka kb x y a b c Q rel rx ry e q
  cases a <;> try (cases e; done)
  cases b <;> try (cases e; done)
  rename_i i j
  simp only [dMod] at e
  split at e
  · rename_i h
    cases e
    obtain rfl := rx.int
    obtain rfl := ry.int
    exact ⟨i, j, rfl, rfl, h, ansF (d := .int (i % j)) rfl rel q⟩
  · cases e
def powOk (i j : Int) : Bool := decide (0 ≤ j) && decide (j ≤ 1000000) && decide (i.natAbs < 2 ^ 64)
theorem powOk_of {i j : Int} (h : powOk i j = true) : CPow i j := by
  unfold powOk at h
  rw [Bool.and_eq_true, Bool.and_eq_true, decide_eq_true_iff, decide_eq_true_iff, decide_eq_true_iff] at h
  exact ⟨h.1.1, h.1.2, h.2⟩
def dPow : Op2 | .int i, .int j => if powOk i j then some (.int (i ^ j.toNat), .new) else none | _, _ => none
theorem ops_pow {C : RC} : OpS C (rI CPow fun i j => .int (i ^ j.toNat)) dPow := by
  intro B hB σ ρ st H ka kb x y a b c Q rel rx ry e q
  cases a <;> try (cases e; done)
  cases b <;> try (cases e; done)
  rename_i i j
  simp only [dPow] at e
  split at e
  · rename_i h
    cases e
    obtain rfl := rx.int
    obtain rfl := ry.int
    exact ⟨i, j, rfl, rfl, powOk_of h, ansF (d := .int (i ^ j.toNat)) rfl rel q⟩
  · cases e
def dShl : Op2 | .int i, .int j => if powOk i j then some (.int (i * 2 ^ j.toNat), .new) else none | _, _ => none
theorem ops_shl {C : RC} : OpS C (rI CPow fun i j => .int (i * 2 ^ j.toNat)) dShl := by
  intro B hB σ ρ st H ka kb x y a b c Q rel rx ry e q
  cases a <;> try (cases e; done)
  cases b <;> try (cases e; done)
  rename_i i j
  simp only [dShl] at e
  split at e
  · rename_i h
    cases e
    obtain rfl := rx.int
    obtain rfl := ry.int
    exact ⟨i, j, rfl, rfl, powOk_of h, ansF (d := .int (i * 2 ^ j.toNat)) rfl rel q⟩
  · cases e
def dShr : Op2 | .int i, .int j => if 0 ≤ j then some (.int (i / 2 ^ j.toNat), .new) else none | _, _ => none
theorem ops_shr {C : RC} : OpS C (rI (fun _ j => 0 ≤ j) fun i j => .int (i / 2 ^ j.toNat)) dShr := by
  intro B hB σ ρ st H ka kb x y a b c Q rel rx ry e q
  cases a <;> try (cases e; done)
  cases b <;> try (cases e; done)
  rename_i i j
  simp only [dShr] at e
  split at e
  · rename_i h
    cases e
    obtain rfl := rx.int
    obtain rfl := ry.int
    exact ⟨i, j, rfl, rfl, h, ansF (d := .int (i / 2 ^ j.toNat)) rfl rel q⟩
  · cases e
def dBit (g : Int → Int → Int) : Op2 | .int i, .int j => some (.int (g i j), .new) | _, _ => none
theorem ops_bit {C : RC} {g : Int → Int → Int} : OpS C (rI0 fun i j => .int (g i j)) (dBit g) := by
  intro B hB σ ρ st H ka kb x y a b c Q rel rx ry e q
  cases a <;> try (cases e; done)
  cases b <;> try (cases e; done)
  rename_i i j
  cases e
  obtain rfl := rx.int
  obtain rfl := ry.int
  exact ⟨i, j, rfl, rfl, ansF (d := .int (g i j)) rfl rel q⟩
abbrev dAnd := dBit Builtin.bitAnd
abbrev dOr := dBit Builtin.bitOr
abbrev dXor := dBit Builtin.bitXor
def dBin : Operator → Op2
  | .Add => dAdd | .Sub => dSub | .Mult => dMul | .FloorDiv => dDiv | .Mod => dMod | .Pow => dPow | .LShift => dShl | .RShift => dShr
  | .BitAnd => dAnd | .BitOr => dOr | .BitXor => dXor | _ => fun _ _ => none
theorem op_bin {X : Cx} {B : BC} (hC : B.C.K = X.K) : ∀ op : Operator, ∃ r, OpR X (binaryOp op) r ∧ OpS B.C r (dBin op)
  | .Add => ⟨rAddAll X.K, opr_add, by rw [← hC]; exact ops_add⟩
  | .Sub => ⟨_, op_sub, ops_sub⟩
  | .Mult => ⟨_, OpR.or (OpR.or op_mul op_rep) op_mulS, ops_mul⟩
  | .FloorDiv => ⟨_, op_fdivW, ops_div⟩
  | .Mod => ⟨_, op_mod, ops_mod⟩
  | .Pow => ⟨_, op_pow, ops_pow⟩
  | .LShift => ⟨_, op_shl, ops_shl⟩
  | .RShift => ⟨_, op_shr, ops_shr⟩
  | .BitAnd => ⟨_, op_and, ops_bit⟩
  | .BitOr => ⟨_, op_or, ops_bit⟩
  | .BitXor => ⟨_, op_xor, ops_bit⟩
  | .MatMult => ⟨fun _ _ _ _ => False, fun _ _ _ _ _ _ _ _ _ _ _ _ h => h.elim, fun _ _ _ _ _ _ _ _ _ _ _ _ _ _ _ _ _ e _ => nomatch e⟩
  | .Div => ⟨fun _ _ _ _ => False, fun _ _ _ _ _ _ _ _ _ _ _ _ h => h.elim, fun _ _ _ _ _ _ _ _ _ _ _ _ _ _ _ _ _ e _ => nomatch e⟩

/-! ### == != -/
def dEqv (a b : DV) : Option Bool := match toP a, toP b with
  | some p, some q => if SeqAt.shaped p && SeqAt.shaped q then some (PyData.eqv p q) else none
  | _, _ => none
def eqD : DV → DV → Option Bool
  | .int i, .int j => some (decide (i = j))
  | .str x, .str y => some (decide (x = y))
  | .bl x, .bl y => some (decide (x = y))
  | .non, .non => some true
  | .non, .int _ => some false
  | .int _, .non => some false
  | .non, .str _ => some false
  | .str _, .non => some false
  | a, b => dEqv a b
def dEq : Op2 := fun a b => (eqD a b).map fun k => (.bl k, .new)
def dNe : Op2 := fun a b => (eqD a b).map fun k => (.bl (!k), .new)
theorem eqD_cases {a b : DV} {k : Bool} (h : eqD a b = some k) : (flat a = true ∧ flat b = true ∧ scal (flatV' a) (flatV' b) = true ∧ decide (flatV' a = flatV' b) = k) ∨ dEqv a b = some k := by
  unfold eqD at h
  split at h
  all_goals first
    | exact .inr h
    | (refine .inl ⟨rfl, rfl, rfl, ?_⟩; cases h; first | rfl | (rw [decide_eq_decide]; exact ⟨fun e => by injection e, fun e => by rw [e]⟩) | (exact decide_eq_false fun z => nomatch z) | exact decide_eq_true rfl)
theorem dEqv_of {B : BC} {σ : L2.St} {ρ : List CellA} {st : DS} {H : Hp} {ka kb : Kd} {x y : V} {a b : DV} {k : Bool} (h : dEqv a b = some k) (rx : RepK B ρ st σ H ka x a) (ry : RepK B ρ st σ H kb y b) :
    ∃ d e, Dp B.C.K H x d ∧ Dp B.C.K H y e ∧ SeqAt.shaped d = true ∧ SeqAt.shaped e = true ∧ PyData.eqv d e = k := by
  unfold dEqv at h
  split at h
  · rename_i p q h1 h2
    split at h
    · rename_i hs
      rw [Bool.and_eq_true] at hs
      cases h
      exact ⟨p, q, rx.dp h1, ry.dp h2, hs.1, hs.2, rfl⟩
    · cases h
  · cases h
theorem ops_eq {C : RC} : OpS C (fun x y H Q => rEq x y H Q ∨ rEqD C.K x y H Q) dEq := by
  intro B hB σ ρ st H ka kb x y a b c Q rel rx ry e q
  subst hB
  unfold dEq at e
  cases h : eqD a b with
  | none => rw [h] at e; cases e
  | some k =>
    rw [h] at e
    cases e
    rcases eqD_cases h with ⟨f1, f2, s, e⟩ | h
    · obtain rfl := rx.flat f1
      obtain rfl := ry.flat f2
      exact .inl ⟨s, by rw [e]; exact ansF (d := .bl k) rfl rel q⟩
    · obtain ⟨d, e, h1, h2, h3, h4, h5⟩ := dEqv_of h rx ry
      exact .inr ⟨d, e, h1, h2, h3, h4, by rw [h5]; exact ansF (d := .bl k) rfl rel q⟩
theorem ops_ne {C : RC} : OpS C (fun x y H Q => rNe x y H Q ∨ rNeD C.K x y H Q) dNe := by
  intro B hB σ ρ st H ka kb x y a b c Q rel rx ry e q
  subst hB
  unfold dNe at e
  cases h : eqD a b with
  | none => rw [h] at e; cases e
  | some k =>
    rw [h] at e
    cases e
    rcases eqD_cases h with ⟨f1, f2, s, e⟩ | h
    · obtain rfl := rx.flat f1
      obtain rfl := ry.flat f2
      exact .inl ⟨s, by rw [e]; exact ansF (d := .bl (!k)) rfl rel q⟩
    · obtain ⟨d, e, h1, h2, h3, h4, h5⟩ := dEqv_of h rx ry
      exact .inr ⟨d, e, h1, h2, h3, h4, by rw [h5]; exact ansF (d := .bl (!k)) rfl rel q⟩

/-! ### < <= > >= -/
def dLt : Op2 | .int i, .int j => some (.bl (decide (i < j)), .new) | _, _ => none
def dLe : Op2 | .int i, .int j => some (.bl (decide (i ≤ j)), .new) | _, _ => none
def dGt : Op2 | .int i, .int j => some (.bl (decide (j < i)), .new) | _, _ => none
def dGe : Op2 | .int i, .int j => some (.bl (decide (j ≤ i)), .new) | _, _ => none
theorem ops_rel {C : RC} {g : Int → Int → Bool} {f : Op2} (hf : ∀ a b c, f a b = some c → ∃ i j, a = .int i ∧ b = .int j ∧ c = (.bl (g i j), .new)) : OpS C (rI0 fun i j => .bl (g i j)) f := by
  intro B hB σ ρ st H ka kb x y a b c Q rel rx ry e q
  obtain ⟨i, j, rfl, rfl, rfl⟩ := hf a b c e
  obtain rfl := rx.int
  obtain rfl := ry.int
  exact ⟨i, j, rfl, rfl, ansF (d := .bl (g i j)) rfl rel q⟩
theorem ints_inv {f : Int → Int → DV × Kd} {a b : DV} {c : DV × Kd} (e : (match a, b with | .int i, .int j => some (f i j) | _, _ => none) = some c) : ∃ i j, a = .int i ∧ b = .int j ∧ c = f i j := by
  split at e
  · cases e
    exact ⟨_, _, rfl, rfl, rfl⟩
  · cases e
theorem ops_lt {C : RC} : OpS C (rI0 fun i j => .bl (decide (i < j))) dLt := ops_rel fun _ _ _ e => ints_inv (f := fun i j => (.bl (decide (i < j)), .new)) e
theorem ops_le {C : RC} : OpS C (rI0 fun i j => .bl (decide (i ≤ j))) dLe := ops_rel fun _ _ _ e => ints_inv (f := fun i j => (.bl (decide (i ≤ j)), .new)) e
theorem ops_gt {C : RC} : OpS C (rI0 fun i j => .bl (decide (j < i))) dGt := ops_rel fun _ _ _ e => ints_inv (f := fun i j => (.bl (decide (j < i)), .new)) e
theorem ops_ge {C : RC} : OpS C (rI0 fun i j => .bl (decide (j ≤ i))) dGe := ops_rel fun _ _ _ e => ints_inv (f := fun i j => (.bl (decide (j ≤ i)), .new)) e

/-! ### is, is not (None, bools) -/
def isD : DV → DV → Option Bool
  | .non, .non => some true
  | _, .non => some false
  | .bl a, .bl b => some (decide (a = b))
  | _, _ => none
def dIs : Op2 := fun a b => (isD a b).map fun k => (.bl k, .new)
def dIsNot : Op2 := fun a b => (isD a b).map fun k => (.bl (!k), .new)
theorem RepK.non_iff {B : BC} {σ : L2.St} {ρ : List CellA} {st : DS} {H : Hp} {kd : Kd} {v : V} {d : DV} (r : RepK B ρ st σ H kd v d) (h : d ≠ .non) : v ≠ .non := by
  intro e
  subst e
  cases kd with
  | view i => obtain ⟨p, e, _⟩ := r; cases e
  | fro => cases (show Rep _ _ _ _ _ _ from r); exact h rfl
  | new => cases (show Rep _ _ _ _ _ _ from r.1); exact h rfl
theorem isD_cases {a b : DV} {k : Bool} (h : isD a b = some k) : (b = .non ∧ ((a = .non ∧ k = true) ∨ (a ≠ .non ∧ k = false))) ∨ ∃ x y, a = .bl x ∧ b = .bl y ∧ k = decide (x = y) := by
  unfold isD at h
  split at h
  · cases h
    exact .inl ⟨rfl, .inl ⟨rfl, rfl⟩⟩
  · rename_i h1
    cases h
    exact .inl ⟨rfl, .inr ⟨h1, rfl⟩⟩
  · cases h
    exact .inr ⟨_, _, rfl, rfl, rfl⟩
  · cases h
theorem ops_is {C : RC} : OpS C (fun x y H Q => (y = .non ∧ Q (.bl (decide (x = .non))) H) ∨ rIsB x y H Q) dIs := by
  intro B hB σ ρ st H ka kb x y a b c Q rel rx ry e q
  unfold dIs at e
  cases h : isD a b with
  | none => rw [h] at e; cases e
  | some k =>
    rw [h] at e
    cases e
    have hc := isD_cases h
    clear h
    rcases hc with ⟨rfl, h⟩ | ⟨i, j, rfl, rfl, rfl⟩
    · obtain rfl := ry.non
      refine .inl ⟨rfl, ?_⟩
      rcases h with ⟨rfl, rfl⟩ | ⟨h, rfl⟩
      · obtain rfl := rx.non
        rw [decide_eq_true rfl]
        exact ansF (d := .bl true) rfl rel q
      · rw [decide_eq_false (rx.non_iff h)]
        exact ansF (d := .bl false) rfl rel q
    · obtain rfl := rx.bl
      obtain rfl := ry.bl
      exact .inr ⟨i, j, rfl, rfl, ansF (d := .bl (decide (i = j))) rfl rel q⟩
theorem ops_isNot {C : RC} : OpS C (fun x y H Q => (y = .non ∧ Q (.bl (!decide (x = .non))) H) ∨ rNotB x y H Q) dIsNot := by
  intro B hB σ ρ st H ka kb x y a b c Q rel rx ry e q
  unfold dIsNot at e
  cases h : isD a b with
  | none => rw [h] at e; cases e
  | some k =>
    rw [h] at e
    cases e
    have hc := isD_cases h
    clear h
    rcases hc with ⟨rfl, h⟩ | ⟨i, j, rfl, rfl, rfl⟩
    · obtain rfl := ry.non
      refine .inl ⟨rfl, ?_⟩
      rcases h with ⟨rfl, rfl⟩ | ⟨h, rfl⟩
      · obtain rfl := rx.non
        rw [decide_eq_true rfl]
        exact ansF (d := .bl false) rfl rel q
      · rw [decide_eq_false (rx.non_iff h)]
        exact ansF (d := .bl true) rfl rel q
    · obtain rfl := rx.bl
      obtain rfl := ry.bl
      exact .inr ⟨i, j, rfl, rfl, ansF (d := .bl (!decide (i = j))) rfl rel q⟩

/-! ### in, not in -/
def flat4 : DV → Bool
  | .non => true | .bl _ => true | .int _ => true | .str _ => true | _ => false
theorem flat_of4 {d : DV} (h : flat4 d = true) : flat d = true := by cases d <;> first | rfl | cases h
theorem flatV_of4 {d : DV} (h : flat4 d = true) : flatV (flatV' d) = true := by cases d <;> first | rfl | cases h
/-- == of flat values -/
def eqF : DV → DV → Bool
  | .non, .non => true
  | .bl a, .bl b => a == b
  | .bl a, .int b => (if a then 1 else 0) == b
  | .int a, .bl b => a == (if b then 1 else 0)
  | .int a, .int b => a == b
  | .str a, .str b => a == b
  | _, _ => false
theorem eqF_V {a b : DV} (ha : flat4 a = true) (hb : flat4 b = true) : eqV (flatV' a) (flatV' b) = eqF a b := by
  cases a <;> cases b <;> first | rfl | (cases ha; done) | (cases hb; done)
theorem RepL.flat {C : RC} {ρ : List CellA} {A : Addr → Prop} {H : Hp} : ∀ {vs : List V} {ds : List DV}, RepL C ρ A H vs ds → ds.all flat4 = true → vs = ds.map flatV'
  | _, _, .nil, _ => rfl
  | _, _, .cons r t, h => by
    rw [List.all_cons, Bool.and_eq_true] at h
    rw [List.map_cons, Rep.flat_eq (flat_of4 h.1) r, RepL.flat t h.2]
theorem all_flatV : ∀ {ds : List DV}, ds.all flat4 = true → (ds.map flatV').all flatV = true
  | [], _ => rfl
  | d :: ds, h => by
    rw [List.all_cons, Bool.and_eq_true] at h
    rw [List.map_cons, List.all_cons, flatV_of4 h.1, all_flatV h.2]
    rfl
theorem inV_F {a : DV} (ha : flat4 a = true) : ∀ {ds : List DV}, ds.all flat4 = true → inV (flatV' a) (ds.map flatV') = ds.any fun d => eqF d a
  | [], _ => rfl
  | d :: ds, h => by
    rw [List.all_cons, Bool.and_eq_true] at h
    have ih := inV_F ha h.2
    unfold inV at ih ⊢
    rw [List.map_cons, List.any_cons, List.any_cons, ih, eqF_V h.1 ha]
def keyD : DV → Option Key
  | .int i => some (.inl i)
  | .str s => some (.inr s)
  | _ => none
theorem keyD_V {d : DV} {k : Key} (h : keyD d = some k) : flat d = true ∧ flatV' d = kV k := by
  cases d <;> first | (cases h; done) | (cases h; exact ⟨rfl, rfl⟩)
def inD : DV → DV → Option Bool
  | .str i, .str j => some (!(Builtin.Str.occurrences j i 0 j.length 1).isEmpty)
  | a, .lst ds => if flat4 a && ds.all flat4 then some (ds.any fun d => eqF d a) else
      match toP a, toPs ds with
      | some p, some ps => if SeqAt.shaped p && SeqAt.shaped (.list ps) then some (ps.any fun z => PyData.eqv z p) else none
      | _, _ => none
  | a, .tup ds => if flat4 a && ds.all flat4 then some (ds.any fun d => eqF d a) else none
  | a, .dct ks _ => (keyD a).map fun k => ks.any fun j => decide (j = k)
  | _, _ => none
def dIn : Op2 := fun a b => (inD a b).map fun k => (.bl k, .new)
def dNotIn : Op2 := fun a b => (inD a b).map fun k => (.bl (!k), .new)
/-- y in d, d a dict -/
def rInDct (neg : Bool) : R2 := fun y x H Q => ∃ a o, x = .ref a ∧ DGet H a y o ∧ Q (.bl (if neg then !o.isSome else o.isSome)) H
theorem op_inDct {X : Cx} (hu : X.A.units + 1 < cLine) : OpR X (compareOp .In) (rInDct false) := by
  intro pins s σ H y x u v Q I ry rx h
  obtain ⟨a, o, rfl, g, q⟩ := h
  cases rx
  exact d_in hu I g ry fun s' I' => ⟨.bl _, H, I', rfl, q⟩
theorem op_notInDct {X : Cx} (hu : X.A.units + 1 < cLine) : OpR X (compareOp .NotIn) (rInDct true) := by
  intro pins s σ H y x u v Q I ry rx h
  obtain ⟨a, o, rfl, g, q⟩ := h
  cases rx
  exact d_notIn hu I g ry fun s' I' => ⟨.bl _, H, I', rfl, q⟩
theorem valV_zip (k : Key) : ∀ (ks : List Key) (xs : List V), ks.length = xs.length → (valV (ks.zip xs) k).isSome = ks.any fun j => decide (j = k) := by
  intro ks xs hl
  rw [← valV_any]
  induction ks generalizing xs with
  | nil => rfl
  | cons j ks ih =>
    cases xs with
    | nil => cases hl
    | cons x xs =>
      rw [List.zip_cons_cons, List.any_cons, List.any_cons, ih xs (by simpa using hl)]
def rInStr (neg : Bool) : R2 := fun x y H Q => ∃ i j, x = .str i ∧ y = .str j ∧ Q (.bl (if neg then !(!(Builtin.Str.occurrences j i 0 j.length 1).isEmpty) else !(Builtin.Str.occurrences j i 0 j.length 1).isEmpty)) H
def rInDD (K : PySem.W.Frag) (neg : Bool) : R2 := fun x y H Q => ∃ d ds, Dp K H x d ∧ Dp K H y (.list ds) ∧ SeqAt.shaped d = true ∧ SeqAt.shaped (.list ds) = true ∧ Q (.bl (if neg then !(ds.any fun z => PyData.eqv z d) else ds.any fun z => PyData.eqv z d)) H
def rInAll (K : PySem.W.Frag) (neg : Bool) : R2 := fun x y H Q => rInStr neg x y H Q ∨ (rIn K neg x y H Q ∨ (rInDD K neg x y H Q ∨ rInDct neg x y H Q))
theorem opr_in {X : Cx} (hu : X.A.units + 65 < cLine) : OpR X (compareOp .In) (rInAll X.K false) :=
  OpR.or op_in_str (OpR.or op_in_seq (OpR.or (op_inD hu) (op_inDct (by omega))))
theorem opr_notIn {X : Cx} (hu : X.A.units + 65 < cLine) : OpR X (compareOp .NotIn) (rInAll X.K true) :=
  OpR.or op_notin_str (OpR.or op_notIn_seq (OpR.or (op_notInD hu) (op_notInDct (by omega))))
theorem in_all {B : BC} {σ : L2.St} {ρ : List CellA} {st : DS} {H : Hp} {ka kb : Kd} {x y : V} {a b : DV} {k : Bool} {Q : VK} (neg : Bool) (rx : RepK B ρ st σ H ka x a) (ry : RepK B ρ st σ H kb y b) (h : inD a b = some k)
    (q : Q (.bl (if neg then !k else k)) H) : rInAll B.C.K neg x y H Q := by
  cases b with
  | str j =>
    cases a <;> try (cases h; done)
    rename_i i
    cases h
    obtain rfl := rx.str
    obtain rfl := ry.str
    exact .inl ⟨i, j, rfl, rfl, q⟩
  | lst ds =>
    simp only [inD] at h
    split at h
    · rename_i hf
      cases h
      rw [Bool.and_eq_true] at hf
      obtain rfl := rx.flat (flat_of4 hf.1)
      obtain ⟨p, vs, rfl, e1, r1⟩ := ry.lst
      have ev := r1.flat hf.2
      subst ev
      exact .inr (.inl ⟨p, _, rfl, .inl (.inl (.inl e1)), flatV_of4 hf.1, all_flatV hf.2, by rw [inV_F hf.1 hf.2]; exact q⟩)
    · split at h
      · rename_i p ps h1 h2
        split at h
        · rename_i hs
          cases h
          rw [Bool.and_eq_true] at hs
          refine .inr (.inr (.inl ⟨p, ps, rx.dp h1, ry.dp (by simp [toP, h2]), hs.1, hs.2, q⟩))
        · cases h
      · cases h
  | tup ds =>
    simp only [inD] at h
    split at h
    · rename_i hf
      cases h
      rw [Bool.and_eq_true] at hf
      obtain rfl := rx.flat (flat_of4 hf.1)
      obtain ⟨p, vs, rfl, e1, r1⟩ := ry.tup
      have ev := r1.flat hf.2
      subst ev
      exact .inr (.inl ⟨p, _, rfl, .inr e1, flatV_of4 hf.1, all_flatV hf.2, by rw [inV_F hf.1 hf.2]; exact q⟩)
    · cases h
  | dct ks ds =>
    have h' : (keyD a).map (fun k => ks.any fun j => decide (j = k)) = some k := by cases a <;> exact h
    cases hk : keyD a with
    | none => rw [hk] at h'; cases h'
    | some key =>
      rw [hk] at h'
      cases h'
      obtain ⟨f, e⟩ := keyD_V hk
      obtain rfl := rx.flat f
      obtain ⟨p, xs, rfl, e1, hl, r1⟩ := ry.dct
      refine .inr (.inr (.inr ⟨p, valV (ks.zip xs) key, rfl, ?_, ?_⟩))
      · rw [e]
        exact DGet.k e1
      · rw [valV_zip key ks xs hl]
        exact q
  | _ =>
    unfold inD at h
    split at h
    all_goals first
      | (rename_i z; cases z; done)
      | (cases h; done)
theorem ops_in {C : RC} : OpS C (rInAll C.K false) dIn := by
  intro B hB σ ρ st H ka kb x y a b c Q rel rx ry e q
  subst hB
  unfold dIn at e
  cases h : inD a b with
  | none => rw [h] at e; cases e
  | some k =>
    rw [h] at e
    cases e
    exact in_all false rx ry h (ansF (d := .bl k) rfl rel q)
theorem ops_notIn {C : RC} : OpS C (rInAll C.K true) dNotIn := by
  intro B hB σ ρ st H ka kb x y a b c Q rel rx ry e q
  subst hB
  unfold dNotIn at e
  cases h : inD a b with
  | none => rw [h] at e; cases e
  | some k =>
    rw [h] at e
    cases e
    exact in_all true rx ry h (ansF (d := .bl (!k)) rfl rel q)
def dCmp : CmpOp → Op2
  | .Eq => dEq | .NotEq => dNe | .Lt => dLt | .LtE => dLe | .Gt => dGt | .GtE => dGe | .Is => dIs | .IsNot => dIsNot | .In => dIn | .NotIn => dNotIn
theorem op_cmp {X : Cx} {B : BC} (hC : B.C.K = X.K) (hu : X.A.units + 65 < cLine) : ∀ op : CmpOp, ∃ r, OpR X (compareOp op) r ∧ OpS B.C r (dCmp op)
  | .Eq => ⟨_, OpR.or op_eq (op_eqD (by omega)), by rw [← hC]; exact ops_eq⟩
  | .NotEq => ⟨_, OpR.or op_ne (op_neD (by omega)), by rw [← hC]; exact ops_ne⟩
  | .Lt => ⟨_, op_lt, ops_lt⟩
  | .LtE => ⟨_, op_le, ops_le⟩
  | .Gt => ⟨_, op_gt, ops_gt⟩
  | .GtE => ⟨_, op_ge, ops_ge⟩
  | .Is => ⟨_, OpR.or op_isN op_isBl, ops_is⟩
  | .IsNot => ⟨_, OpR.or op_notN op_notBl, ops_isNot⟩
  | .In => ⟨_, opr_in hu, by rw [← hC]; exact ops_in⟩
  | .NotIn => ⟨_, opr_notIn hu, by rw [← hC]; exact ops_notIn⟩
end D

/-! D: truth, tests, and | or | not, chains, conditional expressions, displays. -/
namespace D
open PySem L2 PyProof.Rows

/-! ### truth -/
def truD : DV → Option Bool
  | .non => some false
  | .bl b => some b
  | .int i => some (i != 0)
  | .str s => if s.length ≤ sizeLine then some ((s.length : Int) != 0) else none
  | .lst ds => some (!ds.isEmpty)
  | .tup ds => some (!ds.isEmpty)
  | .dct ks _ => some (!ks.isEmpty)
  | _ => none
theorem RepL.isEmpty {C : RC} {ρ : List CellA} {A : Addr → Prop} {H : Hp} {vs : List V} {ds : List DV} (r : RepL C ρ A H vs ds) : vs.isEmpty = ds.isEmpty := by cases r <;> rfl
theorem truD_of {B : BC} {σ : L2.St} {ρ : List CellA} {st : DS} {H : Hp} {kd : Kd} {x : V} {a : DV} {k : Bool} (rx : RepK B ρ st σ H kd x a) (h : truD a = some k) : TruV B.C.K x H k := by
  cases a <;> try (cases h; done)
  · obtain rfl := rx.non; cases h; rfl
  · obtain rfl := rx.bl; cases h; rfl
  · obtain rfl := rx.int; cases h; rfl
  · obtain rfl := rx.str
    simp only [truD] at h
    split at h
    · rename_i hs; cases h; exact ⟨hs, rfl⟩
    · cases h
  · obtain ⟨p, xs, rfl, e, r⟩ := rx.lst
    cases h
    exact .inl ⟨xs, .inl (.inl e), by rw [r.isEmpty]⟩
  · obtain ⟨p, xs, rfl, e, r⟩ := rx.tup
    cases h
    exact .inr (.inl ⟨xs, e, by rw [r.isEmpty]⟩)
  · obtain ⟨p, xs, rfl, e, l, r⟩ := rx.dct
    cases h
    refine .inr (.inr ⟨_, e, ?_⟩)
    rename_i ks vs
    cases ks with
    | nil => rfl
    | cons k ks =>
      cases xs with
      | nil => cases l
      | cons x xs => rfl
abbrev Tv := DS → Out Bool
def GT (σ : L2.St) (Q : Bool → Hp → Prop) : Bool → DS → List CellA → Hp → Prop := fun b _ _ H' => Q b H'
def RT (B : BC) (W : WX) (f : Tv) : TT := fun σ H Q => ∃ ρ st, Rel B ρ st σ H ∧ Res B W σ ρ st H (f st) (GT σ Q)
def PTD (X : Cx) (B : BC) (W : WX) (e : Expr) (f : Tv) : Prop := PT X e (RT B W f)
theorem RT.go {B : BC} {W : WX} {f : Tv} {σ : L2.St} {ρ : List CellA} {st : DS} {H : Hp} {G : Bool → DS → List CellA → Hp → Prop} {Q : Bool → Hp → Prop} (rel : Rel B ρ st σ H) (r : Res B W σ ρ st H (f st) G)
    (h : ∀ b st' ρ' H', Step B σ ρ st H ρ' st' H' → G b st' ρ' H' → Q b H') : RT B W f σ H Q := ⟨ρ, st, rel, r.imp h⟩
def tvE (f : Ev) : Tv := fun st => (f st).bind fun a st1 => match truD a.1 with
  | some k => .ok k st1
  | none => .stuck
def tvB (f : Ev) : Tv := fun st => (f st).bind fun a st1 => match a.1 with
  | .bl k => .ok k st1
  | _ => .stuck
section
variable {X : Cx} {B : BC} {W : WX} {a b c e : Expr} {rest : List Expr} {fa fb fc f : Ev} {ta tb : Tv} {pos : Pos} {r r' : R2} {g g' : Op2}
theorem ptd_truth (hC : B.C.K = X.K) (h : PD X B W e f) (he : ∀ whole, isTrue e X.env whole = (do let v ← whole; standAt e.pos; holding [v] (truthy v))) : PTD X B W e (tvE f) := by
  refine PT.mono (pt_truth h he) fun σ H Q ⟨ρ, st, rel, res⟩ => ?_
  refine RD.go rel (Res.bind res) fun a st1 ρ1 H1 s1 r1 x rx fx => ?_
  cases e : truD a.1 with
  | none => rw [e] at r1; exact r1.elim
  | some k =>
    rw [e] at r1
    exact ⟨k, by rw [← hC]; exact truD_of rx e, Res.now s1.rel r1⟩
/-- a reading that gives a bool, as a test -/
theorem ptd_of {t : TE} (h : PT X e (tTest t)) (ht : ∀ σ H Q, RD B W f σ H Q → t σ H Q) : PTD X B W e (tvB f) := by
  refine PT.mono h fun σ H Q ⟨ρ, st, rel, res⟩ => ?_
  refine ht σ H _ ?_
  refine RD.go rel (Res.bind res) fun a st1 ρ1 H1 s1 r1 x rx fx => ?_
  obtain ⟨d, kd⟩ := a
  cases d <;> try exact r1.elim
  obtain rfl := rx.bl
  exact ⟨_, rfl, Res.now s1.rel r1⟩
theorem ptd_cmp {op : CmpOp} (ho : OpR X (compareOp op) r) (hs : OpS B.C r g) (ha : PD X B W a fa) (hb : PD X B W b fb) (hm : behindInMarks op b = false) : PTD X B W (.Compare a [op] [b] pos) (tvB (evOp g fa fb)) :=
  ptd_of (pt_cmpR ho ha hb hm) fun _ _ _ h => tOp_of hs h
/-- a op b op' c -/
def evChain (g g' : Op2) (ea eb ec : Ev) : Ev := fun st => (ea st).bind fun a st1 => (eb st1).bind fun b st2 => match g a.1 b.1 with
  | some (.bl true, _) => (ec st2).bind fun c st3 => (match g' b.1 c.1 with
    | some r => .ok r st3
    | none => .stuck)
  | some (.bl false, _) => .ok (.bl false, .new) st2
  | _ => .stuck
/-! ### tests: and, or, not -/
def tvAnd (ta tb : Tv) : Tv := fun st => (ta st).bind fun k st1 => if k = true then tb st1 else .ok false st1
def tvOr (ta tb : Tv) : Tv := fun st => (ta st).bind fun k st1 => if k = true then .ok true st1 else tb st1
def tvNot (ta : Tv) : Tv := fun st => (ta st).bind fun k st1 => .ok (!k) st1
def PWD (X : Cx) (B : BC) (W : WX) (e : Expr) (f : Tv) : Prop := PW X e (RT B W f)
theorem PW.mono {t t' : TT} (h : PW X e t) (m : ∀ σ H Q, t' σ H Q → t σ H Q) : PW X e t' := ⟨fun whole pins s σ H Q I r => h.run whole pins s σ H Q I (m _ _ _ r)⟩
theorem pwd_and1 (ha : PTD X B W a ta) : PWD X B W (.BoolOp .And [a] pos) ta := pw_and1 ha
theorem pwd_or1 (ha : PTD X B W a ta) : PWD X B W (.BoolOp .Or [a] pos) ta := pw_or1 ha
theorem pwd_and (ha : PTD X B W a ta) (hb : PWD X B W (.BoolOp .And (b :: rest) pos) tb) : PWD X B W (.BoolOp .And (a :: b :: rest) pos) (tvAnd ta tb) := by
  refine PW.mono (pw_and ha hb) fun σ H Q ⟨ρ, st, rel, res⟩ => ?_
  refine RT.go rel (Res.bind res) fun k st1 ρ1 H1 s1 r1 => ?_
  cases k with
  | true => exact ⟨ρ1, st1, s1.rel, r1⟩
  | false => exact Res.now s1.rel r1
theorem pwd_or (ha : PTD X B W a ta) (hb : PWD X B W (.BoolOp .Or (b :: rest) pos) tb) : PWD X B W (.BoolOp .Or (a :: b :: rest) pos) (tvOr ta tb) := by
  refine PW.mono (pw_or ha hb) fun σ H Q ⟨ρ, st, rel, res⟩ => ?_
  refine RT.go rel (Res.bind res) fun k st1 ρ1 H1 s1 r1 => ?_
  cases k with
  | false => exact ⟨ρ1, st1, s1.rel, r1⟩
  | true => exact Res.now s1.rel r1
theorem PWD.pt (h : PWD X B W e ta) : PTD X B W e ta := L2.PW.pt h
theorem ptd_not (ha : PTD X B W a ta) : PTD X B W (.UnaryOp .Not a pos) (tvNot ta) := by
  refine PT.mono (pt_not ha) fun σ H Q ⟨ρ, st, rel, res⟩ => ?_
  exact RT.go rel (Res.bind res) fun k st1 ρ1 H1 s1 r1 => Res.now s1.rel r1

/-! ### the same as values -/
def evAnd (fa fb : Ev) : Ev := fun st => (fa st).bind fun a st1 => match truD a.1 with
  | some true => fb st1
  | some false => .ok a st1
  | none => .stuck
def evOr (fa fb : Ev) : Ev := fun st => (fa st).bind fun a st1 => match truD a.1 with
  | some true => .ok a st1
  | some false => fb st1
  | none => .stuck
def evNot (fa : Ev) : Ev := fun st => (fa st).bind fun a st1 => match truD a.1 with
  | some k => .ok (.bl (!k), .new) st1
  | none => .stuck
theorem GE.dm {σ : L2.St} {H H1 : Hp} {Q : VK} (dm : ∀ a, H a ≠ none → H1 a ≠ none) : ∀ a st ρ H', GE B σ H Q a st ρ H' → GE B σ H1 Q a st ρ H' := fun a st ρ H' q v r f => q v r (f.dm dm)
def evIf (t : Tv) (fa fb : Ev) : Ev := fun st => (t st).bind fun k st1 => if k = true then fa st1 else fb st1
/-- -a -/
def evNeg (fa : Ev) : Ev := fun st => (fa st).bind fun a st1 => match a.1 with
  | .int i => .ok (.int (-i), .new) st1
  | _ => .stuck
theorem pd_neg (ha : PD X B W a fa) : PD X B W (.UnaryOp .USub a pos) (evNeg fa) := by
  refine PE.mono (pe_un un_neg ha) fun σ H Q ⟨ρ, st, rel, res⟩ => ?_
  refine RD.go rel (Res.bind res) fun a st1 ρ1 H1 s1 r1 x rx fx => ?_
  obtain ⟨d, kd⟩ := a
  cases d <;> try exact r1.elim
  rename_i i
  obtain rfl := rx.int
  exact ⟨i, rfl, Res.now s1.rel r1 _ (RepK.mkF (d := .int (-i)) rfl) (fresh_flat (d := .int (-i)) rfl)⟩
end

/-! ### argument lists, each consumed; displays -/
abbrev Av' := DS → Out (List DV)
def evNil : Av' := fun st => .ok [] st
/-- an item that is consumed -/
def evCons (f : Ev) (g : Av') : Av' := fun st => (f st).bind fun a st1 => (g (st1.eat a.2)).bind fun ds st2 => .ok (a.1 :: ds) st2
def GA (B : BC) (σ : L2.St) (Q : List V → Hp → Prop) : List DV → DS → List CellA → Hp → Prop := fun ds st' ρ' H' => ∀ vs, RepL B.C ρ' (Av ρ' B.O st' σ) H' vs ds → Q vs H'
def RA (B : BC) (W : WX) (f : Av') : TA := fun σ H Q => ∃ ρ st, Rel B ρ st σ H ∧ Res B W σ ρ st H (f st) (GA B σ Q)
def PAD (X : Cx) (B : BC) (W : WX) (es : List Expr) (f : Av') : Prop := PA X es (RA B W f)
theorem RA.go {B : BC} {W : WX} {f : Av'} {σ : L2.St} {ρ : List CellA} {st : DS} {H : Hp} {G : List DV → DS → List CellA → Hp → Prop} {Q : List V → Hp → Prop} (rel : Rel B ρ st σ H) (r : Res B W σ ρ st H (f st) G)
    (h : ∀ ds st' ρ' H', Step B σ ρ st H ρ' st' H' → G ds st' ρ' H' → ∀ vs, RepL B.C ρ' (Av ρ' B.O st' σ) H' vs ds → Q vs H') : RA B W f σ H Q := ⟨ρ, st, rel, r.imp h⟩
section
variable {X : Cx} {B : BC} {W : WX} {e : Expr} {es : List Expr} {f : Ev} {g : Av'} {pos : Pos}
/-- an answer seen from a later state -/
theorem Res.from {σ : L2.St} {ρ ρ1 : List CellA} {st st1 : DS} {H H1 : Hp} {α : Type} {o : Out α} {G : α → DS → List CellA → Hp → Prop} (s : Step B σ ρ st H ρ1 st1 H1) (r : Res B W σ ρ st H o G) : Res B W σ ρ1 st1 H1 o G := by
  cases o with
  | ok a st' => exact fun ρ' H' s2 => r ρ' H' (s.trans s2)
  | exc x st' => exact fun ρ' H' cls d s2 => r ρ' H' cls d (s.trans s2)
  | stuck => exact r
theorem pad_nil : PAD X B W [] evNil := PA.mono pa_nil fun σ H Q ⟨ρ, st, rel, res⟩ => Res.now rel res [] .nil
theorem pad_cons (he : PD X B W e f) (hr : PAD X B W es g) (hs : starEach (e :: es) X.env = (false, eval e X.env) :: starEach es X.env) : PAD X B W (e :: es) (evCons f g) := by
  refine PA.mono (pa_cons he hr hs) fun σ H Q ⟨ρ, st, rel, res⟩ => ?_
  refine RD.go rel (Res.bind res) fun a st1 ρ1 H1 s1 r1 x rx fx => ?_
  have s2 := Step.eat s1.rel a.2
  refine RA.go s2.rel (Res.bind (Res.from s2 r1)) fun ds st3 ρ3 H3 s3 r3 vs rv => ?_
  exact Res.now s3.rel r3 (x :: vs) (.cons (Rep.step s3 rx.eat) rv)
def evLst (g : Av') : Ev := fun st => (g st).bind fun ds st1 => if ds.length ≤ sizeLine then .ok (.lst ds, .new) st1 else .stuck
def evTup (g : Av') : Ev := fun st => (g st).bind fun ds st1 => if ds.length ≤ sizeLine then .ok (.tup ds, .new) st1 else .stuck
theorem pd_lst (h : PAD X B W es g) : PD X B W (.List es pos) (evLst g) := by
  refine PE.mono (pe_lst h) fun σ H Q ⟨ρ, st, rel, res⟩ => ?_
  refine RA.go rel (Res.bind res) fun ds st1 ρ1 H1 s1 r1 vs rv => ?_
  split at r1
  · rename_i hl
    refine ⟨by rw [rv.length]; exact hl, fun p hp => ?_⟩
    exact r1 _ _ (Step.alloc s1.rel hp) _ (RepK.newLst s1.rel hp rv) fun q e => by cases e; exact none_of_dm s1.dm hp
  · exact r1.elim
theorem pd_tup {k : Nat} (h : PAD X B W es g) : PD X B W (.Tuple es k pos) (evTup g) := by
  refine PE.mono (pe_tup h) fun σ H Q ⟨ρ, st, rel, res⟩ => ?_
  refine RA.go rel (Res.bind res) fun ds st1 ρ1 H1 s1 r1 vs rv => ?_
  split at r1
  · rename_i hl
    refine ⟨by rw [rv.length]; exact hl, fun p hp => ?_⟩
    exact r1 _ _ (Step.alloc s1.rel hp) _ (RepK.newTup s1.rel hp rv) fun q e => by cases e; exact none_of_dm s1.dm hp
  · exact r1.elim
end
end D

/-! D: subscripts, slices, attributes. -/
namespace D
open PySem L2 PyProof.Rows

/-! ### a[i] -/
def dctGet : List Key → List DV → Key → Option DV
  | k :: ks, d :: ds, j => if k = j then some d else dctGet ks ds j
  | _, _, _ => none
def ixD : DV → DV → Option DV
  | .lst ds, .int i => atI ds i
  | .tup ds, .int i => atI ds i
  | .str z, .int i => if z.length ≤ sizeLine then (atI z.cps.toList i).map fun c => .str ⟨#[c]⟩ else none
  | .dct ks ds, .int i => dctGet ks ds (.inl i)
  | .dct ks ds, .str s => dctGet ks ds (.inr s)
  | _, _ => none
def dIx : Op2 := fun a b => (ixD a b).map fun d => (d, .fro)
def rIxDct : R2 := fun x y H Q => ∃ a v, x = .ref a ∧ DGet H a y (some v) ∧ Q v H
theorem ix_dct {X : Cx} (hu : X.A.units + 1 < cLine) : IxR X rIxDct := by
  intro value slice pins s σ H x y v u Q I rx ry h hs
  obtain ⟨a, w, rfl, g, q⟩ := h
  obtain rfl : v = Value.ref a := rx
  exact tail_any (dict_typeIs I g) slot_dict_getitem.lookup (d_getItem hu I g ry fun w' s' I' r => ⟨w, H, I', r, q⟩) hs
def rIxAll (K : PySem.W.Frag) : R2 := fun x y H Q => rIxL K x y H Q ∨ (rIxT K x y H Q ∨ (rIxS x y H Q ∨ rIxDct x y H Q))
theorem ixr_all {X : Cx} (hu : X.A.units + 1 < cLine) : IxR X (rIxAll X.K) := IxR.or ix_list (IxR.or ix_tup (IxR.or ix_str (ix_dct hu)))
theorem atI_rep {C : RC} {ρ : List CellA} {A : Addr → Prop} {H : Hp} {vs : List V} {ds : List DV} {i : Int} {d : DV} (r : RepL C ρ A H vs ds) (h : atI ds i = some d) : ∃ v, atI vs i = some v ∧ Rep C ρ A H v d := by
  unfold atI at h ⊢
  rw [r.length]
  cases e : ixN ds.length i with
  | none => rw [e] at h; cases h
  | some j =>
    rw [e, Option.bind_some] at h
    obtain ⟨v, h1, h2⟩ := r.get h
    exact ⟨v, by rw [Option.bind_some]; exact h1, h2⟩
theorem dctGet_rep {C : RC} {ρ : List CellA} {A : Addr → Prop} {H : Hp} {j : Key} {d : DV} : ∀ {ks : List Key} {vs : List V} {ds : List DV}, ks.length = vs.length → RepL C ρ A H vs ds → dctGet ks ds j = some d →
    ∃ v, valV (ks.zip vs) j = some v ∧ Rep C ρ A H v d
  | [], _, _, _, _, h => by cases h
  | k :: ks, _, _, hl, .nil, h => by cases hl
  | k :: ks, v :: vs, d' :: ds, hl, .cons r t, h => by
    unfold dctGet at h
    rw [List.zip_cons_cons]
    by_cases e : k = j
    · rw [if_pos e] at h
      cases h
      exact ⟨v, valV_pos e, r⟩
    · rw [if_neg e] at h
      obtain ⟨w, h1, h2⟩ := dctGet_rep (by simpa using hl) t h
      exact ⟨w, by rw [valV_neg e]; exact h1, h2⟩
theorem fro_of {B : BC} {σ : L2.St} {ρ : List CellA} {st : DS} {H : Hp} {Q : VK} {d : DV} {v : V} (rel : Rel B ρ st σ H) (r : Rep B.C ρ (Av ρ B.O st σ) H v d)
    (q : ∀ v H', Step B σ ρ st H ρ st H' → RepK B ρ st σ H' .fro v d → Fresh H .fro v → Q v H') : Q v H := q v H (.refl rel) r trivial
theorem ops_ix {C : RC} : OpS C (rIxAll C.K) dIx := by
  intro B hB σ ρ st H ka kb x y a b c Q rel rx ry e q
  subst hB
  unfold dIx at e
  cases h : ixD a b with
  | none => rw [h] at e; cases e
  | some d =>
    rw [h] at e
    cases e
    cases a <;> try (cases h; done)
    · rename_i z
      cases b <;> try (cases h; done)
      rename_i i
      simp only [ixD] at h
      split at h
      · rename_i hz
        cases h2 : atI z.cps.toList i with
        | none => rw [h2] at h; cases h
        | some c =>
          rw [h2] at h
          cases h
          obtain rfl := rx.str
          obtain rfl := ry.int
          exact .inr (.inr (.inl ⟨z, i, c, rfl, rfl, hz, h2, fro_of rel (.str _) q⟩))
      · cases h
    · rename_i ds
      cases b <;> try (cases h; done)
      rename_i i
      obtain ⟨p, vs, rfl, e1, r1⟩ := rx.lst
      obtain rfl := ry.int
      obtain ⟨v, h1, h2⟩ := atI_rep r1 h
      exact .inl ⟨p, vs, i, v, rfl, rfl, .inl (.inl e1), h1, fro_of rel h2 q⟩
    · rename_i ds
      cases b <;> try (cases h; done)
      rename_i i
      obtain ⟨p, vs, rfl, e1, r1⟩ := rx.tup
      obtain rfl := ry.int
      obtain ⟨v, h1, h2⟩ := atI_rep r1 h
      exact .inr (.inl ⟨p, vs, i, v, rfl, rfl, e1, h1, fro_of rel h2 q⟩)
    · rename_i ks ds
      cases b <;> try (cases h; done)
      · rename_i i
        obtain ⟨p, vs, rfl, e1, hl, r1⟩ := rx.dct
        obtain rfl := ry.int
        obtain ⟨v, h1, h2⟩ := dctGet_rep hl r1 h
        exact .inr (.inr (.inr ⟨p, v, rfl, by rw [← h1]; exact DGet.k (k := .inl i) e1, fro_of rel h2 q⟩))
      · rename_i s
        obtain ⟨p, vs, rfl, e1, hl, r1⟩ := rx.dct
        obtain rfl := ry.str
        obtain ⟨v, h1, h2⟩ := dctGet_rep hl r1 h
        exact .inr (.inr (.inr ⟨p, v, rfl, by rw [← h1]; exact DGet.k (k := .inr s) e1, fro_of rel h2 q⟩))
section
variable {X : Cx} {B : BC} {W : WX} {a b e : Expr} {fa fb f : Ev} {pos : Pos}
theorem pd_ix (hC : B.C.K = X.K) (hu : X.A.units + 1 < cLine) (ha : PD X B W a fa) (hb : PD X B W b fb) (hs : PlainIx b) : PD X B W (.Subscript a b pos) (evOp dIx fa fb) :=
  PE.mono (pe_ix (ixr_all hu) ha hb hs) fun _ _ _ h => tOp_of (by rw [← hC]; exact ops_ix) h
end

/-! ### slices -/
def cutL {α : Type} (xs : List α) (lo hi : Option Int) : List α := (xs.drop (HT.sIx xs.length 0 lo)).take (HT.sIx xs.length xs.length hi - HT.sIx xs.length 0 lo)
def dSl (a : DV) (lo hi : Option Int) : Option (DV × Kd) := match a with
  | .lst ds => some (.lst (cutL ds lo hi), .new)
  | .tup ds => some (.tup (cutL ds lo hi), .fro)
  | .str z => if z.length ≤ sizeLine then some (.str (cutS z lo hi), .new) else none
  | _ => none
/-- a part of a slice -/
abbrev Pv := DS → Out (Option Int)
def pvNone : Pv := fun st => .ok none st
def pvSome (f : Ev) : Pv := fun st => (f st).bind fun a st1 => match a.1 with
  | .int i => .ok (some i) st1
  | _ => .stuck
def GO (Q : Option Int → Hp → Prop) : Option Int → DS → List CellA → Hp → Prop := fun o _ _ H' => Q o H'
def RO (B : BC) (W : WX) (f : Pv) : TO := fun σ H Q => ∃ ρ st, Rel B ρ st σ H ∧ Res B W σ ρ st H (f st) (GO Q)
theorem PO.mono {X : Cx} {e : Option Expr} {t t' : TO} (h : PO X e t) (m : ∀ σ H Q, t' σ H Q → t σ H Q) : PO X e t' := ⟨fun pins s σ H Q I r => h.run pins s σ H Q I (m _ _ _ r)⟩
theorem RO.go {B : BC} {W : WX} {f : Pv} {σ : L2.St} {ρ : List CellA} {st : DS} {H : Hp} {G : Option Int → DS → List CellA → Hp → Prop} {Q : Option Int → Hp → Prop} (rel : Rel B ρ st σ H) (r : Res B W σ ρ st H (f st) G)
    (h : ∀ o st' ρ' H', Step B σ ρ st H ρ' st' H' → G o st' ρ' H' → Q o H') : RO B W f σ H Q := ⟨ρ, st, rel, r.imp h⟩
def evSl (fa : Ev) (lo hi : Pv) : Ev := fun st => (fa st).bind fun a st1 => (lo st1).bind fun l st2 => (hi st2).bind fun u st3 => match dSl a.1 l u with
  | some r => .ok r st3
  | none => .stuck
section
variable {X : Cx} {B : BC} {W : WX} {a b e : Expr} {lo hi : Option Expr} {fa fb f : Ev} {fl fh : Pv} {pos p2 : Pos}
end

/-! ### a[::-1] -/
section
variable {prog : Program} {w : World} {A : Around} {E : Value → Shared → Prop} {s : Shared}
end
section
variable {X : Cx} {B : BC} {W : WX}
def evRev (fa : Ev) : Ev := fun st => (fa st).bind fun a st1 => match a.1 with
  | .lst ds => .ok (.lst ds.reverse, .new) st1
  | .tup ds => .ok (.tup ds.reverse, .fro) st1
  | _ => .stuck
end

/-! ### o.f -/
def fldGet : List Str → List DV → Str → Option DV
  | k :: ks, d :: ds, j => if k = j then some d else fldGet ks ds j
  | _, _, _ => none
theorem fldGet_rep {C : RC} {ρ : List CellA} {A : Addr → Prop} {H : Hp} {j : Str} {d : DV} : ∀ {ks : List Str} {vs : List V} {ds : List DV}, ks.length = vs.length → RepL C ρ A H vs ds → fldGet ks ds j = some d →
    ∃ v, (ks.zip vs).lookup j = some v ∧ Rep C ρ A H v d
  | [], _, _, _, _, h => by cases h
  | k :: ks, _, _, hl, .nil, h => by cases hl
  | k :: ks, v :: vs, d' :: ds, hl, .cons r t, h => by
    unfold fldGet at h
    rw [List.zip_cons_cons, List.lookup_cons]
    by_cases e : k = j
    · rw [if_pos e] at h
      cases h
      exact ⟨v, by rw [e, beq_self_eq_true], r⟩
    · rw [if_neg e] at h
      obtain ⟨w, h1, h2⟩ := fldGet_rep (by simpa using hl) t h
      refine ⟨w, ?_, h2⟩
      rw [show (j == k) = false from beq_eq_false_iff_ne.mpr fun z => e z.symm]
      exact h1
end D

/-! D: calls of built-ins. -/
namespace D
open PySem L2 PyProof.Rows

/-! ### several results, not consumed -/
abbrev Ak := DS → Out (List (DV × Kd))
def akNil : Ak := fun st => .ok [] st
def akCons (f : Ev) (g : Ak) : Ak := fun st => (f st).bind fun a st1 => (g st1).bind fun as st2 => .ok (a :: as) st2
inductive RepKs (B : BC) (ρ : List CellA) (st : DS) (σ : L2.St) (H : Hp) : List V → List (DV × Kd) → Prop where
  | nil : RepKs B ρ st σ H [] []
  | cons {v : V} {vs : List V} {a : DV × Kd} {as : List (DV × Kd)} : RepK B ρ st σ H a.2 v a.1 → RepKs B ρ st σ H vs as → RepKs B ρ st σ H (v :: vs) (a :: as)
def GK (B : BC) (σ : L2.St) (Q : List V → Hp → Prop) : List (DV × Kd) → DS → List CellA → Hp → Prop := fun as st' ρ' H' => ∀ vs, RepKs B ρ' st' σ H' vs as → Q vs H'
def RK (B : BC) (W : WX) (f : Ak) : TA := fun σ H Q => ∃ ρ st, Rel B ρ st σ H ∧ Res B W σ ρ st H (f st) (GK B σ Q)
def PKD (X : Cx) (B : BC) (W : WX) (es : List Expr) (f : Ak) : Prop := PA X es (RK B W f)
section
variable {X : Cx} {B : BC} {W : WX} {e : Expr} {es : List Expr} {f : Ev} {g : Ak} {pos : Pos}
theorem RK.go {σ : L2.St} {ρ : List CellA} {st : DS} {H : Hp} {G : List (DV × Kd) → DS → List CellA → Hp → Prop} {Q : List V → Hp → Prop} (rel : Rel B ρ st σ H) (r : Res B W σ ρ st H (g st) G)
    (h : ∀ as st' ρ' H', Step B σ ρ st H ρ' st' H' → G as st' ρ' H' → ∀ vs, RepKs B ρ' st' σ H' vs as → Q vs H') : RK B W g σ H Q := ⟨ρ, st, rel, r.imp h⟩
theorem pkd_nil : PKD X B W [] akNil := PA.mono pa_nil fun σ H Q ⟨ρ, st, rel, res⟩ => Res.now rel res [] .nil
theorem pkd_cons (he : PD X B W e f) (hr : PKD X B W es g) (hs : starEach (e :: es) X.env = (false, eval e X.env) :: starEach es X.env) : PKD X B W (e :: es) (akCons f g) := by
  refine PA.mono (pa_cons he hr hs) fun σ H Q ⟨ρ, st, rel, res⟩ => ?_
  refine RD.go rel (Res.bind res) fun a st1 ρ1 H1 s1 r1 x rx fx => ?_
  refine RK.go s1.rel (Res.bind r1) fun as st3 ρ3 H3 s3 r3 vs rv => ?_
  exact Res.now s3.rel r3 (x :: vs) (.cons (RepK.step s3 rx) rv)
end

/-! ### a built-in by values -/
abbrev OpN := List DV → Option (DV × Kd)
def CallS (C : RC) (r : List V → Hp → VK → Prop) (f : OpN) : Prop := ∀ (B : BC), B.C = C → ∀ (σ : L2.St) (ρ : List CellA) (st : DS) (H : Hp) (xs : List V) (as : List (DV × Kd)) (c : DV × Kd) (Q : VK), Rel B ρ st σ H → RepKs B ρ st σ H xs as → f (as.map (·.1)) = some c →
  (∀ v H', Step B σ ρ st H ρ st H' → RepK B ρ st σ H' c.2 v c.1 → Fresh H c.2 v → Q v H') → r xs H Q
theorem CallS.or {C : RC} {r r' : List V → Hp → VK → Prop} {f g k : OpN} (h : CallS C r f) (h' : CallS C r' g) (e : ∀ as c, k as = some c → f as = some c ∨ g as = some c) : CallS C (fun xs H Q => r xs H Q ∨ r' xs H Q) k := by
  intro B hB σ ρ st H xs as c Q rel rx e1 q
  rcases e _ c e1 with e2 | e2
  · exact .inl (h B hB σ ρ st H xs as c Q rel rx e2 q)
  · exact .inr (h' B hB σ ρ st H xs as c Q rel rx e2 q)
theorem one_of {B : BC} {ρ : List CellA} {st : DS} {σ : L2.St} {H : Hp} {xs : List V} {as : List (DV × Kd)} {d : DV} (r : RepKs B ρ st σ H xs as) (e : as.map (·.1) = [d]) : ∃ v kd, xs = [v] ∧ RepK B ρ st σ H kd v d := by
  cases r with
  | nil => cases e
  | @cons v vs a as h t =>
    cases t with
    | nil => rw [List.map_cons, List.map_nil, List.cons.injEq] at e; obtain ⟨rfl, _⟩ := e; exact ⟨v, _, rfl, h⟩
    | cons h2 t => cases e
theorem two_of {B : BC} {ρ : List CellA} {st : DS} {σ : L2.St} {H : Hp} {xs : List V} {as : List (DV × Kd)} {d d' : DV} (r : RepKs B ρ st σ H xs as) (e : as.map (·.1) = [d, d']) : ∃ v w kd kd', xs = [v, w] ∧ RepK B ρ st σ H kd v d ∧ RepK B ρ st σ H kd' w d' := by
  cases r with
  | nil => cases e
  | @cons v vs a as h t =>
    cases t with
    | nil => cases e
    | @cons v2 vs a2 as h2 t =>
      cases t with
      | nil =>
        rw [List.map_cons, List.map_cons, List.map_nil, List.cons.injEq, List.cons.injEq] at e
        obtain ⟨rfl, rfl, _⟩ := e
        exact ⟨v, v2, _, _, rfl, h, h2⟩
      | cons h3 t => cases e
/-- one argument -/
def f1 (g : DV → Option (DV × Kd)) : OpN
  | [a] => g a
  | _ => none
theorem calls1 {C : RC} {r : V → Hp → VK → Prop} {g : DV → Option (DV × Kd)} (h : ∀ (B : BC), B.C = C → ∀ (σ : L2.St) (ρ : List CellA) (st : DS) (H : Hp) (ka : Kd) (x : V) (a : DV) (c : DV × Kd) (Q : VK), Rel B ρ st σ H → RepK B ρ st σ H ka x a → g a = some c →
    (∀ v H', Step B σ ρ st H ρ st H' → RepK B ρ st σ H' c.2 v c.1 → Fresh H c.2 v → Q v H') → r x H Q) : CallS C (fun xs H Q => ∃ x, xs = [x] ∧ r x H Q) (f1 g) := by
  intro B hB σ ρ st H xs as c Q rel rx e q
  cases e1 : as.map (·.1) with
  | nil => rw [e1] at e; cases e
  | cons d ds =>
    cases ds with
    | cons d' ds => rw [e1] at e; cases e
    | nil =>
      rw [e1] at e
      obtain ⟨v, kd, rfl, rv⟩ := one_of rx e1
      exact ⟨v, rfl, h B hB σ ρ st H kd v d c Q rel rv e q⟩
def f2 (g : DV → DV → Option (DV × Kd)) : OpN
  | [a, b] => g a b
  | _ => none
theorem calls2 {C : RC} {r : V → V → Hp → VK → Prop} {g : DV → DV → Option (DV × Kd)} (h : ∀ (B : BC), B.C = C → ∀ (σ : L2.St) (ρ : List CellA) (st : DS) (H : Hp) (ka kb : Kd) (x y : V) (a b : DV) (c : DV × Kd) (Q : VK), Rel B ρ st σ H → RepK B ρ st σ H ka x a → RepK B ρ st σ H kb y b → g a b = some c →
    (∀ v H', Step B σ ρ st H ρ st H' → RepK B ρ st σ H' c.2 v c.1 → Fresh H c.2 v → Q v H') → r x y H Q) : CallS C (fun xs H Q => ∃ x y, xs = [x, y] ∧ r x y H Q) (f2 g) := by
  intro B hB σ ρ st H xs as c Q rel rx e q
  cases e1 : as.map (·.1) with
  | nil => rw [e1] at e; cases e
  | cons d ds =>
    cases ds with
    | nil => rw [e1] at e; cases e
    | cons d' ds =>
      cases ds with
      | cons d'' ds => rw [e1] at e; cases e
      | nil =>
        rw [e1] at e
        obtain ⟨v, w, kd, kd', rfl, rv, rw'⟩ := two_of rx e1
        exact ⟨v, w, rfl, h B hB σ ρ st H kd kd' v w d d' c Q rel rv rw' e q⟩
def evCall (f : OpN) (g : Ak) : Ev := fun st => (g st).bind fun as st1 => match f (as.map (·.1)) with
  | some c => .ok c st1
  | none => .stuck
theorem tCB_of {B : BC} {W : WX} {r : List V → Hp → VK → Prop} {f : OpN} {g : Ak} (hs : CallS B.C r f) {σ : L2.St} {H : Hp} {Q : VK} (h : RD B W (evCall f g) σ H Q) : tCB r (RK B W g) σ H Q := by
  obtain ⟨ρ, st, rel, res⟩ := h
  refine RK.go rel (Res.bind res) fun as st1 ρ1 H1 s1 r1 xs rx => ?_
  cases e : f (as.map (·.1)) with
  | none => rw [e] at r1; exact r1.elim
  | some c =>
    rw [e] at r1
    exact hs B rfl σ ρ1 st1 H1 xs as c Q s1.rel rx e fun v H' s3 rv fv => r1 _ _ s3 v rv (fv.dm s1.dm)

/-! ### the built-ins -/
inductive Blt where
  | len | abs | ord | isinstance | all | any | sum | max | min | repr | int | bool | str | list | tuple
  deriving DecidableEq
def Blt.name : Blt → String
  | .len => "len" | .abs => "abs" | .ord => "ord" | .isinstance => "isinstance" | .all => "all" | .any => "any" | .sum => "sum" | .max => "max" | .min => "min" | .repr => "repr"
  | .int => "int" | .bool => "bool" | .str => "str" | .list => "list" | .tuple => "tuple"
def Blt.isTy : Blt → Bool
  | .int => true | .bool => true | .str => true | .list => true | .tuple => true | _ => false
def Blt.val (b : Blt) : Value := if b.isTy then .type b.name else .builtin b.name
theorem Blt.boot (b : Blt) : bootBuiltins b.name = some b.val := by
  cases b
  · exact PySem.boot_len
  · exact boot_abs
  · exact boot_ord
  · exact boot_isinstance
  · decide +kernel
  · decide +kernel
  · decide +kernel
  · decide +kernel
  · decide +kernel
  · exact boot_repr
  · exact boot_int
  · exact boot_bool
  · exact boot_str
  · exact boot_list
  · exact boot_tuple
theorem Blt.nn (b : Blt) : ((b.name : String) : Str) ≠ "__name__" := by cases b <;> decide +kernel
theorem Blt.nd (b : Blt) : (((b.name : String) : Str) == ("__debug__" : Str)) = false := by cases b <;> decide +kernel

def lenD : DV → Option (DV × Kd)
  | .lst ds => some (.int ds.length, .new)
  | .tup ds => some (.int ds.length, .new)
  | .str s => if s.length ≤ sizeLine then some (.int s.length, .new) else none
  | .dct ks _ => some (.int ks.length, .new)
  | .scr ns => some (.int ns.length, .new)
  | _ => none
theorem RepK.scr {B : BC} {σ : L2.St} {ρ : List CellA} {st : DS} {H : Hp} {kd : Kd} {v : V} {ns : List Int} (r : RepK B ρ st σ H kd v (.scr ns)) : ∃ p, v = .ref p ∧ SqL B.C.K H p (ns.map V.int) := by
  have key : ∀ {A : Addr → Prop}, Rep B.C ρ A H v (.scr ns) → ∃ p, v = .ref p ∧ SqL B.C.K H p (ns.map V.int) := fun r => by
    cases r with
    | scr n e => exact ⟨_, rfl, .inl (.inr ⟨_, e⟩)⟩
    | kscr k => exact ⟨_, rfl, .inr k⟩
  cases kd with
  | view i => obtain ⟨p, rfl, _, c, _⟩ := r; exact (show False from c).elim
  | fro => exact key r
  | new => exact key r.1
theorem s_len {C : RC} : CallS C (fun xs H Q => (∃ x n, xs = [x] ∧ LenV C.K x H n ∧ Q (.int n) H) ∨ ∃ a kvs, xs = [V.ref a] ∧ H a = some (.dK kvs) ∧ Q (.int kvs.length) H) (f1 lenD) := by
  have h := calls1 (C := C) (r := fun x H Q => (∃ n, LenV C.K x H n ∧ Q (.int n) H) ∨ ∃ a kvs, x = V.ref a ∧ H a = some (.dK kvs) ∧ Q (.int kvs.length) H) (g := lenD) ?_
  · intro B hB σ ρ st H xs as c Q rel rx e q
    obtain ⟨x, rfl, h | ⟨a, kvs, rfl, h⟩⟩ := h B hB σ ρ st H xs as c Q rel rx e q
    · obtain ⟨n, h⟩ := h
      exact .inl ⟨x, n, rfl, h⟩
    · exact .inr ⟨a, kvs, rfl, h⟩
  · intro B hB σ ρ st H ka x a c Q rel rx e q
    subst hB
    cases a <;> try (cases e; done)
    · rename_i s
      simp only [lenD] at e
      split at e
      · rename_i hs
        cases e
        obtain rfl := rx.str
        exact .inl ⟨s.length, ⟨hs, rfl⟩, ansF (d := .int s.length) rfl rel q⟩
      · cases e
    · rename_i ds
      cases e
      obtain ⟨p, vs, rfl, e1, r1⟩ := rx.lst
      exact .inl ⟨ds.length, .inl ⟨vs, .inl (.inl e1), r1.length.symm⟩, ansF (d := .int ds.length) rfl rel q⟩
    · rename_i ds
      cases e
      obtain ⟨p, vs, rfl, e1, r1⟩ := rx.tup
      exact .inl ⟨ds.length, .inr ⟨vs, e1, r1.length.symm⟩, ansF (d := .int ds.length) rfl rel q⟩
    rotate_left
    · rename_i ns
      cases e
      obtain ⟨p, rfl, e1⟩ := rx.scr
      exact .inl ⟨ns.length, .inl ⟨_, e1, by simp⟩, ansF (d := .int ns.length) rfl rel q⟩
    · rename_i ks ds
      cases e
      obtain ⟨p, vs, rfl, e1, hl, r1⟩ := rx.dct
      refine .inr ⟨p, _, rfl, e1, ?_⟩
      rw [List.length_zip, ← hl, Nat.min_self]
      exact ansF (d := .int ks.length) rfl rel q
def absD : DV → Option (DV × Kd)
  | .int i => some (.int (if i < 0 then -i else i), .new)
  | _ => none
theorem s_abs {C : RC} : CallS C (fun xs H Q => ∃ i, xs = [.int i] ∧ Q (.int (if i < 0 then -i else i)) H) (f1 absD) := by
  have h := calls1 (C := C) (r := fun x H Q => ∃ i, x = .int i ∧ Q (.int (if i < 0 then -i else i)) H) (g := absD) ?_
  · intro B hB σ ρ st H xs as c Q rel rx e q
    obtain ⟨x, rfl, i, rfl, h⟩ := h B hB σ ρ st H xs as c Q rel rx e q
    exact ⟨i, rfl, h⟩
  · intro B hB σ ρ st H ka x a c Q rel rx e q
    cases a <;> try (cases e; done)
    rename_i i
    cases e
    obtain rfl := rx.int
    exact ⟨i, rfl, ansF (d := .int (if i < 0 then -i else i)) rfl rel q⟩
def ordD : DV → Option (DV × Kd)
  | .str x => if x.length = 1 then some (.int (x.cps.getD 0 0 : Nat), .new) else none
  | _ => none
theorem s_ord {C : RC} : CallS C (fun xs H Q => ∃ x, xs = [.str x] ∧ x.length = 1 ∧ Q (.int (x.cps.getD 0 0 : Nat)) H) (f1 ordD) := by
  have h := calls1 (C := C) (r := fun x H Q => ∃ s, x = .str s ∧ s.length = 1 ∧ Q (.int (s.cps.getD 0 0 : Nat)) H) (g := ordD) ?_
  · intro B hB σ ρ st H xs as c Q rel rx e q
    obtain ⟨x, rfl, i, rfl, h⟩ := h B hB σ ρ st H xs as c Q rel rx e q
    exact ⟨i, rfl, h⟩
  · intro B hB σ ρ st H ka x a c Q rel rx e q
    cases a <;> try (cases e; done)
    rename_i s
    simp only [ordD] at e
    split at e
    · rename_i hs
      cases e
      obtain rfl := rx.str
      exact ⟨s, rfl, hs, ansF (d := .int (s.cps.getD 0 0 : Nat)) rfl rel q⟩
    · cases e
/-- a list of bools -/
def boolsD : List DV → Option (List Bool)
  | [] => some []
  | .bl b :: ds => (boolsD ds).map (b :: ·)
  | _ => none
theorem boolsD_rep {C : RC} {ρ : List CellA} {A : Addr → Prop} {H : Hp} : ∀ {vs : List V} {ds : List DV} {bs : List Bool}, RepL C ρ A H vs ds → boolsD ds = some bs → vs = bs.map V.bl
  | _, _, _, .nil, e => by cases e; rfl
  | _, _, bs, .cons (d := d) (ds := ds) r t, e => by
    cases d <;> try (cases e; done)
    rename_i b
    cases e2 : boolsD ds with
    | none => simp [boolsD, e2] at e
    | some cs =>
      simp [boolsD, e2] at e
      subst e
      rw [List.map_cons, boolsD_rep t e2, Rep.flat_eq rfl r]
      rfl
def allD : DV → Option (DV × Kd)
  | .lst ds => (boolsD ds).map fun bs => (.bl (bs.all id), .new)
  | _ => none
def anyD : DV → Option (DV × Kd)
  | .lst ds => (boolsD ds).map fun bs => (.bl (bs.any id), .new)
  | _ => none
theorem s_all {C : RC} : CallS C (rAll C.K) (f1 allD) := by
  have h := calls1 (C := C) (r := fun x H Q => ∃ (a : Addr) (bs : List Bool), x = V.ref a ∧ SqL C.K H a (bs.map V.bl) ∧ Q (.bl (bs.all id)) H) (g := allD) ?_
  · intro B hB σ ρ st H xs as c Q rel rx e q
    obtain ⟨x, rfl, i, bs, rfl, h⟩ := h B hB σ ρ st H xs as c Q rel rx e q
    exact ⟨i, bs, rfl, h⟩
  · intro B hB σ ρ st H ka x a c Q rel rx e q
    cases a <;> try (cases e; done)
    rename_i ds
    cases e2 : boolsD ds with
    | none => simp [allD, e2] at e
    | some bs =>
      simp [allD, e2] at e
      subst e
      obtain ⟨p, vs, rfl, e1, r1⟩ := rx.lst
      obtain rfl := boolsD_rep r1 e2
      exact ⟨p, bs, rfl, .inl (.inl e1), ansF (d := .bl (bs.all id)) rfl rel (by simpa using q)⟩
theorem s_any {C : RC} : CallS C (rAny C.K) (f1 anyD) := by
  have h := calls1 (C := C) (r := fun x H Q => ∃ (a : Addr) (bs : List Bool), x = V.ref a ∧ SqL C.K H a (bs.map V.bl) ∧ Q (.bl (bs.any id)) H) (g := anyD) ?_
  · intro B hB σ ρ st H xs as c Q rel rx e q
    obtain ⟨x, rfl, i, bs, rfl, h⟩ := h B hB σ ρ st H xs as c Q rel rx e q
    exact ⟨i, bs, rfl, h⟩
  · intro B hB σ ρ st H ka x a c Q rel rx e q
    cases a <;> try (cases e; done)
    rename_i ds
    cases e2 : boolsD ds with
    | none => simp [anyD, e2] at e
    | some bs =>
      simp [anyD, e2] at e
      subst e
      obtain ⟨p, vs, rfl, e1, r1⟩ := rx.lst
      obtain rfl := boolsD_rep r1 e2
      exact ⟨p, bs, rfl, .inl (.inl e1), ansF (d := .bl (bs.any id)) rfl rel (by simpa using q)⟩
/-- a list of ints -/
def intsD : List DV → Option (List Int)
  | [] => some []
  | .int b :: ds => (intsD ds).map (b :: ·)
  | _ => none
theorem intsD_rep {C : RC} {ρ : List CellA} {A : Addr → Prop} {H : Hp} : ∀ {vs : List V} {ds : List DV} {bs : List Int}, RepL C ρ A H vs ds → intsD ds = some bs → vs = bs.map V.int
  | _, _, _, .nil, e => by cases e; rfl
  | _, _, bs, .cons (d := d) (ds := ds) r t, e => by
    cases d <;> try (cases e; done)
    rename_i b
    cases e2 : intsD ds with
    | none => simp [intsD, e2] at e
    | some cs =>
      simp [intsD, e2] at e
      subst e
      rw [List.map_cons, intsD_rep t e2, Rep.flat_eq rfl r]
      rfl
def sumD : DV → Option (DV × Kd)
  | .lst ds => (intsD ds).map fun bs => (.int bs.sum, .new)
  | _ => none
theorem s_sum {C : RC} : CallS C (rSum C.K) (f1 sumD) := by
  have h := calls1 (C := C) (r := fun x H Q => ∃ (a : Addr) (bs : List Int), x = V.ref a ∧ SqL C.K H a (bs.map V.int) ∧ Q (.int bs.sum) H) (g := sumD) ?_
  · intro B hB σ ρ st H xs as c Q rel rx e q
    obtain ⟨x, rfl, i, bs, rfl, h⟩ := h B hB σ ρ st H xs as c Q rel rx e q
    exact ⟨i, bs, rfl, h⟩
  · intro B hB σ ρ st H ka x a c Q rel rx e q
    cases a <;> try (cases e; done)
    rename_i ds
    cases e2 : intsD ds with
    | none => simp [sumD, e2] at e
    | some bs =>
      simp [sumD, e2] at e
      subst e
      obtain ⟨p, vs, rfl, e1, r1⟩ := rx.lst
      obtain rfl := intsD_rep r1 e2
      exact ⟨p, bs, rfl, .inl (.inl e1), ansF (d := .int bs.sum) rfl rel (by simpa using q)⟩
def maxL : List Int → Int
  | [] => 0
  | [x] => x
  | x :: y :: r => if maxL (y :: r) > x then maxL (y :: r) else x
def minL : List Int → Int
  | [] => 0
  | [x] => x
  | x :: y :: r => if minL (y :: r) < x then minL (y :: r) else x
theorem maxL_spec : ∀ (l : List Int), l ≠ [] → maxL l ∈ l ∧ ∀ y ∈ l, y ≤ maxL l
  | [], h => absurd rfl h
  | [x], _ => ⟨List.mem_singleton.mpr rfl, fun y h => by rw [List.mem_singleton.mp h]; exact Int.le_refl _⟩
  | x :: z :: r, _ => by
    obtain ⟨h1, h2⟩ := maxL_spec (z :: r) (List.cons_ne_nil _ _)
    unfold maxL
    split
    · rename_i c
      refine ⟨List.mem_cons_of_mem _ h1, fun y hy => ?_⟩
      rcases List.mem_cons.mp hy with rfl | hy
      · omega
      · exact h2 y hy
    · rename_i c
      refine ⟨List.mem_cons_self, fun y hy => ?_⟩
      rcases List.mem_cons.mp hy with rfl | hy
      · omega
      · have := h2 y hy; omega
theorem minL_spec : ∀ (l : List Int), l ≠ [] → minL l ∈ l ∧ ∀ y ∈ l, minL l ≤ y
  | [], h => absurd rfl h
  | [x], _ => ⟨List.mem_singleton.mpr rfl, fun y h => by rw [List.mem_singleton.mp h]; exact Int.le_refl _⟩
  | x :: z :: r, _ => by
    obtain ⟨h1, h2⟩ := minL_spec (z :: r) (List.cons_ne_nil _ _)
    unfold minL
    split
    · rename_i c
      refine ⟨List.mem_cons_of_mem _ h1, fun y hy => ?_⟩
      rcases List.mem_cons.mp hy with rfl | hy
      · omega
      · exact h2 y hy
    · rename_i c
      refine ⟨List.mem_cons_self, fun y hy => ?_⟩
      rcases List.mem_cons.mp hy with rfl | hy
      · omega
      · have := h2 y hy; omega
def maxD : OpN
  | [.int i, .int j] => some (.int (if j > i then j else i), .new)
  | [.lst ds] => match intsD ds with
    | some ns => if 0 < ns.length then some (.int (maxL ns), .new) else none
    | none => none
  | _ => none
def minD : OpN
  | [.int i, .int j] => some (.int (if j < i then j else i), .new)
  | [.lst ds] => match intsD ds with
    | some ns => if 0 < ns.length then some (.int (minL ns), .new) else none
    | none => none
  | _ => none
theorem s_max {C : RC} : CallS C (fun xs H Q => (∃ i j, xs = [.int i, .int j] ∧ Q (.int (if j > i then j else i)) H) ∨ rMax C.K xs H Q) maxD := by
  intro B hB σ ρ st H xs as c Q rel rx e q
  subst hB
  generalize e1 : as.map (·.1) = ds at e
  unfold maxD at e
  split at e
  · rename_i i j
    cases e
    obtain ⟨v, w, _, _, rfl, r1, r2⟩ := two_of rx e1
    obtain rfl := r1.int
    obtain rfl := r2.int
    exact .inl ⟨i, j, rfl, ansF (d := .int (if j > i then j else i)) rfl rel q⟩
  · rename_i es
    split at e
    · rename_i ns e2
      split at e
      · rename_i h0
        cases e
        obtain ⟨v, _, rfl, r1⟩ := one_of rx e1
        obtain ⟨p, vs, rfl, e3, rl⟩ := r1.lst
        obtain rfl := intsD_rep rl e2
        refine .inr ⟨p, ns, rfl, .inl (.inl e3), h0, fun m h1 h2 => ?_⟩
        have hne : ns ≠ [] := by intro z; subst z; cases h0
        obtain ⟨g1, g2⟩ := maxL_spec ns hne
        have : m = maxL ns := Int.le_antisymm (g2 m h1) (h2 _ g1)
        subst this
        exact ansF (d := .int (maxL ns)) rfl rel q
      · cases e
    · cases e
  · cases e
theorem s_min {C : RC} : CallS C (fun xs H Q => (∃ i j, xs = [.int i, .int j] ∧ Q (.int (if j < i then j else i)) H) ∨ rMin C.K xs H Q) minD := by
  intro B hB σ ρ st H xs as c Q rel rx e q
  subst hB
  generalize e1 : as.map (·.1) = ds at e
  unfold minD at e
  split at e
  · rename_i i j
    cases e
    obtain ⟨v, w, _, _, rfl, r1, r2⟩ := two_of rx e1
    obtain rfl := r1.int
    obtain rfl := r2.int
    exact .inl ⟨i, j, rfl, ansF (d := .int (if j < i then j else i)) rfl rel q⟩
  · rename_i es
    split at e
    · rename_i ns e2
      split at e
      · rename_i h0
        cases e
        obtain ⟨v, _, rfl, r1⟩ := one_of rx e1
        obtain ⟨p, vs, rfl, e3, rl⟩ := r1.lst
        obtain rfl := intsD_rep rl e2
        refine .inr ⟨p, ns, rfl, .inl (.inl e3), h0, fun m h1 h2 => ?_⟩
        have hne : ns ≠ [] := by intro z; subst z; cases h0
        obtain ⟨g1, g2⟩ := minL_spec ns hne
        have : m = minL ns := Int.le_antisymm (h2 _ g1) (g2 m h1)
        subst this
        exact ansF (d := .int (minL ns)) rfl rel q
      · cases e
    · cases e
  · cases e
def intC : DV → Option (DV × Kd)
  | .int i => some (.int i, .new)
  | .bl k => some (.int (if k then 1 else 0), .new)
  | _ => none
theorem s_int {C : RC} : CallS C (fun xs H Q => (∃ i, xs = [.int i] ∧ Q (.int i) H) ∨ ∃ k, xs = [.bl k] ∧ Q (.int (if k then 1 else 0)) H) (f1 intC) := by
  have h := calls1 (C := C) (r := fun x H Q => (∃ i, x = .int i ∧ Q (.int i) H) ∨ ∃ k, x = .bl k ∧ Q (.int (if k then 1 else 0)) H) (g := intC) ?_
  · intro B hB σ ρ st H xs as c Q rel rx e q
    obtain ⟨x, rfl, ⟨i, rfl, h⟩ | ⟨k, rfl, h⟩⟩ := h B hB σ ρ st H xs as c Q rel rx e q
    · exact .inl ⟨i, rfl, h⟩
    · exact .inr ⟨k, rfl, h⟩
  · intro B hB σ ρ st H ka x a c Q rel rx e q
    cases a <;> try (cases e; done)
    · rename_i k
      cases e
      obtain rfl := rx.bl
      exact .inr ⟨k, rfl, ansF (d := .int (if k then 1 else 0)) rfl rel q⟩
    · rename_i i
      cases e
      obtain rfl := rx.int
      exact .inl ⟨i, rfl, ansF (d := .int i) rfl rel q⟩
def boolC : DV → Option (DV × Kd)
  | .int i => some (.bl (i != 0), .new)
  | .bl k => some (.bl k, .new)
  | _ => none
theorem s_bool {C : RC} : CallS C (fun xs H Q => (∃ i, xs = [.int i] ∧ Q (.bl (i != 0)) H) ∨ ∃ k, xs = [.bl k] ∧ Q (.bl k) H) (f1 boolC) := by
  have h := calls1 (C := C) (r := fun x H Q => (∃ i, x = .int i ∧ Q (.bl (i != 0)) H) ∨ ∃ k, x = .bl k ∧ Q (.bl k) H) (g := boolC) ?_
  · intro B hB σ ρ st H xs as c Q rel rx e q
    obtain ⟨x, rfl, ⟨i, rfl, h⟩ | ⟨k, rfl, h⟩⟩ := h B hB σ ρ st H xs as c Q rel rx e q
    · exact .inl ⟨i, rfl, h⟩
    · exact .inr ⟨k, rfl, h⟩
  · intro B hB σ ρ st H ka x a c Q rel rx e q
    cases a <;> try (cases e; done)
    · rename_i k
      cases e
      obtain rfl := rx.bl
      exact .inr ⟨k, rfl, ansF (d := .bl k) rfl rel q⟩
    · rename_i i
      cases e
      obtain rfl := rx.int
      exact .inl ⟨i, rfl, ansF (d := .bl (i != 0)) rfl rel q⟩
def strC : DV → Option (DV × Kd)
  | .int i => if i.natAbs.log2 < 1920 then some (.str (toString i), .new) else none
  | .str s => some (.str s, .new)
  | _ => none
theorem s_str {C : RC} : CallS C (fun xs H Q => (∃ i, xs = [.int i] ∧ i.natAbs.log2 < 1920 ∧ Q (.str (toString i)) H) ∨ ∃ a, xs = [.str a] ∧ Q (.str a) H) (f1 strC) := by
  have h := calls1 (C := C) (r := fun x H Q => (∃ i, x = .int i ∧ i.natAbs.log2 < 1920 ∧ Q (.str (toString i)) H) ∨ ∃ a, x = .str a ∧ Q (.str a) H) (g := strC) ?_
  · intro B hB σ ρ st H xs as c Q rel rx e q
    obtain ⟨x, rfl, ⟨i, rfl, h⟩ | ⟨k, rfl, h⟩⟩ := h B hB σ ρ st H xs as c Q rel rx e q
    · exact .inl ⟨i, rfl, h⟩
    · exact .inr ⟨k, rfl, h⟩
  · intro B hB σ ρ st H ka x a c Q rel rx e q
    cases a <;> try (cases e; done)
    · rename_i i
      simp only [strC] at e
      split at e
      · rename_i hi
        cases e
        obtain rfl := rx.int
        exact .inl ⟨i, rfl, hi, ansF (d := .str (toString i)) rfl rel q⟩
      · cases e
    · rename_i s
      cases e
      obtain rfl := rx.str
      exact .inr ⟨s, rfl, ansF (d := .str s) rfl rel q⟩
def strItems (s : Str) : List DV := s.cps.toList.map fun c => DV.str ⟨#[c]⟩
def strItemsV (s : Str) : List V := s.cps.toList.map fun c => V.str ⟨#[c]⟩
theorem strItems_rep {C : RC} {ρ : List CellA} {A : Addr → Prop} {H : Hp} (s : Str) : RepL C ρ A H (strItemsV s) (strItems s) := by
  unfold strItemsV strItems
  induction s.cps.toList with
  | nil => exact .nil
  | cons c cs ih => exact .cons (.str _) ih
def listC : DV → Option (DV × Kd)
  | .str s => if s.cps.size ≤ sizeLine then some (.lst (strItems s), .new) else none
  | .lst ds => some (.lst ds, .new)
  | .tup ds => some (.lst ds, .new)
  | _ => none
def rListStr : List V → Hp → VK → Prop := fun xs H Q => ∃ s, xs = [.str s] ∧ s.cps.size ≤ sizeLine ∧ ∀ l, H l = none → Q (.ref l) (upd H l (.lst (strItemsV s)))
theorem items_vals : ∀ (cs : List Nat) (acc : List Value), acc.length = cs.length → (∀ (j : Nat) (v : Value), acc[j]? = some v → ∃ (c : Nat) (u : Tok), cs[j]? = some c ∧ v = Value.str ⟨#[c]⟩ u) → Vals (cs.map fun c => V.str ⟨#[c]⟩) acc
  | [], [], _, _ => .nil
  | [], _ :: _, h, _ => by cases h
  | _ :: _, [], h, _ => by cases h
  | c :: cs, v :: acc, h, hv => by
    refine .cons ?_ (items_vals cs acc (by simpa using h) fun j w hw => ?_)
    · obtain ⟨c', u, h1, h2⟩ := hv 0 v rfl
      cases h1
      exact ⟨u, h2⟩
    · obtain ⟨c', u, h1, h2⟩ := hv (j + 1) w (by simpa using hw)
      exact ⟨c', u, by simpa using h1, h2⟩
theorem call_listStr {X : Cx} (hc : X.calm = true) : CallR X (.type "list") rListStr := by
  intro pins s σ H xs us Q I r h
  obtain ⟨x, rfl, hz, q⟩ := h
  cases r with
  | cons r rr =>
    cases rr
    obtain ⟨t, rfl⟩ := r
    refine PySem.call_list_str (I.ok.hd hc) x t (fun h' tk acc' c' kp e it => ?_) hz
    refine ⟨.ref s.heap.objs.size, _, I.laid (t' := tk) kp (Nat.le_refl _) (show ObjOk X.prog X.w _ h' _ (.lst (strItemsV x)) from ⟨by simpa [strItemsV] using hz, acc'.toList, c', ?_, by simpa using e⟩), rfl, q _ (I.hok.fresh (Nat.le_refl _))⟩
    refine items_vals x.cps.toList acc'.toList (by simpa using it.1) fun j v hv => ?_
    obtain ⟨c, u, h1, h2⟩ := it.2 j v (by rw [← Array.getElem?_toList]; exact hv)
    exact ⟨c, u, by rw [Array.getElem?_toList]; exact h1, h2⟩
def rListOf (K : PySem.W.Frag) : List V → Hp → VK → Prop := fun xs H Q => ∃ p ys, xs = [.ref p] ∧ (SqL K H p ys ∨ SqT K H p ys) ∧ ∀ l, H l = none → Q (.ref l) (upd H l (.lst ys))
theorem s_list {C : RC} : CallS C (fun xs H Q => rListOf C.K xs H Q ∨ rListStr xs H Q) (f1 listC) := by
  have h := calls1 (C := C) (r := fun x H Q => rListOf C.K [x] H Q ∨ rListStr [x] H Q) (g := listC) ?_
  · intro B hB σ ρ st H xs as c Q rel rx e q
    obtain ⟨x, rfl, h⟩ := h B hB σ ρ st H xs as c Q rel rx e q
    exact h
  · intro B hB σ ρ st H ka x a c Q rel rx e q
    subst hB
    cases a <;> try (cases e; done)
    · rename_i s
      simp only [listC] at e
      split at e
      · rename_i hs
        cases e
        obtain rfl := rx.str
        exact .inr ⟨s, rfl, hs, fun l hl => q _ _ (Step.alloc rel hl) (RepK.newLst rel hl (strItems_rep s)) fun m em => by cases em; exact hl⟩
      · cases e
    · rename_i ds
      cases e
      obtain ⟨p, vs, rfl, e1, r1⟩ := rx.lst
      exact .inl ⟨p, vs, rfl, .inl (.inl (.inl e1)), fun l hl => q _ _ (Step.alloc rel hl) (RepK.newLst rel hl r1) fun m em => by cases em; exact hl⟩
    · rename_i ds
      cases e
      obtain ⟨p, vs, rfl, e1, r1⟩ := rx.tup
      exact .inl ⟨p, vs, rfl, .inr e1, fun l hl => q _ _ (Step.alloc rel hl) (RepK.newLst rel hl r1) fun m em => by cases em; exact hl⟩
def tupleC : DV → Option (DV × Kd)
  | .lst ds => some (.tup ds, .fro)
  | .tup ds => some (.tup ds, .fro)
  | _ => none
theorem s_tuple {C : RC} : CallS C (fun xs H Q => ∃ p ys, xs = [.ref p] ∧ ((SqL C.K H p ys ∧ ∀ l, H l = none → Q (.ref l) (upd H l (.tup ys))) ∨ (SqT C.K H p ys ∧ Q (.ref p) H))) (f1 tupleC) := by
  have h := calls1 (C := C) (r := fun x H Q => ∃ p ys, x = .ref p ∧ ((SqL C.K H p ys ∧ ∀ l, H l = none → Q (.ref l) (upd H l (.tup ys))) ∨ (SqT C.K H p ys ∧ Q (.ref p) H))) (g := tupleC) ?_
  · intro B hB σ ρ st H xs as c Q rel rx e q
    obtain ⟨x, rfl, p, ys, rfl, h⟩ := h B hB σ ρ st H xs as c Q rel rx e q
    exact ⟨p, ys, rfl, h⟩
  · intro B hB σ ρ st H ka x a c Q rel rx e q
    subst hB
    cases a <;> try (cases e; done)
    · rename_i ds
      cases e
      obtain ⟨p, vs, rfl, e1, r1⟩ := rx.lst
      exact ⟨p, vs, rfl, .inl ⟨.inl (.inl e1), fun l hl => q _ _ (Step.alloc rel hl) (Rep.newTup rel hl r1) trivial⟩⟩
    · rename_i ds
      cases e
      have wx := Rep.ofSqt (C := B.C) (A := Av ρ B.O st σ) rx
      obtain ⟨p, vs, rfl, e1, r1⟩ := rx.tup
      exact ⟨p, vs, rfl, .inr ⟨e1, q _ _ (.refl rel) wx trivial⟩⟩

/-! ### repr -/
def reprD : DV → Option (DV × Kd)
  | .dct [] [] => some (.str "{}", .new)
  | d => match toP d with
    | some p => if p.showable && decide (p.shown.length ≤ sizeLine) && decide (p.depth ≤ 64) then some (.str p.shown, .new) else none
    | none => none
theorem reprD_eq {d : DV} (h : toP d ≠ none) : reprD d = match toP d with
    | some p => if p.showable && decide (p.shown.length ≤ sizeLine) && decide (p.depth ≤ 64) then some (.str p.shown, .new) else none
    | none => none := by
  unfold reprD
  split
  · exact absurd rfl h
  · rfl
end D

/-! D: repr, isinstance, the call of a built-in by its name. -/
namespace D
open PySem L2 PyProof.Rows

/-! ### repr -/
mutual
theorem toP_noDict : ∀ (d : DV) (p : PyData), toP d = some p → p.hasDict = false
  | .non, p, h => by cases h; rfl
  | .bl b, p, h => by cases h; rfl
  | .int i, p, h => by cases h; rfl
  | .str s, p, h => by cases h; rfl
  | .lst ds, p, h => by
    cases e : toPs ds with
    | none => simp [toP, e] at h
    | some ps => simp [toP, e] at h; subst h; rw [PyData.hasDict]; exact toPs_noDict ds ps e
  | .tup ds, p, h => by
    cases e : toPs ds with
    | none => simp [toP, e] at h
    | some ps => simp [toP, e] at h; subst h; rw [PyData.hasDict]; exact toPs_noDict ds ps e
  | .dct _ _, p, h => by cases h
  | .set _, p, h => by cases h
  | .ins _ _ _, p, h => by cases h
  | .exc _ _ _, p, h => by cases h
  | .scr _, p, h => by cases h
  | .cel _, p, h => by cases h
  | .ty _, p, h => by cases h
  | .cls _, p, h => by cases h
theorem toPs_noDict : ∀ (ds : List DV) (ps : List PyData), toPs ds = some ps → PyData.hasDictAll ps = false
  | [], ps, h => by cases h; rfl
  | d :: ds, ps, h => by
    cases e1 : toP d with
    | none => simp [toPs, e1] at h
    | some p =>
      cases e2 : toPs ds with
      | none => simp [toPs, e1, e2] at h
      | some qs =>
        simp [toPs, e1, e2] at h
        subst h
        rw [PyData.hasDictAll, toP_noDict d p e1, toPs_noDict ds qs e2]
        rfl
end
def rRepr (K : PySem.W.Frag) : List V → Hp → VK → Prop := fun xs H Q => ∃ x p, xs = [x] ∧ Dp K H x p ∧ p.hasDict = false ∧ p.showable = true ∧ p.shown.length ≤ sizeLine ∧ p.depth ≤ 64 ∧ Q (.str p.shown) H
theorem call_repr0 {X : Cx} (hg : X.A.guards = some []) (hu : X.A.units + 65 < cLine) : CallR X (.builtin "repr") (rRepr X.K) := by
  intro pins s σ H xs us Q I r h
  obtain ⟨x, p, rfl, dp, hd, hs, hl, hdp, q⟩ := h
  obtain ⟨u, rfl, ru⟩ := vals1 r
  cases dp with
  | non =>
    cases ru
    exact P.repr_of_none ⟨.str _, H, I.tok _, ⟨_, rfl⟩, q⟩
  | bl b =>
    cases ru
    exact P.repr_of_bool ⟨.str _, H, I.tok _, ⟨_, rfl⟩, q⟩
  | int i =>
    obtain ⟨t, rfl⟩ := ru
    exact P.repr_of_int (of_decide_eq_true hs) ⟨.str _, H, I.tok _, ⟨_, rfl⟩, q⟩
  | str z =>
    obtain ⟨t, rfl⟩ := ru
    exact P.repr_of_str ⟨.str _, H, I.tok _, ⟨_, rfl⟩, q⟩ hl
  | lst h1 h2 =>
    obtain ⟨as, rd⟩ := Dp.reads I _ _ u (.lst h1 h2) ru
    cases ru
    exact repr_of_reads' rd hs (PyData.noDict_hsm hd) hg (by omega) (fun _ _ e => e) (fun h' v tk hk => ⟨.str _, H, I.kept (t' := tk) hk, ⟨_, rfl⟩, q⟩) hl
  | tup h1 h2 =>
    obtain ⟨as, rd⟩ := Dp.reads I _ _ u (.tup h1 h2) ru
    cases ru
    exact repr_of_reads' rd hs (PyData.noDict_hsm hd) hg (by omega) (fun _ _ e => e) (fun h' v tk hk => ⟨.str _, H, I.kept (t' := tk) hk, ⟨_, rfl⟩, q⟩) hl
/-- the same, and an empty dict -/
def rReprE (K : PySem.W.Frag) : List V → Hp → VK → Prop := fun xs H Q => (∃ x p, xs = [x] ∧ Dp K H x p ∧ p.hasDict = false ∧ p.showable = true ∧ p.shown.length ≤ sizeLine ∧ p.depth ≤ 64 ∧ Q (.str p.shown) H) ∨ ∃ a, xs = [.ref a] ∧ Rd H a (.dK []) ∧ Q (.str "{}") H
theorem call_repr {X : Cx} (hg : X.A.guards = some []) (hu : X.A.units + 65 < cLine) : CallR X (.builtin "repr") (rReprE X.K) := by
  intro pins s σ H xs us Q I r h
  rcases h with h | ⟨a, rfl, hr, q⟩
  · exact call_repr0 hg hu _ _ _ _ _ _ _ I r h
  · obtain ⟨u, rfl, ru⟩ := vals1 r
    cases ru
    obtain ⟨_, hsys, vs, kv, o, es, ep, e1, e2, e3, _, e4, _⟩ := dk_rd I.hok hr
    have hvs : vs = [] := by cases kv; rfl
    subst hvs
    have hes : es.toList = [] := by cases h4 : es.toList with
      | nil => rfl
      | cons x r => rw [h4] at e4; cases e4
    have rd : Reads s.heap (.ref a) (.dict []) (a :: [] ++ []) := Reads.dict e1 e2.1 e3 (by rw [hes]; exact .nil) (by rw [hes]; exact .nil)
    exact repr_of_reads' rd rfl (fun _ hm => by
      rw [List.append_nil, List.mem_singleton] at hm
      rw [← hm] at hsys
      simp at hsys) hg (by show X.A.units + (1 + 1) < cLine; omega) (fun _ _ e => e) (fun h' v tk hk => ⟨.str _, H, I.kept (t' := tk) hk, ⟨_, rfl⟩, q⟩) (by decide +kernel)
theorem s_repr {C : RC} : CallS C (rReprE C.K) (f1 reprD) := by
  have h := calls1 (C := C) (r := fun x H Q => (∃ p, Dp C.K H x p ∧ p.hasDict = false ∧ p.showable = true ∧ p.shown.length ≤ sizeLine ∧ p.depth ≤ 64 ∧ Q (.str p.shown) H) ∨ ∃ a, x = .ref a ∧ Rd H a (.dK []) ∧ Q (.str "{}") H) (g := reprD) ?_
  · intro B hB σ ρ st H xs as c Q rel rx e q
    obtain ⟨x, rfl, h⟩ := h B hB σ ρ st H xs as c Q rel rx e q
    rcases h with ⟨p, h⟩ | ⟨a, rfl, h⟩
    · exact .inl ⟨x, p, rfl, h⟩
    · exact .inr ⟨a, rfl, h⟩
  · intro B hB σ ρ st H ka x a c Q rel rx e q
    subst hB
    unfold reprD at e
    split at e
    · cases e
      obtain ⟨p, vs, rfl, hr, _⟩ := rx.dct
      exact .inr ⟨p, rfl, .inl hr, ansF (d := .str "{}") rfl rel q⟩
    · split at e
      · rename_i p hp
        split at e
        · rename_i hc
          cases e
          rw [Bool.and_eq_true, Bool.and_eq_true, decide_eq_true_iff, decide_eq_true_iff] at hc
          exact .inl ⟨p, rx.dp hp, toP_noDict a p hp, hc.1.1, hc.1.2, hc.2, ansF (d := .str p.shown) rfl rel q⟩
        · cases e
      · cases e

/-! ### isinstance -/
def tyName : DV → Option String
  | .non => some "NoneType" | .bl _ => some "bool" | .int _ => some "int" | .str _ => some "str" | .lst _ => some "list" | .tup _ => some "tuple" | .dct _ _ => some "dict" | .scr _ => some "list" | _ => none
def kinds : List String := ["NoneType", "bool", "int", "str", "list", "tuple", "dict"]
def tested : List String := ["int", "bool", "str", "list", "tuple", "dict", "ValueError"]
def isiTab (m n : String) : Option Bool := if tested.contains n then some (m == n || (m == "bool" && n == "int")) else none
theorem isiTab_ok : ∀ m ∈ kinds, ∀ n ∈ tested, kitB m n = some (m == n || (m == "bool" && n == "int")) := by decide +kernel
theorem tyName_in {d : DV} {m : String} (h : tyName d = some m) : m ∈ kinds := by
  cases d <;> first | (cases h; done) | (cases h; decide)
/-- the own classes: plain ones, exceptions, which exception class is below which -/
structure CT where
  ins : List Nat
  ex : List Nat
  sub : Nat → Nat → Bool
  pl : List Nat
  fi : List (Nat × Str)
  fe : List (Nat × Str)
/-- what isinstance asks of the own classes -/
structure KitC (C : RC) (ct : CT) : Prop where
  cls : ∀ c ∈ ct.ins, Cls C.K (C.cls c)
  ha : ∀ c ∈ ct.ins ++ ct.ex, PySem.W.findIn C.K (.ref (C.cls c)) "__class__" = some (some (.builtin "object.__class__"))
  hn : ∀ c ∈ ct.ins ++ ct.ex, PySem.W.specialIn C.K (.builtin "object.__class__") "__get__" = some (some (.builtin "getset_descriptor.__get__"))
  tk : ∀ c ∈ ct.ins ++ ct.ex, PySem.W.takesIn C.K (.builtin "object.__class__") = some true
  mr : ∀ c ∈ ct.ins ++ ct.ex, PySem.W.mroIn C.K (C.cls c) (.type "object") = some true
  tc : ∀ c ∈ ct.ins ++ ct.ex, ∀ T ∈ kinds, PySem.W.kitOne C.K (.type T) (.ref (C.cls c)) = some false
  tt : ∀ c ∈ ct.ins ++ ct.ex, ∀ T ∈ tested, PySem.W.kitOne C.K (.ref (C.cls c)) (.type T) = some (decide (T = "ValueError") && ct.ex.contains c)
  cc : ∀ c ∈ ct.ins, ∀ c' ∈ ct.ins, PySem.W.kitOne C.K (.ref (C.cls c)) (.ref (C.cls c')) = some (decide (c = c'))
  ce : ∀ c ∈ ct.ins, ∀ c' ∈ ct.ex, PySem.W.kitOne C.K (.ref (C.cls c)) (.ref (C.cls c')) = some false
  ec : ∀ c ∈ ct.ex, ∀ c' ∈ ct.ins, PySem.W.kitOne C.K (.ref (C.cls c)) (.ref (C.cls c')) = some false
  ee : ∀ c ∈ ct.ex, ∀ c' ∈ ct.ex, PySem.W.kitOne C.K (.ref (C.cls c)) (.ref (C.cls c')) = some (ct.sub c c')
  ek : ∀ c ∈ ct.ex, ∀ c' ∈ ct.ex, PySem.W.exmOne C.K (.ref (C.cls c)) (.ref (C.cls c')) = some (ct.sub c c')
  xs : ∀ c ∈ ct.ex, (PySem.W.clsIn C.K (C.cls c)).isSome = true
  xa : ∀ c ∈ ct.ex, PySem.W.findIn C.K (.ref (C.cls c)) "__getattribute__" = some (some (.builtin "BaseException.__getattribute__"))
  xg : ∀ c ∈ ct.ex, PySem.W.findIn C.K (.ref (C.cls c)) "__getattr__" = some none
  xb : ∀ c ∈ ct.ex, PySem.W.subIn C.K (.ref (C.cls c)) (.type "BaseException") = some true
  xd : ∀ c ∈ ct.ex, PySem.W.hasDictIn C.K (C.cls c) = true
  xt : ∀ c ∈ ct.ex, PySem.W.typeIn C.K (.ref (C.cls c)) = some (.type "type")
  xk : ∀ c ∈ ct.ex, PySem.W.keepIn C.K (.ref (C.cls c)) = true
  xq : ∀ c ∈ ct.pl, c ∈ ct.ex ∧ PySem.W.excIn C.K (C.cls c) [.type "ValueError", .type "Exception", .type "BaseException", .type "object"] "ValueError.__new__" = true
  nf : ∀ p ∈ ct.fi, p.1 ∈ ct.ins ∧ NoAttr C.K (C.cls p.1) p.2
  nx : ∀ p ∈ ct.fe, p.1 ∈ ct.ex ∧ PySem.W.findIn C.K (.ref (C.cls p.1)) p.2 = some none
/-- the number of an own class's thing -/
def ownN : DV → Option Nat
  | .ins c _ _ => some c
  | .exc c _ _ => some c
  | _ => none
/-- the class's number, told by its list -/
def ownOf (ct : CT) : DV → Option Nat
  | .ins c _ _ => if ct.ins.contains c then some c else none
  | .exc c _ _ => if ct.ex.contains c then some c else none
  | _ => none
/-- one class: a type, an own class -/
def isi1 (ct : CT) (d : DV) : DV → Option Bool
  | .ty n => if tested.contains n then (match ownOf ct d with
    | some c => some (decide (n = "ValueError") && ct.ex.contains c)
    | none => match tyName d with
      | some m => isiTab m n
      | none => none) else none
  | .cls k => if (ct.ins ++ ct.ex).contains k then (match ownOf ct d with
    | some c => (match ct.ex.contains c, ct.ex.contains k with
      | true, true => some (ct.sub c k)
      | true, false => some false
      | false, true => some false
      | false, false => some (decide (c = k)))
    | none => (tyName d).map fun _ => false) else none
  | _ => none
def isiAny (ct : CT) (d : DV) : List DV → Option Bool
  | [] => some false
  | t :: ts => match isi1 ct d t with
    | some true => some true
    | some false => isiAny ct d ts
    | none => none
/-- the type's value of a deep value -/
def tyV' (C : RC) (d : DV) : Value := match ownN d with
  | some c => .ref (C.cls c)
  | none => match tyName d with
    | some m => .type m
    | none => .none
def clsV (C : RC) : DV → Value
  | .ty n => .type n
  | .cls k => .ref (C.cls k)
  | _ => .none
section
variable {C : RC} {ct : CT}
theorem ownOf_in {d : DV} {c : Nat} (h : ownOf ct d = some c) : ownN d = some c ∧ c ∈ ct.ins ++ ct.ex := by
  cases d <;> try (cases h; done)
  · simp only [ownOf] at h
    split at h
    · rename_i hc; cases h; exact ⟨rfl, List.mem_append_left _ (List.contains_iff_mem.mp hc)⟩
    · cases h
  · simp only [ownOf] at h
    split at h
    · rename_i hc; cases h; exact ⟨rfl, List.mem_append_right _ (List.contains_iff_mem.mp hc)⟩
    · cases h
theorem tyV_own {d : DV} {c : Nat} (h : ownOf ct d = some c) : tyV' C d = .ref (C.cls c) := by unfold tyV'; rw [(ownOf_in h).1]
theorem tyV_ty {d : DV} {m : String} (h : tyName d = some m) : tyV' C d = .type m := by
  have e : ownN d = none := by cases d <;> first | rfl | cases h
  unfold tyV'; rw [e]; simp only [h]
theorem notEx {c : Nat} (h : c ∈ ct.ins ++ ct.ex) (hx : ct.ex.contains c = false) : c ∈ ct.ins := by
  rcases List.mem_append.mp h with z | z
  · exact z
  · rw [List.contains_iff_mem.mpr z] at hx; cases hx
theorem isi1_ok (kc : KitC C ct) {d t : DV} {k : Bool} (h : isi1 ct d t = some k) : PySem.W.kitOne C.K (tyV' C d) (clsV C t) = some k := by
  unfold isi1 at h
  split at h
  · rename_i n
    split at h
    · rename_i hn
      rw [List.contains_iff_mem] at hn
      cases ho : ownOf ct d with
      | some c =>
        rw [ho] at h
        cases h
        rw [tyV_own ho]
        exact kc.tt c (ownOf_in ho).2 n hn
      | none =>
        rw [ho] at h
        dsimp only at h
        cases hm : tyName d with
        | none => rw [hm] at h; cases h
        | some m =>
          rw [hm] at h
          dsimp only at h
          unfold isiTab at h
          rw [if_pos (List.contains_iff_mem.mpr hn)] at h
          cases h
          rw [tyV_ty hm]
          exact kit_ty (isiTab_ok m (tyName_in hm) n hn)
    · cases h
  · rename_i k'
    split at h
    · rename_i hk
      rw [List.contains_iff_mem] at hk
      cases ho : ownOf ct d with
      | some c =>
        rw [ho] at h
        rw [tyV_own ho]
        have hc := (ownOf_in ho).2
        dsimp only at h
        cases h1 : ct.ex.contains c <;> cases h2 : ct.ex.contains k' <;> rw [h1, h2] at h <;> cases h
        · exact kc.cc c (notEx hc h1) k' (notEx hk h2)
        · exact kc.ce c (notEx hc h1) k' (List.contains_iff_mem.mp h2)
        · exact kc.ec c (List.contains_iff_mem.mp h1) k' (notEx hk h2)
        · exact kc.ee c (List.contains_iff_mem.mp h1) k' (List.contains_iff_mem.mp h2)
      | none =>
        rw [ho] at h
        dsimp only at h
        cases hm : tyName d with
        | none => rw [hm] at h; cases h
        | some m =>
          rw [hm] at h
          cases h
          rw [tyV_ty hm]
          exact kc.tc k' hk m (tyName_in hm)
    · cases h
  · cases h
theorem isiAny_ok (kc : KitC C ct) {d : DV} {k : Bool} : ∀ {ts : List DV}, isiAny ct d ts = some k → PySem.W.kitAny C.K (tyV' C d) (ts.map (clsV C)) = some k
  | [], h => by cases h; rfl
  | t :: ts, h => by
    unfold isiAny at h
    rw [List.map_cons]
    unfold PySem.W.kitAny
    cases e : isi1 ct d t with
    | none => rw [e] at h; cases h
    | some b =>
      rw [e] at h
      rw [isi1_ok kc e]
      cases b with
      | true => exact h
      | false => exact isiAny_ok kc h
/-- a thing that isinstance answers for -/
def isiable (ct : CT) (d : DV) : Bool := (ownOf ct d).isSome || (tyName d).isSome
theorem isi1_able {d t : DV} {k : Bool} (h : isi1 ct d t = some k) : isiable ct d = true := by
  unfold isi1 at h
  unfold isiable
  split at h
  · split at h
    · cases ho : ownOf ct d with
      | some c => rfl
      | none =>
        rw [ho] at h
        cases hm : tyName d with
        | some m => rfl
        | none => rw [hm] at h; cases h
    · cases h
  · split at h
    · cases ho : ownOf ct d with
      | some c => rfl
      | none =>
        rw [ho] at h
        cases hm : tyName d with
        | some m => rfl
        | none => rw [hm] at h; cases h
    · cases h
  · cases h
/-- what isinstance asks a value -/
inductive TyZ (C : RC) (ct : CT) (H : Hp) : V → Value → Prop where
  | base {x : V} {t : Value} (h : TyX C.K H x t) : TyZ C ct H x t
  | exc {a : Addr} {c : Nat} {d : Option Addr} (e : H a = some (XO (.ref (C.cls c)) d a)) (hd : d = none ∨ ∃ dd fs, d = some dd ∧ H dd = some (.xd fs)) (hc : c ∈ ct.ex) : TyZ C ct H (.ref a) (.ref (C.cls c))
theorem kit_ofZ {X : Cx} {pins : List (Addr × Obj)} {σ : L2.St} {H : Hp} {s : Shared} {x : V} {u t : Value} (hC : C.K = X.K) (kc : KitC C ct) (I : L2.Inv X pins σ H s) (rx : RelV x u) (ty : TyZ C ct H x t) :
    ∃ P : Heap → Prop, PySem.W.KitX X.K u t P ∧ P s.heap ∧ u ≠ .builtin "__main__.__loader__#opaque" := by
  cases ty with
  | base h => rw [hC] at h; exact kit_of I rx h
  | @exc a c d e hd hc =>
    cases (show u = Value.ref a from rx)
    obtain ⟨⟨oe, vs, h1, hz, h2⟩, _, _⟩ := I.hok a _ e
    have hc' := List.mem_append_right ct.ins hc
    have no : PySem.W.notCls oe = true := by unfold PySem.W.notCls; rw [h2]
    have k : ∀ od, PySem.W.KitX X.K (.ref a) (.ref (C.cls c)) (fun h => PySem.W.InstAt h a oe (C.cls c) od) := fun od => PySem.W.kitx_exc (by rw [← hC]; exact kc.xs c hc) (by rw [← hC]; exact kc.xa c hc) (by rw [← hC]; exact kc.xg c hc) (by rw [← hC]; exact kc.xb c hc) (by rw [← hC]; exact kc.ha c hc') (by rw [← hC]; exact kc.hn c hc') (by rw [← hC]; exact kc.tk c hc') (by rw [← hC]; exact kc.mr c hc')
    rcases hd with rfl | ⟨dd, fs, rfl, hx⟩
    · exact ⟨_, k none, ⟨h1, hz.1, no, by rw [hz.2]; trivial⟩, fun z => nomatch z⟩
    · obtain ⟨mA, hns, _⟩ := I.hok dd _ hx
      obtain ⟨od, ho, _⟩ := lookIn_ns hns
      exact ⟨_, k (some od), ⟨h1, hz.1, no, by rw [hz.2]; exact ho⟩, fun z => nomatch z⟩
/-- isinstance by classes: one, a new tuple of them, a written one -/
def rIsZ (C : RC) (ct : CT) : List V → Hp → VK → Prop := fun xs H Q => ∃ (x y : V) (t : Value) (b : Bool), xs = [x, y] ∧ TyZ C ct H x t ∧ Q (.bl b) H ∧
  ((∃ u, ClsV y u ∧ PySem.W.kitOne C.K t u = some b) ∨ (∃ tp cs us, y = .ref tp ∧ H tp = some (.tup cs) ∧ Paired ClsV cs us ∧ PySem.W.kitAny C.K t us = some b) ∨
    ∃ tp dd us n sl, y = .ref tp ∧ C.K.lookup tp = some ⟨.type "tuple", dd, .seq (List.toArray us) n, sl⟩ ∧ PySem.W.kitAny C.K t us = some b)
theorem call_isZ {X : Cx} (hC : C.K = X.K) (kc : KitC C ct) : CallR X (.builtin "isinstance") (rIsZ C ct) := fun pins s σ H xs us Q I r h => by
  obtain ⟨x, y, t, b, rfl, ty, q, h⟩ := h
  obtain ⟨u1, u2, rfl, r1, r2⟩ := vals2 r
  obtain ⟨P, Z, p, hx⟩ := kit_ofZ hC kc I r1 ty
  have done : ∀ tk, EP X pins σ Q (.bool b) { s with toks := tk } := fun tk => ⟨.bl b, H, I.tok tk, rfl, q⟩
  rcases h with ⟨u, k, e⟩ | ⟨tp, cs, ws, rfl, hT, k, e⟩ | ⟨tp, dd, ws, n, sl, rfl, hk, e⟩
  · obtain rfl := k.eq r2
    rw [hC] at e
    exact PySem.W.kia_one Z I.kIn p e hx done
  · cases (show u2 = Value.ref tp from r2)
    obtain ⟨_, its, rv, ⟨oc, od, dt, sl⟩, h1, h2, n, h3⟩ := (show ObjOk X.prog X.w H s.heap tp (.tup cs) from I.hok tp _ hT)
    obtain rfl := ClsV.all k rv
    dsimp only at h2 h3
    subst h2 h3
    rw [hC] at e
    exact PySem.W.kia_tup Z I.kIn p h1 e hx done
  · cases (show u2 = Value.ref tp from r2)
    rw [hC] at e hk
    exact PySem.W.kia_tup Z I.kIn p (I.kIn _ _ hk) e hx done
theorem tyx_scr {ρ : List CellA} {A : Addr → Prop} {H : Hp} {x : V} {ns : List Int} (r : Rep C ρ A H x (.scr ns)) : TyX C.K H x (.type "list") := by
  cases r with
  | scr n e => exact .base (.frz e)
  | kscr k =>
    obtain ⟨o, its, n, e1, e2, _⟩ := k
    exact .kList e1 e2
theorem tyx_of {B : BC} (hB : B.C = C) (kc : KitC C ct) {σ : L2.St} {ρ : List CellA} {st : DS} {H : Hp} {kd : Kd} {x : V} {d : DV} (h : isiable ct d = true) (r : RepK B ρ st σ H kd x d) : TyZ C ct H x (tyV' C d) := by
  subst hB
  cases d <;> try (cases h; done)
  · obtain rfl := r.non; exact .base (.base .non)
  · obtain rfl := r.bl; exact .base (.base (.bl _))
  · obtain rfl := r.int; exact .base (.base (.int _))
  · obtain rfl := r.str; exact .base (.base (.str _))
  · obtain ⟨p, vs, rfl, e, _⟩ := r.lst; exact .base (.base (.lst e))
  · obtain ⟨p, vs, rfl, e, _⟩ := r.tup
    rcases e with (e | ⟨o, e⟩) | ⟨o, its, n, e1, e2, _⟩
    · exact .base (.base (.tup e))
    · exact .base (.fTuple e)
    · exact .base (.kTuple e1 e2)
  · obtain ⟨p, vs, rfl, e, _⟩ := r.dct; exact .base (.base (.dK e))
  · rename_i c ns vs
    obtain ⟨p, dx, xs, rfl, e, _⟩ := r.ins
    have hc : c ∈ ct.ins := by
      simp only [isiable, ownOf, tyName] at h
      split at h
      · rename_i z; exact List.contains_iff_mem.mp z
      · cases h
    have hc' := List.mem_append_left ct.ex hc
    exact .base (.base (.ins e (kc.cls c hc) (kc.ha c hc') (kc.hn c hc') (kc.tk c hc') (kc.mr c hc')))
  · rename_i c ns vs
    have hc : c ∈ ct.ex := by
      simp only [isiable, ownOf, tyName] at h
      split at h
      · rename_i z; exact List.contains_iff_mem.mp z
      · cases h
    have r' : Rep B.C ρ (Av ρ B.O st σ) H x (.exc c ns vs) := by
      cases kd with
      | view i => obtain ⟨p, rfl, _, c, _⟩ := r; cases c
      | fro => exact r
      | new => exact r.1
    cases r' with
    | exc n e n2 e2 l r => exact .exc e (.inr ⟨_, _, rfl, e2⟩) hc
    | exc0 n e => exact .exc e (.inl rfl) hc
  · cases kd with
    | view i => obtain ⟨p, rfl, _, c, _⟩ := r; cases c
    | fro => exact .base (tyx_scr (show Rep _ _ _ _ _ _ from r))
    | new => exact .base (tyx_scr (show Rep _ _ _ _ _ _ from r.1))
theorem clsv_of {ρ : List CellA} {A : Addr → Prop} {H : Hp} {v : V} {t : DV} (h : ∃ d k, isi1 ct d t = some k) (r : Rep C ρ A H v t) : ClsV v (clsV C t) := by
  obtain ⟨d, k, h⟩ := h
  cases t <;> try (cases h; done)
  · cases r; exact .ty _
  · cases r; exact .own _
end
theorem clsvs_of {C : RC} {ct : CT} {ρ : List CellA} {A : Addr → Prop} {H : Hp} : ∀ {vs : List V} {ts : List DV}, RepL C ρ A H vs ts → (∀ t ∈ ts, ∃ d k, isi1 ct d t = some k) → Paired ClsV vs (ts.map (clsV C))
  | _, _, .nil, _ => .nil
  | _, _, .cons r t, h => .cons (clsv_of (h _ List.mem_cons_self) r) (clsvs_of t fun u hu => h u (List.mem_cons_of_mem _ hu))
def isCls (ct : CT) : DV → Bool
  | .ty n => tested.contains n
  | .cls k => (ct.ins ++ ct.ex).contains k
  | _ => false
theorem isCls_ok {ct : CT} {t : DV} (h : isCls ct t = true) : ∃ d k, isi1 ct d t = some k := by
  cases t <;> try (cases h; done)
  · rename_i n
    refine ⟨.non, ("NoneType" == n || ("NoneType" == "bool" && n == "int")), ?_⟩
    have h : tested.contains n = true := h
    simp only [isi1, h, if_true, ownOf, tyName, isiTab]
  · rename_i k
    refine ⟨.non, false, ?_⟩
    have h : (ct.ins ++ ct.ex).contains k = true := h
    simp only [isi1, h, if_true, ownOf, tyName, Option.map_some]
/-- isinstance(a, t) -/
def isiR (ct : CT) (a t : DV) : Option (DV × Kd) := match t with
  | .tup ts => if ts.all (isCls ct) && isiable ct a then (isiAny ct a ts).map fun k => (.bl k, .new) else none
  | t => (isi1 ct a t).map fun k => (.bl k, .new)
theorem s_isi {C : RC} {ct : CT} (kc : KitC C ct) : CallS C (rIsZ C ct) (f2 (isiR ct)) := by
  have h := calls2 (C := C) (r := fun x y H Q => rIsZ C ct [x, y] H Q) (g := isiR ct) ?_
  · intro B hB σ ρ st H xs as c Q rel rx e q
    obtain ⟨x, y, rfl, h⟩ := h B hB σ ρ st H xs as c Q rel rx e q
    exact h
  · intro B hB σ ρ st H ka kb x y a t c Q rel rx ry e q
    by_cases ht : ∃ ts, t = .tup ts
    · obtain ⟨ts, rfl⟩ := ht
      simp only [isiR] at e
      split at e
      · rename_i hc
        rw [Bool.and_eq_true] at hc
        cases h : isiAny ct a ts with
        | none => rw [h] at e; cases e
        | some k =>
          rw [h] at e
          cases e
          subst hB
          have hall : ∀ t ∈ ts, ∃ d k, isi1 ct d t = some k := fun t ht => isCls_ok (List.all_eq_true.mp hc.1 t ht)
          have rt := Rep.ofSqt (C := B.C) (A := Av ρ B.O st σ) ry
          refine ⟨x, y, _, k, rfl, tyx_of rfl kc hc.2 rx, ansF (d := .bl k) rfl rel q, .inr ?_⟩
          cases rt with
          | @tup p xs _ n e2 r2 => exact .inl ⟨p, xs, _, rfl, e2, clsvs_of r2 hall, isiAny_ok kc h⟩
          | @ktup p xs _ hk r2 =>
            obtain ⟨⟨oc, od, dt, sl⟩, its, n, h1, h2, h3, h4, h5⟩ := hk
            have e5 : its.toList = ts.map (clsV B.C) := ClsV.all (clsvs_of r2 hall) h5
            dsimp only at h2 h3
            subst h2 h3
            refine .inr ⟨p, od, ts.map (clsV B.C), n, sl, rfl, ?_, isiAny_ok kc h⟩
            rw [← e5]
            exact h1
      · cases e
    · have e' : (isi1 ct a t).map (fun k => (DV.bl k, Kd.new)) = some c := by cases t <;> first | exact e | exact absurd ⟨_, rfl⟩ ht
      clear e
      cases h : isi1 ct a t with
      | none => rw [h] at e'; cases e'
      | some k =>
        rw [h] at e'
        cases e'
        have rt : Rep B.C ρ (Av ρ B.O st σ) H y t := by
          cases kb with
          | fro => exact ry
          | new => exact ry.1
          | view i => obtain ⟨p, rfl, _, c, _⟩ := ry; cases t <;> first | (cases h; done) | cases c
        subst hB
        exact ⟨x, y, _, k, rfl, tyx_of rfl kc (isi1_able h) rx, ansF (d := .bl k) rfl rel q, .inl ⟨_, clsv_of ⟨a, k, h⟩ rt, isi1_ok kc h⟩⟩

/-! ### by name -/
def Blt.run (ct : CT) : Blt → OpN
  | .len => f1 lenD | .abs => f1 absD | .ord => f1 ordD | .isinstance => f2 (isiR ct) | .all => f1 allD | .any => f1 anyD | .sum => f1 sumD | .max => maxD | .min => minD | .repr => f1 reprD
  | .int => f1 intC | .bool => f1 boolC | .str => f1 strC | .list => f1 listC | .tuple => f1 tupleC
theorem Blt.ok {X : Cx} {C : RC} {ct : CT} (hC : C.K = X.K) (kc : KitC C ct) (hc : X.calm = true) (hg : X.A.guards = some []) (hu : X.A.units + 65 < cLine) (b : Blt) : ∃ r, CallR X b.val r ∧ CallS C r (b.run ct) := by
  cases b
  · exact ⟨_, L2.CallR.or call_len call_lenD, by rw [← hC]; exact s_len⟩
  · exact ⟨_, call_abs, s_abs⟩
  · exact ⟨_, call_ord, s_ord⟩
  · exact ⟨_, call_isZ hC kc, s_isi kc⟩
  · exact ⟨_, cr_all hc, by rw [← hC]; exact s_all⟩
  · exact ⟨_, cr_any hc, by rw [← hC]; exact s_any⟩
  · exact ⟨_, cr_sum hc, by rw [← hC]; exact s_sum⟩
  · exact ⟨_, L2.CallR.or (call_max2 hc) (cr_max hc), by rw [← hC]; exact s_max⟩
  · exact ⟨_, L2.CallR.or (call_min2 hc) (cr_min hc), by rw [← hC]; exact s_min⟩
  · exact ⟨_, call_repr hg hu, by rw [← hC]; exact s_repr⟩
  · exact ⟨_, call_int1, s_int⟩
  · exact ⟨_, call_bool1, s_bool⟩
  · exact ⟨_, L2.CallR.or call_str_int SkE.call_str_str, s_str⟩
  · exact ⟨_, L2.CallR.or call_list_of (call_listStr hc), by rw [← hC]; exact s_list⟩
  · exact ⟨_, call_tuple_of, by rw [← hC]; exact s_tuple⟩
section
variable {X : Cx} {B : BC} {W : WX} {e : Expr} {es : List Expr} {g : Ak} {pos p : Pos} {ct : CT}
theorem pd_blt (b : Blt) (hC : B.C.K = X.K) (kc : KitC B.C ct) (hc : X.calm = true) (hg : X.A.guards = some []) (hu : X.A.units + 65 < cLine) (hgl : Gl X b.name) (hm : X.mg b.name = none) (ha : PKD X B W (e :: es) g)
    (he : starEach (e :: es) X.env = (false, eval e X.env) :: starEach es X.env) (hpl : (backTo pos (starEach es X.env)).any (·.1) = false) : PD X B W (.Call (.Name b.name p) (e :: es) [] pos) (evCall (b.run ct) g) := by
  obtain ⟨r, h1, h2⟩ := b.ok hC kc hc hg hu
  have hv := b.boot
  unfold Blt.val at h1 hv
  cases ht : b.isTy with
  | true =>
    rw [ht, if_pos rfl] at h1 hv
    exact PE.mono (pe_callTy h1 hgl hm hv ha b.nn b.nd he hpl) fun _ _ _ h => tCB_of h2 h
  | false =>
    rw [ht, if_neg Bool.false_ne_true] at h1 hv
    exact PE.mono (pe_callB h1 hgl hm hv ha b.nn b.nd he hpl) fun _ _ _ h => tCB_of h2 h
end
end D

/-! D: what a def promises, its call. -/
namespace D
open PySem L2 PyProof.Rows

/-- a def as D sees it: deep arguments, the cells; its answer's state has no slots -/
abbrev Fn := List DV → DS → Out (DV × Kd)
def SpF (C : RC) (F : Fn) : Sp := fun vs H Q E => ∃ ρ cs ds O, Rel ⟨C, O, H⟩ ρ ⟨[], cs⟩ [] H ∧ RepL C ρ (Av ρ O ⟨[], cs⟩ []) H vs ds ∧
  Res ⟨C, O, H⟩ (fun cls d _ H' => E cls d H') [] ρ ⟨[], cs⟩ H (F ds ⟨[], cs⟩) fun a st' ρ' H' => st'.sl = [] ∧ ∀ v, Rep C ρ' (Av ρ' O st' []) H' v a.1 → (a.2 = .new → NewC ⟨C, O, H⟩ ρ' st' [] H' v a.1) → Fresh H a.2 v → Q v H'
/-- the promise, with the knowledge that no repr is under way -/
structure FnG (P : Program) (w : World) (K : PySem.W.Frag) (mg : Str → Option Value) (base : Heap) (k : Nat) (f : Addr) (fd : FuncData) (ps : List Str) (sp : Sp) : Prop where
  len : ∀ vs H Q E, sp vs H Q E → vs.length = ps.length
  run : ∀ (A : Around) (outer : List Env) (s : Shared) (H : Hp) (args : Args) (us : List Value) (vs : List V) (Q : VK) (E : XK), Room k A → A.guards = some [] → Env0 P w K mg base A outer s H → BindsTo s fd args (ps.zip us) → Vals vs us → sp vs H Q E →
    codeAny (model P w) A (.call (.ref f) args) (CR (L2.CX P w) outer P w H s Q E) s
theorem FnG.mono {P : Program} {w : World} {K : PySem.W.Frag} {mg : Str → Option Value} {base : Heap} {j k : Nat} {f : Addr} {fd : FuncData} {ps : List Str} {sp : Sp} (F : FnG P w K mg base j f fd ps sp) (h : j ≤ k) : FnG P w K mg base k f fd ps sp :=
  ⟨F.len, fun A outer s H args us vs Q E hr => F.run A outer s H args us vs Q E (hr.mono h)⟩
theorem FnG.of {P : Program} {w : World} {K : PySem.W.Frag} {mg : Str → Option Value} {base : Heap} {k : Nat} {f : Addr} {fd : FuncData} {ps : List Str} {sp : Sp} (F : FnOk P w K mg base (L2.CX P w) k f fd ps sp) : FnG P w K mg base k f fd ps sp :=
  ⟨F.len, fun A outer s H args us vs Q E hr _ => F.run A outer s H args us vs Q E hr⟩
theorem deeper_guards (A : Around) (env : Env) : (A.deeper env).guards = A.guards := by
  first | rfl | simp [Around.deeper]
theorem fnG_of {P : Program} {w : World} {K : PySem.W.Frag} {mg : Str → Option Value} {base : Heap} {k : Nat} {f : Addr} {name qual : Str} {params : Arguments} {body : List Stmt} {scope : Scope} {dV kV doc pm cdv ct oc : Value} {an od : Option Addr}
    {osl : Array (Option Value)} {N ps : List Str} {sp : Sp} (lk : K.lookup f = some ⟨oc, od, .func (PySem.W.fnOf name qual params body scope dV kV doc pm an cdv ct), osl⟩) (hcd : PySem.W.codeIn K cdv qual = true) (S : FnScope N ps scope)
    (len : ∀ vs H Q E, sp vs H Q E → vs.length = ps.length)
    (hbody : ∀ (A : Around) (outer : List Env) (s : Shared) (H : Hp) (vs : List V) (Q : VK) (E : XK), Room k (A.deeper (envOfC qual scope s.heap.objs.size f cdv)) → A.guards = some [] → sp vs H Q E →
      ∃ t, PSs (cxOf (L2.CX P w) P w K mg base N qual scope f cdv A outer s H E) body t ∧ t { nx := fun _ H' => Q .non H', rt := Q } (start N vs) H) :
    FnG P w K mg base (k + 1) f (PySem.W.fnOf name qual params body scope dV kV doc pm an cdv ct) ps sp := by
  refine ⟨len, fun A outer s H args us vs Q E hr hg e0 hb r hsp => ?_⟩
  have hl := len _ _ _ _ hsp
  have KX : K.In s.heap := e0.mod.kin.keeps fun b o e => (e0.bs b o e).1
  have lim : s.heap.NoLimit := e0.mod.nolimit.keeps fun b o e => (e0.bs b o e).1
  have hkind : ∀ y ∈ ps.zip us, scope.names.lookup y.1 = some .local ∨ (scope.names.lookup y.1 = some .cell ∧ ((cellsFrom (s.heap.objs.size + 1) scope.names []).lookup y.1).isSome = true) := fun ⟨n, v⟩ hy => by
    rcases S.par n (List.of_mem_zip hy).1 with q | q
    · exact .inl q
    · exact .inr ⟨q, PySem.W.cellsFrom_some _ _ _ (.inl q)⟩
  refine codeAny_call_function hr.depth (KX _ _ lk) rfl S.co S.gen rfl (PySem.W.codeRec_of KX hcd) (hb _ _ _ _ ?_)
  refine wpAny_newFunctionEnv_cells S.kind hkind fun env he s1 x => ?_
  subst he
  refine ⟨lim.keeps x.toInCall.keep, codeAny_func ?_⟩
  obtain ⟨t, ht, hq⟩ := hbody A outer s H vs Q E (hr.deeper _) hg hsp
  have I : Inv (cxOf (L2.CX P w) P w K mg base N qual scope f cdv A outer s H E) [] (start N vs) H s1 := inv_start S hr.hd e0 hl r x
  refine wpAny_mono (ht.run [] s1 (start N vs) H _ I hq) (fun fl s' hs => ?_) fun e s' hs => hs
  have fin : ∀ {σ' : L2.St} {H' : Hp} {v : V} {u : Value}, Inv (cxOf (L2.CX P w) P w K mg base N qual scope f cdv A outer s H E) [] σ' H' s' → RelV v u → Q v H' → CE outer P w H s Q u s' :=
    fun {σ' H' v u} J rv q => ⟨v, H', J.os, J.bare, J.base, J.hok, rv, q⟩
  cases fl with
  | ret u =>
    obtain ⟨v, σ', H', J, rv, q⟩ := hs
    exact fin J rv q
  | next =>
    obtain ⟨σ', H', J, q⟩ := hs
    exact fin (v := V.non) (u := Value.none) J rfl q
  | brk =>
    obtain ⟨_, _, _, q⟩ := hs
    exact False.elim q
  | cont =>
    obtain ⟨_, _, _, q⟩ := hs
    exact False.elim q

/-! ### behind a call -/
section
variable {B : BC} {σ : L2.St} {ρ ρ' : List CellA} {st : DS} {H H' : Hp} {cs' : List CellC}
theorem Step.called (rel : Rel B ρ st σ H) (pre : ρ <+: ρ') (fr : ∀ a o, H a = some o → ¬ CM ρ a → NT o → H' a = some o) (cm : ∀ a, CM ρ' a → CM ρ a ∨ H a = none) (dm : ∀ a, H a ≠ none → H' a ≠ none)
    (cel : CellsOk B.C ρ' (Av ρ' B.O ⟨st.sl, cs'⟩ σ) H' cs') (cdom : ∀ a, CM ρ' a → H' a ≠ none) (tb : LamX.Tabs B.C.T H') : Step B σ ρ st H ρ' ⟨st.sl, cs'⟩ H' := by
  have av : ∀ a, Av ρ' B.O ⟨st.sl, cs'⟩ σ a → Av ρ B.O st σ a ∨ H a = none := fun a z => by
    rcases z with z | z | z
    · exact .inl (.inl z)
    · exact (cm a z).imp (fun z => .inr (.inl z)) id
    · exact .inl (.inr (.inr z))
  have fr' : ∀ a o, H a = some o → ¬ Av ρ B.O st σ a → NT o → H' a = some o := fun a o e n => fr a o e fun z => n (.cm z)
  refine ⟨pre, ⟨rel.len, fun i d h => ?_, fun i d h => ?_, rel.dis, fun a z => dm a (rel.dom a z), fun a z => dm a (rel.odom a z), cel, cdom, tb⟩, fr, fun _ _ z => z, fun _ _ b z => ⟨b, z⟩, cm, dm⟩
  · obtain ⟨v, e, r⟩ := rel.fro i d h
    exact ⟨v, e, r.mv pre fr' av⟩
  · obtain ⟨p, e, c, n1, n2, n3⟩ := rel.own i d h
    obtain ⟨o, eo, nt⟩ := c.nt
    exact ⟨p, e, c.mv pre fr' av ((fr p o eo n1 nt).trans eo.symm), fun z => (cm p z).elim n1 fun q => (by rw [eo] at q; cases q), n2, n3⟩
end

/-! ### the arguments' views -/
def eatAll (st : DS) : List (DV × Kd) → DS
  | [] => st
  | a :: as => eatAll (st.eat a.2) as
theorem eat_cs (st : DS) (kd : Kd) : (st.eat kd).cs = st.cs := by cases kd <;> rfl
theorem eatAll_cs : ∀ (as : List (DV × Kd)) (st : DS), (eatAll st as).cs = st.cs
  | [], _ => rfl
  | a :: as, st => (eatAll_cs as (st.eat a.2)).trans (eat_cs st a.2)
section
variable {B : BC} {σ : L2.St} {ρ : List CellA} {st : DS} {H : Hp}
theorem RepKs.step {ρ1 : List CellA} {st1 : DS} {H1 : Hp} (s : Step B σ ρ st H ρ1 st1 H1) : ∀ {vs : List V} {as : List (DV × Kd)}, RepKs B ρ st σ H vs as → RepKs B ρ1 st1 σ H1 vs as
  | _, _, .nil => .nil
  | _, _, .cons r t => .cons (RepK.step s r) (RepKs.step s t)
theorem eatAll_ok : ∀ {vs : List V} {as : List (DV × Kd)} {st : DS}, Rel B ρ st σ H → RepKs B ρ st σ H vs as → Step B σ ρ st H ρ (eatAll st as) H ∧ RepL B.C ρ (Av ρ B.O (eatAll st as) σ) H vs (as.map (·.1))
  | _, _, st, rel, .nil => ⟨.refl rel, .nil⟩
  | _, _, st, rel, .cons (a := a) (as := as) r t => by
    have s1 := Step.eat rel a.2
    obtain ⟨s2, q⟩ := eatAll_ok (st := st.eat a.2) s1.rel (RepKs.step s1 t)
    exact ⟨s1.trans s2, .cons (Rep.step s2 r.eat) q⟩
end
def isDraw : CellC → Bool
  | .draw _ => true
  | .dead => true
  | .obj _ => false
def flat1 : DV → Bool
  | .lst ds => ds.all flat
  | .tup ds => ds.all flat
  | d => flat d
/-- an answer that can't hold what was handed in -/
def safeR (a : DV × Kd) : Bool := flat a.1 || (match a.2 with | .new => flat1 a.1 | _ => false)
/-- f(..): the arguments are viewed; where the answer might hold one of them, it is shared from then on -/
def backTo' (sl : List Slot) (as : List (DV × Kd)) (o : Out (DV × Kd)) : Out (DV × Kd) := match o with
  | .ok a st2 => .ok (a.1, match a.2 with | .new => .new | _ => .fro) (if safeR a && st2.cs.all isDraw then ⟨sl, st2.cs⟩ else eatAll ⟨sl, st2.cs⟩ as)
  | .exc x st2 => .exc x (eatAll ⟨sl, st2.cs⟩ as)
  | .stuck => .stuck
def evFn (F : Fn) (g : Ak) : Ev := fun st => (g st).bind fun as st1 => backTo' st1.sl as (F (as.map (·.1)) ⟨[], st1.cs⟩)
theorem eatAll_sl : ∀ (as : List (DV × Kd)) (sl : List Slot) (cs cs' : List CellC), (eatAll ⟨sl, cs⟩ as).sl = (eatAll ⟨sl, cs'⟩ as).sl
  | [], _, _, _ => rfl
  | a :: as, sl, cs, cs' => by
    show (eatAll (DS.eat ⟨sl, cs⟩ a.2) as).sl = (eatAll (DS.eat ⟨sl, cs'⟩ a.2) as).sl
    cases a.2 with
    | view i => exact eatAll_sl as _ _ _
    | fro => exact eatAll_sl as _ _ _
    | new => exact eatAll_sl as _ _ _
section
variable {C : RC}
theorem av_nil {ρ : List CellA} {O : Addr → Prop} {cs : List CellC} {a : Addr} : Av ρ O ⟨[], cs⟩ [] a ↔ O a ∨ CM ρ a := by
  refine ⟨fun z => ?_, fun z => z.elim .inl fun z => .inr (.inl z)⟩
  rcases z with z | z | ⟨i, d, e, _⟩
  · exact .inl z
  · exact .inr z
  · simp at e
theorem Rep.flatR {ρ : List CellA} {A : Addr → Prop} {H : Hp} {ρ' : List CellA} {A' : Addr → Prop} {H' : Hp} {v : V} {d : DV} (hf : D.flat d = true) (r : Rep C ρ A H v d) : Rep C ρ' A' H' v d := by
  obtain rfl := Rep.flat_eq hf r
  exact Rep.flat hf
theorem RepL.flatR {ρ : List CellA} {A : Addr → Prop} {H : Hp} {ρ' : List CellA} {A' : Addr → Prop} {H' : Hp} : ∀ {vs : List V} {ds : List DV}, ds.all D.flat = true → RepL C ρ A H vs ds → RepL C ρ' A' H' vs ds
  | _, _, _, .nil => .nil
  | _, _, h, .cons r t => by
    rw [List.all_cons, Bool.and_eq_true] at h
    exact .cons (Rep.flatR h.1 r) (RepL.flatR h.2 t)
theorem cells_draw {ρ : List CellA} {A A' : Addr → Prop} {H : Hp} {cs : List CellC} (h : cs.all isDraw = true) (c : CellsOk C ρ A H cs) : CellsOk C ρ A' H cs := by
  refine ⟨c.len, fun k a x h1 h2 => ?_, c.dis⟩
  have q := c.ok k a x h1 h2
  have hx : isDraw x = true := List.all_eq_true.mp h x (List.mem_of_getElem? h2)
  cases x with
  | draw d => exact q
  | dead => trivial
  | obj d => cases hx
variable {X : Cx} {B : BC} {W : WX} {F : Fn} {g : Ak}
/-- what the callee wants, from D's answer -/
theorem spF_of {σ : L2.St} {ρ : List CellA} {st : DS} {H : Hp} {vs : List V} {as : List (DV × Kd)} {Q : VK} (rel : Rel B ρ st σ H) (rk : RepKs B ρ st σ H vs as)
    (r : Res B W σ ρ st H (backTo' st.sl as (F (as.map (·.1)) ⟨[], st.cs⟩)) (GE B σ H Q)) : SpF B.C F vs H Q (WE W σ) := by
  obtain ⟨s1, rl⟩ := eatAll_ok rel rk
  have re := s1.rel
  have hcs := eatAll_cs as st
  generalize est : eatAll st as = se at s1 rl re hcs
  have hse : se = ⟨se.sl, st.cs⟩ := by cases se; simp at hcs; rw [hcs]
  let O : Addr → Prop := fun a => B.O a ∨ ∃ i, ownAt se σ i a
  have sub : ∀ a, Av ρ O ⟨[], st.cs⟩ [] a → Av ρ B.O se σ a := fun a z => by
    rcases av_nil.mp z with (z | z) | z
    · exact .inl z
    · exact .inr (.inr z)
    · exact .inr (.inl z)
  have mv0 : ∀ a, Av ρ O ⟨[], st.cs⟩ [] a → Av ρ B.O se σ a ∨ H a = none := fun a z => .inl (sub a z)
  have rel0 : Rel ⟨B.C, O, H⟩ ρ ⟨[], st.cs⟩ [] H := by
    refine ⟨rfl, fun i d h => by simp at h, fun i d h => by simp at h, fun i j p h => by obtain ⟨d, h, _⟩ := h; simp at h, fun a z => z, fun a z => ?_, ?_, re.cdom, re.tabs⟩
    · rcases z with z | ⟨i, z⟩
      · exact re.odom a z
      · exact re.av_dom (.inr (.inr ⟨i, z⟩))
    · have c := re.cel
      rw [hcs] at c
      refine ⟨c.len, fun k a x h1 h2 => ?_, c.dis⟩
      have q := c.ok k a x h1 h2
      cases x with
      | draw d => exact q
      | dead => trivial
      | obj d => exact ⟨q.1, q.2.mv (List.prefix_refl _) (fun _ _ e _ _ => e) mv0 rfl⟩
  refine ⟨ρ, st.cs, as.map (·.1), O, rel0, rl.mv (List.prefix_refl _) (fun _ _ e _ _ => e) mv0, ?_⟩
  -- the state of the caller behind the call, consumed
  have later : ∀ ρ' st' H', Step ⟨B.C, O, H⟩ [] ρ ⟨[], st.cs⟩ H ρ' st' H' → Step B σ ρ st H ρ' (eatAll ⟨st.sl, st'.cs⟩ as) H' := fun ρ' st' H' s => by
    refine s1.trans ?_
    have e1 : eatAll ⟨st.sl, st'.cs⟩ as = ⟨se.sl, st'.cs⟩ := by
      have h1 : (eatAll ⟨st.sl, st'.cs⟩ as).sl = se.sl := by rw [← est]; exact eatAll_sl as st.sl st'.cs st.cs
      have h2 : (eatAll ⟨st.sl, st'.cs⟩ as).cs = st'.cs := eatAll_cs as _
      cases h3 : eatAll ⟨st.sl, st'.cs⟩ as with
      | mk a b => rw [h3] at h1 h2; simp at h1 h2; rw [h1, h2]
    rw [e1]
    refine Step.called re s.pre s.fr s.cm s.dm ?_ s.rel.cdom s.rel.tabs
    have c := s.rel.cel
    refine ⟨c.len, fun k a x h1 h2 => ?_, c.dis⟩
    have q := c.ok k a x h1 h2
    have mv : ∀ a, Av ρ' B.O ⟨se.sl, st'.cs⟩ σ a → Av ρ' O st' [] a ∨ H' a = none := fun a z => by
      rcases z with z | z | ⟨i, z⟩
      · exact .inl (.inl (.inl z))
      · exact .inl (.inr (.inl z))
      · exact .inl (.inl (.inr ⟨i, z⟩))
    cases x with
    | draw d => exact q
    | dead => trivial
    | obj d => exact ⟨q.1, q.2.mv (List.prefix_refl _) (fun _ _ e _ _ => e) mv rfl⟩
  have mvR : ∀ ρ' st' H', Step ⟨B.C, O, H⟩ [] ρ ⟨[], st.cs⟩ H ρ' st' H' → ∀ a, Av ρ' B.O (eatAll ⟨st.sl, st'.cs⟩ as) σ a → Av ρ' O st' [] a ∨ H' a = none := fun ρ' st' H' s a z => by
    rcases z with z | z | ⟨i, z⟩
    · exact .inl (.inl (.inl z))
    · exact .inl (.inr (.inl z))
    · refine .inl (.inl (.inr ⟨i, ?_⟩))
      obtain ⟨d, z1, z2⟩ := z
      refine ⟨d, ?_, z2⟩
      rw [← est, ← z1]
      congr 1
      exact (eatAll_sl as st.sl st.cs st'.cs)
  cases e : F (as.map (·.1)) ⟨[], st.cs⟩ with
  | stuck => rw [e] at r; exact r
  | exc x st' =>
    rw [e] at r
    intro ρ' H' cls d s xr
    refine r ρ' H' cls d (later ρ' st' H' s) ?_
    obtain ⟨e1, xr⟩ := xr
    refine ⟨e1, ?_⟩
    rcases xr with xr | ⟨a, vs, h1, h2, h3, h4, h5⟩
    · exact .inl xr
    · refine .inr ⟨a, vs, h1, fun z => (mvR ρ' st' H' s a z).elim h2 fun q => (by rw [h3] at q; cases q), h3, h4, h5.mv (List.prefix_refl _) (fun _ _ e _ _ => e) (mvR ρ' st' H' s)⟩
  | ok a st' =>
    rw [e] at r
    intro ρ' H' s
    have hsl : st'.sl = [] := by
      have := s.rel.len
      cases h : st'.sl with
      | nil => rfl
      | cons x l => rw [h] at this; simp at this
    refine ⟨hsl, fun v rv nv fv => ?_⟩
    obtain ⟨d, kd⟩ := a
    by_cases hs : (safeR (d, kd) && st'.cs.all isDraw) = true
    · simp only [backTo', hs, if_true] at r
      rw [Bool.and_eq_true] at hs
      have sc : Step B σ ρ st H ρ' ⟨st.sl, st'.cs⟩ H' := Step.called rel s.pre s.fr s.cm s.dm (cells_draw hs.2 s.rel.cel) s.rel.cdom s.rel.tabs
      have hrep : Rep B.C ρ' (Av ρ' B.O ⟨st.sl, st'.cs⟩ σ) H' v d := by
        have h1 := hs.1
        unfold safeR at h1
        rw [Bool.or_eq_true] at h1
        rcases h1 with h1 | h1
        · exact Rep.flatR h1 rv
        · cases kd with
          | new =>
            have hfr : ∀ p, v = .ref p → ¬ Av ρ' O st' [] p → ¬ Av ρ' B.O ⟨st.sl, st'.cs⟩ σ p := fun p ep n z => by
              rcases z with y | y | ⟨i, y⟩
              · exact rel.av_fresh (fv p ep) (.inl y)
              · exact n (.inr (.inl y))
              · exact rel.av_fresh (fv p ep) (.inr (.inr ⟨i, y⟩))
            cases rv with
            | cls c => cases h1
            | lst n e r => exact .lst (hfr _ rfl n) (by assumption) (RepL.flatR h1 (by assumption))
            | tup n e r => exact .tup (hfr _ rfl n) (by assumption) (RepL.flatR h1 (by assumption))
            | ktup k r => exact .ktup k (RepL.flatR h1 (by assumption))
            | dct n e l r => cases h1
            | ins n e l r => cases h1
            | scr n e => cases h1
            | kscr k => cases h1
            | cel e => cases h1
            | opq a => cases h1
            | exc _ _ _ _ _ _ => cases h1
            | exc0 _ _ => cases h1
            | non => exact .non
            | bl b => exact .bl b
            | int i => exact .int i
            | str s => exact .str s
            | ty n => exact .ty n
          | fro => cases h1
          | view i => cases h1
      refine r ρ' H' sc v ?_ ?_
      · cases kd with
        | new =>
          refine ⟨hrep, fun p ep hc => ?_⟩
          have h1 := hs.1
          subst ep
          cases rv with
          | lst n e r =>
            have hf : List.all _ D.flat = true := h1
            exact ⟨_, by assumption, RepL.flatR hf (by assumption)⟩
          | dct n e l r => cases h1
          | ins n e l r => cases h1
          | _ => cases hc
        | _ => exact hrep
      · cases kd <;> first | trivial | exact fv
    · simp only [backTo', hs] at r
      have hs' : (safeR (d, kd) && st'.cs.all isDraw) = false := by simpa using hs
      refine r ρ' H' (later ρ' st' H' s) v ?_ ?_
      · have hrep := rv.mv (List.prefix_refl _) (fun _ _ e _ _ => e) (mvR ρ' st' H' s)
        cases kd with
        | new =>
          refine ⟨hrep, fun p ep hc => (nv rfl p ep hc).mv (List.prefix_refl _) (fun _ _ e _ _ => e) (fun a z => ?_) rfl⟩
          rcases z with z | z
          · exact (mvR ρ' st' H' s a z).imp .inl id
          · exact .inl (.inr z)
        | _ => exact hrep
      · cases kd <;> first | trivial | exact fv
end

/-! ### f(e, ..) -/
def RepAny (C : RC) (vs : List V) (ds : List DV) : Prop := ∀ ρ A H, RepL C ρ A H vs ds
def akApp (g : Ak) (ds : List DV) : Ak := fun st => (g st).bind fun as st1 => .ok (as ++ ds.map fun d => (d, Kd.fro)) st1
section
variable {X : Cx} {k : Nat} {f : Addr} {fd : FuncData} {ps : List Str} {sp : Sp} {dvs : List V} {ds : List Value} {E : L2.St → XK} {x : Str} {p pos : Pos} {e : Expr} {es : List Expr} {t : TA}
theorem run_fnG {pins : List (Addr × Obj)} {σ : L2.St} {H : Hp} {s : Shared} {Q : VK} {us : List Value} {vs : List V} (F : FnG X.prog X.w X.K X.mg X.base k f fd ps sp) (hr : Room k X.A) (hg : X.A.guards = some []) (hb : Binds X.K fd ps ds) (hd : Vals dvs ds)
    (hx : PassesAt (L2.CX X.prog X.w) X σ (E σ)) (I : L2.Inv X pins σ H s) (r : Vals vs us) (h : sp (vs ++ dvs) H Q (E σ)) : wpAny (model X.prog X.w) X.A (call (.ref f) us) (EP X pins σ Q) X.xe s := by
  have r2 : Vals (vs ++ dvs) (us ++ ds) := r.append hd
  have hl : (us ++ ds).length = ps.length := by rw [← r2.length]; exact F.len _ _ _ _ h
  refine wpAny_call (codeAny_mono (F.run X.A X.stack s H ⟨us, []⟩ (us ++ ds) (vs ++ dvs) Q (E σ) hr hg I.env0 (hb s us I.kIn hl) r2 h) fun r s' hq => ?_)
  cases r with
  | error e => exact hx pins H s e s' I hq
  | ok fl =>
    cases fl with
    | ret u => exact I.after hq
    | next => exact False.elim hq
    | brk => exact False.elim hq
    | cont => exact False.elim hq
theorem pe_callG (F : FnG X.prog X.w X.K X.mg X.base k f fd ps sp) (hr : Room k X.A) (hgu : X.A.guards = some []) (hg : Gl X x) (hm : X.mg x = some (.ref f)) (hk : PySem.W.keepIn X.K (.ref f) = true) (hb : Binds X.K fd ps ds) (hd : Vals dvs ds) (hx : ∀ σ, PassesAt (L2.CX X.prog X.w) X σ (E σ))
    (ha : PA X (e :: es) t) (hdb : (x == ("__debug__" : Str)) = false) (he : starEach (e :: es) X.env = (false, eval e X.env) :: starEach es X.env) (hpl : (backTo pos (starEach es X.env)).any (·.1) = false) :
    PE X (.Call (.Name x p) (e :: es) [] pos) (tCallSD sp dvs E t) := by
  refine ⟨fun pins s σ H Q I h => ?_⟩
  refine wpAny_Call_Name_kw (ld_glob I hg hm ?_ hdb)
  refine PySem.W.callWith_K (h₀ := X.base) I.ok.mod.kin hk (thn (ha.run pos pins s σ H _ I h) fun us s1 ⟨vs, H1, I1, r, q⟩ => ⟨I1.kIn, ?_⟩) he hpl
  exact run_fnG F hr hgu hb hd (hx σ) I1 r q
variable {B : BC} {W : WX} {F : Fn} {g : Ak} {dds : List DV}
theorem RepKs.app {ρ : List CellA} {st : DS} {σ : L2.St} {H : Hp} : ∀ {vs : List V} {as : List (DV × Kd)} {ws : List V} {es : List DV}, RepKs B ρ st σ H vs as → RepL B.C ρ (Av ρ B.O st σ) H ws es → RepKs B ρ st σ H (vs ++ ws) (as ++ es.map fun d => (d, Kd.fro))
  | _, _, _, _, .nil, .nil => .nil
  | _, _, _, _, .nil, .cons r t => .cons r (RepKs.app .nil t)
  | _, _, _, _, .cons r t, q => .cons r (RepKs.app t q)
theorem tCallSD_of (hdr : RepAny B.C dvs dds) {σ : L2.St} {H : Hp} {Q : VK} (h : RD B W (evFn F (akApp g dds)) σ H Q) : tCallSD (SpF B.C F) dvs (WE W) (RK B W g) σ H Q := by
  obtain ⟨ρ, st, rel, res⟩ := h
  have res' : Res B W σ ρ st H ((g st).bind fun as st1 => backTo' st1.sl (as ++ dds.map fun d => (d, Kd.fro)) (F ((as ++ dds.map fun d => (d, Kd.fro)).map (·.1)) ⟨[], st1.cs⟩)) (GE B σ H Q) := by
    unfold evFn akApp at res
    cases e : g st with
    | ok a st1 => rw [e] at res; exact res
    | exc x st1 => rw [e] at res; exact res
    | stuck => rw [e] at res; exact res
  refine RK.go rel (Res.bind res') fun as st1 ρ1 H1 s1 r1 vs rv => ?_
  exact spF_of s1.rel (RepKs.app rv (hdr _ _ _)) (r1.imp fun _ _ _ _ _ => GE.dm s1.dm _ _ _ _)
theorem pd_fn (hC : B.C.K = X.K) (Fk : FnG X.prog X.w X.K X.mg X.base k f fd ps (SpF B.C F)) (hr : Room k X.A) (hgu : X.A.guards = some []) (hg : Gl X x) (hm : X.mg x = some (.ref f)) (hk : PySem.W.keepIn X.K (.ref f) = true) (hb : Binds X.K fd ps ds) (hd : Vals dvs ds) (hdr : RepAny B.C dvs dds) (tk : Takes X W)
    (ha : PKD X B W (e :: es) g) (hdb : (x == ("__debug__" : Str)) = false) (he : starEach (e :: es) X.env = (false, eval e X.env) :: starEach es X.env) (hpl : (backTo pos (starEach es X.env)).any (·.1) = false) :
    PD X B W (.Call (.Name x p) (e :: es) [] pos) (evFn F (akApp g dds)) :=
  PE.mono (pe_callG Fk hr hgu hg hm hk hb hd (passAt tk) ha hdb he hpl) fun _ _ _ h => tCallSD_of hdr h
end
end D

/-! D: statements: sequences, names stored, return, if, while, raise. -/
namespace D
open PySem L2 PyProof.Rows

inductive Fl where
  | nx | bk | ct
  | rt (d : DV) (kd : Kd)
abbrev Sv := DS → Out Fl
structure SStep (B : BC) (σ : L2.St) (ρ : List CellA) (st : DS) (H : Hp) (σ' : L2.St) (ρ' : List CellA) (st' : DS) (H' : Hp) : Prop where
  pre : ρ <+: ρ'
  rel : Rel B ρ' st' σ' H'
  fr : ∀ a o, H a = some o → ¬ CM ρ a → (∀ i, ¬ ownAt st σ i a) → NT o → H' a = some o
  av : ∀ a, Av ρ' B.O st' σ' a → Av ρ B.O st σ a ∨ H a = none
  cm : ∀ a, CM ρ' a → CM ρ a ∨ H a = none
  dm : ∀ a, H a ≠ none → H' a ≠ none
section
variable {B : BC} {W : WX} {σ σ1 σ2 : L2.St} {ρ ρ1 ρ2 : List CellA} {st st1 st2 : DS} {H H1 H2 : Hp}
theorem SStep.of (s : Step B σ ρ st H ρ1 st1 H1) : SStep B σ ρ st H σ ρ1 st1 H1 := ⟨s.pre, s.rel, fun a o e n _ => s.fr a o e n, s.av, s.cm, s.dm⟩
theorem SStep.refl (r : Rel B ρ st σ H) : SStep B σ ρ st H σ ρ st H := .of (.refl r)
theorem SStep.trans (a : SStep B σ ρ st H σ1 ρ1 st1 H1) (b : SStep B σ1 ρ1 st1 H1 σ2 ρ2 st2 H2) : SStep B σ ρ st H σ2 ρ2 st2 H2 where
  pre := a.pre.trans b.pre
  rel := b.rel
  fr := fun p o e n no nt => b.fr p o (a.fr p o e n no nt) (fun z => (a.cm p z).elim n fun q => by rw [e] at q; cases q) (fun i ow => by
    obtain ⟨d, h1, h2⟩ := id ow
    obtain ⟨q, e1, _, n1, n2, _⟩ := a.rel.own i d h1
    rw [h2] at e1
    cases e1
    rcases a.av p (.inr (.inr ⟨i, ow⟩)) with (z | z | ⟨j, z⟩) | z
    · exact n2 z
    · exact n z
    · exact no j z
    · rw [e] at z; cases z) nt
  av := fun p z => (b.av p z).elim (a.av p) fun q => .inr (none_of_dm a.dm q)
  cm := fun p z => (b.cm p z).elim (a.cm p) fun q => .inr (none_of_dm a.dm q)
  dm := fun p z => b.dm p (a.dm p z)
theorem Rep.sstep (s : SStep B σ ρ st H σ1 ρ1 st1 H1) {v : V} {d : DV} (r : Rep B.C ρ (Av ρ B.O st σ) H v d) : Rep B.C ρ1 (Av ρ1 B.O st1 σ1) H1 v d :=
  r.mv s.pre (fun a o e n => s.fr a o e (fun z => n (.cm z)) fun i z => n (.inr (.inr ⟨i, z⟩))) s.av
theorem RepL.sstep (s : SStep B σ ρ st H σ1 ρ1 st1 H1) {v : List V} {d : List DV} (r : RepL B.C ρ (Av ρ B.O st σ) H v d) : RepL B.C ρ1 (Av ρ1 B.O st1 σ1) H1 v d :=
  r.mv s.pre (fun a o e n => s.fr a o e (fun z => n (.cm z)) fun i z => n (.inr (.inr ⟨i, z⟩))) s.av

abbrev SG := Fl → L2.St → DS → List CellA → Hp → Prop
variable (B W)
def SRes (σ : L2.St) (ρ : List CellA) (st : DS) (H : Hp) (o : Out Fl) (G : SG) : Prop := match o with
  | .ok a st' => ∀ σ' ρ' H', SStep B σ ρ st H σ' ρ' st' H' → G a σ' st' ρ' H'
  | .exc x st' => ∀ σ' ρ' H' cls d, SStep B σ ρ st H σ' ρ' st' H' → XRep B ρ' st' σ' H' x cls d → W cls d σ' H'
  | .stuck => False
/-- behind a statement -/
def GS (B : BC) (D : Ends) : SG := fun fl σ' st' ρ' H' => match fl with
  | .nx => D.nx σ' H'
  | .bk => D.bk σ' H'
  | .ct => D.ct σ' H'
  | .rt d kd => ∀ v, RepK B ρ' st' σ' H' kd v d → (kd = .new → ∀ p, v = .ref p → B.H0 p = none) → D.rt v H'
def RS (f : Sv) : TS := fun D σ H => ∃ ρ st, Rel B ρ st σ H ∧ SRes B W σ ρ st H (f st) (GS B D)
variable {B W}
def PSD (X : Cx) (B : BC) (W : WX) (s : Stmt) (f : Sv) : Prop := PS X s (RS B W f)
def PSsD (X : Cx) (B : BC) (W : WX) (s : List Stmt) (f : Sv) : Prop := PSs X s (RS B W f)
variable {o : Out Fl} {G G' : SG} {k : Fl → DS → Out Fl}
theorem SRes.from (s : SStep B σ ρ st H σ1 ρ1 st1 H1) (r : SRes B W σ ρ st H o G) : SRes B W σ1 ρ1 st1 H1 o G := by
  cases o with
  | ok a st' => exact fun σ' ρ' H' s2 => r σ' ρ' H' (s.trans s2)
  | exc x st' => exact fun σ' ρ' H' cls d s2 => r σ' ρ' H' cls d (s.trans s2)
  | stuck => exact r
theorem SRes.imp (r : SRes B W σ ρ st H o G) (h : ∀ a σ' st' ρ' H', SStep B σ ρ st H σ' ρ' st' H' → G a σ' st' ρ' H' → G' a σ' st' ρ' H') : SRes B W σ ρ st H o G' := by
  cases o with
  | ok a st' => exact fun σ' ρ' H' s => h _ _ _ _ _ s (r σ' ρ' H' s)
  | exc x st' => exact r
  | stuck => exact r
theorem SRes.bind (r : SRes B W σ ρ st H (o.bind k) G) : SRes B W σ ρ st H o fun a σ1 st1 ρ1 H1 => SRes B W σ1 ρ1 st1 H1 (k a st1) G := by
  cases o with
  | ok a st1 =>
    intro σ1 ρ1 H1 s
    exact SRes.from s (show SRes B W σ ρ st H (k a st1) G from r)
  | exc x st' => exact r
  | stuck => exact r
theorem SRes.now {a : Fl} (rel : Rel B ρ st σ H) (r : SRes B W σ ρ st H (.ok a st) G) : G a σ st ρ H := r σ ρ H (.refl rel)
/-- an expression's part -/
theorem SRes.ex {α : Type} {o : Out α} {k : α → DS → Out Fl} (r : SRes B W σ ρ st H (o.bind k) G) : Res B W σ ρ st H o fun a st1 ρ1 H1 => SRes B W σ ρ1 st1 H1 (k a st1) G := by
  cases o with
  | ok a st1 =>
    intro ρ1 H1 s
    exact SRes.from (.of s) (show SRes B W σ ρ st H (k a st1) G from r)
  | exc x st' => exact fun ρ' H' cls d s q => r σ ρ' H' cls d (.of s) q
  | stuck => exact r
end

/-! ### sequences -/
def svSeq (f g : Sv) : Sv := fun st => (f st).bind fun fl st1 => match fl with
  | .nx => g st1
  | fl => .ok fl st1
def svNx : Sv := fun st => .ok .nx st
section
variable {X : Cx} {B : BC} {W : WX} {s : Stmt} {rest : List Stmt} {f g : Sv} {e : Expr} {fe : Ev} {pos : Pos}
theorem pssd_nil : PSsD X B W [] svNx := PSs.mono pss_nil fun D σ H ⟨ρ, st, rel, r⟩ => SRes.now rel r
theorem pssd_cons (h1 : PSD X B W s f) (h2 : PSsD X B W rest g) : PSsD X B W (s :: rest) (svSeq f g) := by
  refine PSs.mono (pss_cons h1 h2) fun D σ H ⟨ρ, st, rel, r⟩ => ?_
  refine ⟨ρ, st, rel, (SRes.bind r).imp fun a σ1 st1 ρ1 H1 s1 r1 => ?_⟩
  cases a with
  | nx => exact ⟨ρ1, st1, s1.rel, r1⟩
  | bk => exact SRes.now (W := W) s1.rel r1
  | ct => exact SRes.now (W := W) s1.rel r1
  | rt d kd => exact SRes.now (W := W) s1.rel r1
theorem pssd_one (h1 : PSD X B W s f) : PSsD X B W [s] f := pss_one h1
def svExpr (fe : Ev) : Sv := fun st => (fe st).bind fun _ st1 => .ok .nx st1
def svRet (fe : Ev) : Sv := fun st => (fe st).bind fun a st1 => .ok (.rt a.1 a.2) st1
theorem psd_ret (he : PD X B W e fe) : PSD X B W (.Return (some e) pos) (svRet fe) := by
  refine PS.mono (ps_ret he) fun D σ H ⟨ρ, st, rel, r⟩ => ?_
  refine RD.go rel (SRes.ex r) fun a st1 ρ1 H1 s1 r1 v rv fv => ?_
  refine (show ∀ v, RepK B ρ1 st1 σ H1 a.2 v a.1 → (a.2 = .new → ∀ p, v = .ref p → B.H0 p = none) → D.rt v H1 from SRes.now s1.rel r1) v rv fun ek p ev => ?_
  rw [ek] at fv
  exact none_of_dm rel.dom (fv p ev)
def svRetN : Sv := fun st => .ok (.rt .non .new) st
def svPass : Sv := fun st => .ok .nx st
def svBreak : Sv := fun st => .ok .bk st
def svIf (t : Tv) (f g : Sv) : Sv := fun st => (t st).bind fun k st1 => if k = true then f st1 else g st1
theorem psd_if {c : Expr} {a b : List Stmt} {t : Tv} (hc : PTD X B W c t) (ha : PSsD X B W a f) (hb : PSsD X B W b g) : PSD X B W (.If c a b pos) (svIf t f g) := by
  refine PS.mono (ps_if hc ha hb) fun D σ H ⟨ρ, st, rel, r⟩ => ?_
  refine RT.go rel (SRes.ex r) fun k st1 ρ1 H1 s1 r1 => ?_
  cases k with
  | true => exact ⟨ρ1, st1, s1.rel, r1⟩
  | false => exact ⟨ρ1, st1, s1.rel, r1⟩

/-! ### while -/
def svWhile (t : Tv) (f : Sv) : Nat → Sv
  | 0 => fun _ => .stuck
  | n + 1 => fun st => (t st).bind fun k st1 => if k = true then (f st1).bind fun fl st2 => (match fl with
    | .nx => svWhile t f n st2
    | .ct => svWhile t f n st2
    | .bk => .ok .nx st2
    | .rt d kd => .ok (.rt d kd) st2) else .ok .nx st1
theorem psd_while {c : Expr} {body : List Stmt} {t : Tv} (hp : PassesOwn (model X.prog X.w) X.A X.env X.xe) (hc : PTD X B W c t) (hb : PSsD X B W body f) (n : Nat) : PSD X B W (.While c body [] pos) (svWhile t f n) := by
  refine PS.mono (ps_while hp hc hb) fun D σ H ⟨ρ, st, rel, r⟩ => ?_
  refine ⟨fun m σ H => ∃ ρ st, Rel B ρ st σ H ∧ SRes B W σ ρ st H (svWhile t f m st) (GS B D), ⟨n, ρ, st, rel, r⟩, fun m σ H hW => ?_⟩
  obtain ⟨ρ, st, rel, r⟩ := hW
  cases m with
  | zero => exact r.elim
  | succ m =>
    refine RT.go rel (SRes.ex r) fun k st1 ρ1 H1 s1 r1 => ?_
    cases k with
    | false => exact SRes.now s1.rel r1
    | true =>
      rw [if_pos rfl]
      rw [if_pos rfl] at r1
      refine ⟨fun σ' H' => ∃ ρ' st', Rel B ρ' st' σ' H' ∧ SRes B W σ' ρ' st' H' (svWhile t f m st') (GS B D), fun σ' H' hN => ⟨m, Nat.lt_succ_self m, hN⟩, ⟨ρ1, st1, s1.rel, (SRes.bind r1).imp fun fl σ2 st2 ρ2 H2 s2 r2 => ?_⟩⟩
      cases fl with
      | nx => exact ⟨ρ2, st2, s2.rel, r2⟩
      | ct => exact ⟨ρ2, st2, s2.rel, r2⟩
      | bk => exact SRes.now (W := W) s2.rel r2
      | rt d kd => exact SRes.now (W := W) s2.rel r2

/-! ### raise X("..") -/
def svRaise (c : Nat) : Sv := fun st => .exc ⟨c, [], []⟩ st
end

/-! ### a name is stored -/
/-- the state behind x = e, x in slot i -/
def DS.put (st : DS) (i : Nat) (a : DV × Kd) : DS := match a.2 with
  | .new => ⟨st.sl.set i (some (a.1, isCont a.1 && st.cs.all isDraw)), st.cs⟩
  | kd => ⟨(st.eat kd).sl.set i (some (a.1, false)), st.cs⟩
section
variable {B : BC} {W : WX} {σ : L2.St} {ρ ρ1 : List CellA} {st st1 : DS} {H H1 : Hp}
theorem put_own {i j : Nat} {d : DV} {v : V} {p : Addr} (h : ownAt ⟨st.sl.set i (some (d, false)), st.cs⟩ (σ.set i (some v)) j p) : ownAt st σ j p ∧ j ≠ i := by
  obtain ⟨e, h1, h2⟩ := h
  by_cases hj : j = i
  · subst hj
    dsimp only at h1
    by_cases hl : j < st.sl.length
    · rw [List.getElem?_set_self hl] at h1; cases h1
    · rw [List.getElem?_eq_none (by rw [List.length_set]; omega)] at h1; cases h1
  · refine ⟨⟨e, ?_, ?_⟩, hj⟩
    · rw [← h1]; exact (List.getElem?_set_ne (Ne.symm hj)).symm
    · rw [← h2]; exact (List.getElem?_set_ne (Ne.symm hj)).symm
/-- a shared thing is stored -/
theorem SStep.putF (r : Rel B ρ st σ H) {i : Nat} {v : V} {d : DV} (hv : Rep B.C ρ (Av ρ B.O st σ) H v d) : SStep B σ ρ st H (σ.set i (some v)) ρ ⟨st.sl.set i (some (d, false)), st.cs⟩ H := by
  have av : ∀ a, Av ρ B.O ⟨st.sl.set i (some (d, false)), st.cs⟩ (σ.set i (some v)) a → Av ρ B.O st σ a := fun a z => by
    rcases z with z | z | ⟨j, z⟩
    · exact .inl z
    · exact .inr (.inl z)
    · exact .inr (.inr ⟨j, (put_own z).1⟩)
  have mv : ∀ a, Av ρ B.O ⟨st.sl.set i (some (d, false)), st.cs⟩ (σ.set i (some v)) a → Av ρ B.O st σ a ∨ H a = none := fun a z => .inl (av a z)
  refine ⟨List.prefix_refl _, ⟨by simp [r.len], fun j e h => ?_, fun j e h => ?_, fun j k p h1 h2 => r.dis j k p (put_own h1).1 (put_own h2).1, r.dom, r.odom, ⟨r.cel.len, fun k c x h1 h2 => ?_, r.cel.dis⟩, r.cdom, r.tabs⟩, fun _ _ e _ _ _ => e, mv, fun _ z => .inl z, fun _ z => z⟩
  · by_cases hj : j = i
    · subst hj
      dsimp only at h
      by_cases hl : j < st.sl.length
      · rw [List.getElem?_set_self hl] at h
        cases h
        exact ⟨v, List.getElem?_set_self (by rw [← r.len]; exact hl), hv.mv (List.prefix_refl _) (fun _ _ e _ _ => e) mv⟩
      · rw [List.getElem?_eq_none (by rw [List.length_set]; omega)] at h; cases h
    · have h' : st.sl[j]? = some (some (e, false)) := by rw [← h]; exact (List.getElem?_set_ne (Ne.symm hj)).symm
      obtain ⟨w, e1, q⟩ := r.fro j e h'
      exact ⟨w, by rw [List.getElem?_set_ne (Ne.symm hj)]; exact e1, q.mv (List.prefix_refl _) (fun _ _ e _ _ => e) mv⟩
  · by_cases hj : j = i
    · subst hj
      dsimp only at h
      by_cases hl : j < st.sl.length
      · rw [List.getElem?_set_self hl] at h; cases h
      · rw [List.getElem?_eq_none (by rw [List.length_set]; omega)] at h; cases h
    · have h' : st.sl[j]? = some (some (e, true)) := by rw [← h]; exact (List.getElem?_set_ne (Ne.symm hj)).symm
      obtain ⟨p, e1, q, n⟩ := r.own j e h'
      exact ⟨p, by rw [List.getElem?_set_ne (Ne.symm hj)]; exact e1, q.mv (List.prefix_refl _) (fun _ _ e _ _ => e) mv rfl, n⟩
  · have q := r.cel.ok k c x h1 h2
    cases x with
    | draw d => exact q
    | obj d => exact ⟨q.1, q.2.mv (List.prefix_refl _) (fun _ _ e _ _ => e) mv rfl⟩
    | dead => trivial
/-- a new thing becomes a slot's own: from the state ahead of the expression -/
theorem SStep.putO (r0 : Rel B ρ st σ H) (s : Step B σ ρ st H ρ1 st1 H1) {i : Nat} {p : Addr} {d : DV} (hc : isCont d = true) (hd : st1.cs.all isDraw = true) (hv : RepK B ρ1 st1 σ H1 .new (.ref p) d) (hp : H p = none) :
    SStep B σ ρ st H (σ.set i (some (.ref p))) ρ1 ⟨st1.sl.set i (some (d, true)), st1.cs⟩ H1 := by
  have r1 := s.rel
  have own1 : ∀ j q, ownAt ⟨st1.sl.set i (some (d, true)), st1.cs⟩ (σ.set i (some (.ref p))) j q → (j = i ∧ q = p) ∨ (j ≠ i ∧ ownAt st1 σ j q) := fun j q ⟨e, h1, h2⟩ => by
    by_cases hj : j = i
    · subst hj
      refine .inl ⟨rfl, ?_⟩
      by_cases hl : j < σ.length
      · rw [List.getElem?_set_self hl] at h2; cases h2; rfl
      · rw [List.getElem?_eq_none (by rw [List.length_set]; omega)] at h2; cases h2
    · refine .inr ⟨hj, e, ?_, ?_⟩
      · rw [← h1]; exact (List.getElem?_set_ne (Ne.symm hj)).symm
      · rw [← h2]; exact (List.getElem?_set_ne (Ne.symm hj)).symm
  have npO : ¬ B.O p := fun z => r0.av_fresh hp (.inl z)
  -- p is none of what was there
  have av0 : ∀ a, Av ρ1 B.O ⟨st1.sl.set i (some (d, true)), st1.cs⟩ (σ.set i (some (.ref p))) a → Av ρ B.O st σ a ∨ H a = none := fun a z => by
    rcases z with z | z | ⟨j, z⟩
    · exact .inl (.inl z)
    · exact (s.cm a z).imp (fun z => .inr (.inl z)) id
    · rcases own1 j a z with ⟨_, rfl⟩ | ⟨_, z⟩
      · exact .inr hp
      · exact .inl (.inr (.inr ⟨j, s.sub j a z⟩))
  have fr0 : ∀ a o, H a = some o → ¬ Av ρ B.O st σ a → NT o → H1 a = some o := fun a o e n => s.fr a o e fun z => n (.cm z)
  have notown : ∀ j q, ownAt st σ j q → q ≠ p := fun j q z e => by subst e; exact r0.av_fresh hp (.inr (.inr ⟨j, z⟩))
  obtain ⟨hv, nv⟩ := hv
  have ncm : ¬ CM ρ1 p := fun z => by
    cases hv with
    | lst n' _ _ => exact n' (.inr (.inl z))
    | dct n' _ _ _ => exact n' (.inr (.inl z))
    | ins n' _ _ _ => exact n' (.inr (.inl z))
    | _ => cases hc
  have cont : Cont B.C ρ1 (Av ρ1 B.O ⟨st1.sl.set i (some (d, true)), st1.cs⟩ (σ.set i (some (.ref p)))) H1 p d := by
    refine (nv p rfl hc).mv (List.prefix_refl _) (fun _ _ e _ _ => e) (fun a z => .inl ?_) rfl
    rcases z with z | z | ⟨j, z⟩
    · exact .inl (.inl z)
    · exact .inl (.inr (.inl z))
    · rcases own1 j a z with ⟨_, rfl⟩ | ⟨_, z⟩
      · exact .inr rfl
      · exact .inl (.inr (.inr ⟨j, z⟩))
  refine ⟨s.pre, ⟨by simp [r1.len], fun j e h => ?_, fun j e h => ?_, fun j k q h1 h2 => ?_, r1.dom, r1.odom, cells_draw hd r1.cel, r1.cdom, r1.tabs⟩, fun a o e n _ => s.fr a o e n, av0, s.cm, s.dm⟩
  · by_cases hj : j = i
    · subst hj
      dsimp only at h
      by_cases hl : j < st1.sl.length
      · rw [List.getElem?_set_self hl] at h; cases h
      · rw [List.getElem?_eq_none (by rw [List.length_set]; omega)] at h; cases h
    · have h' : st1.sl[j]? = some (some (e, false)) := by rw [← h]; exact (List.getElem?_set_ne (Ne.symm hj)).symm
      obtain ⟨c, h0⟩ := s.sl j e false h'
      rw [List.getElem?_set_ne (Ne.symm hj)]
      cases c with
      | false =>
        obtain ⟨w, e1, q⟩ := r0.fro j e h0
        exact ⟨w, e1, q.mv s.pre fr0 av0⟩
      | true =>
        obtain ⟨w, e1, q, n1, n2, n3⟩ := r0.own j e h0
        obtain ⟨o, eo, nteo⟩ := q.nt
        refine ⟨_, e1, (q.mv s.pre fr0 av0 ((s.fr w o eo n1 nteo).trans eo.symm)).rep (fun a z => z) fun z => ?_⟩
        rcases z with z | z | ⟨k, z⟩
        · exact n2 z
        · rcases s.cm w z with z | z
          · exact n1 z
          · rw [eo] at z; cases z
        · rcases own1 k w z with ⟨_, rfl⟩ | ⟨hk, z⟩
          · exact notown j w ⟨e, h0, e1⟩ rfl
          · have z0 := s.sub k w z
            obtain rfl := r0.dis k j w z0 ⟨e, h0, e1⟩
            obtain ⟨e', z1, _⟩ := z
            rw [h'] at z1
            cases z1
  · by_cases hj : j = i
    · subst hj
      dsimp only at h
      by_cases hl : j < st1.sl.length
      · rw [List.getElem?_set_self hl] at h
        cases h
        exact ⟨p, List.getElem?_set_self (by rw [← r1.len]; exact hl), cont, ncm, npO, none_of_dm r0.dom hp⟩
      · rw [List.getElem?_eq_none (by rw [List.length_set]; omega)] at h; cases h
    · have h' : st1.sl[j]? = some (some (e, true)) := by rw [← h]; exact (List.getElem?_set_ne (Ne.symm hj)).symm
      obtain ⟨w, e1, q1, n1, n2, n3⟩ := r1.own j e h'
      obtain ⟨c, h0⟩ := s.sl j e true h'
      have z0 := s.sub j w ⟨e, h', e1⟩
      obtain ⟨e0, h00, _⟩ := z0
      obtain ⟨w', e1', q, m1, m2, m3⟩ := r0.own j e0 h00
      rw [e1] at e1'
      cases e1'
      rw [h0] at h00
      cases h00
      obtain ⟨o, eo, nteo⟩ := q.nt
      exact ⟨w, by rw [List.getElem?_set_ne (Ne.symm hj)]; exact e1, q.mv s.pre fr0 av0 ((s.fr w o eo m1 nteo).trans eo.symm), n1, n2, n3⟩
  · rcases own1 j q h1 with ⟨rfl, rfl⟩ | ⟨hj, z1⟩
    · rcases own1 k q h2 with ⟨rfl, _⟩ | ⟨hk, z2⟩
      · rfl
      · exact absurd rfl (notown k q (s.sub k q z2))
    · rcases own1 k q h2 with ⟨rfl, rfl⟩ | ⟨hk, z2⟩
      · exact absurd rfl (notown j q (s.sub j q z1))
      · exact r1.dis j k q z1 z2
end
end D

/-! D: names stored, targets, parallel stores, op=. -/
namespace D
open PySem L2 PyProof.Rows

section
variable {X : Cx} {B : BC} {W : WX} {σ : L2.St} {ρ ρ1 : List CellA} {st st1 : DS} {H H1 : Hp} {f g : Sv} {e : Expr} {fe : Ev} {pos : Pos}
theorem Rep.ref_of_cont {C : RC} {ρ : List CellA} {A : Addr → Prop} {H : Hp} {v : V} {d : DV} (h : isCont d = true) (r : Rep C ρ A H v d) : ∃ p, v = .ref p := by
  cases r <;> first | exact ⟨_, rfl⟩ | cases h
theorem SStep.put (r0 : Rel B ρ st σ H) (s : Step B σ ρ st H ρ1 st1 H1) {i : Nat} {a : DV × Kd} {v : V} (hv : RepK B ρ1 st1 σ H1 a.2 v a.1) (fv : Fresh H a.2 v) : SStep B σ ρ st H (σ.set i (some v)) ρ1 (st1.put i a) H1 := by
  obtain ⟨d, kd⟩ := a
  cases kd with
  | fro => exact (SStep.of s).trans (SStep.putF s.rel hv)
  | view j =>
    have s2 := Step.eat s.rel (.view j)
    exact (SStep.of (s.trans s2)).trans (SStep.putF s2.rel hv.eat)
  | new =>
    show SStep B σ ρ st H _ ρ1 ⟨st1.sl.set i (some (d, isCont d && st1.cs.all isDraw)), st1.cs⟩ H1
    cases hb : isCont d && st1.cs.all isDraw with
    | false => exact (SStep.of s).trans (SStep.putF s.rel hv.1)
    | true =>
      rw [Bool.and_eq_true] at hb
      obtain ⟨p, rfl⟩ := Rep.ref_of_cont hb.1 hv.1
      exact SStep.putO r0 s hb.1 hb.2 hv (fv p rfl)

theorem SRes.ex0 {α : Type} {o : Out α} {k : α → DS → Out Fl} {G : SG} (r : SRes B W σ ρ st H (o.bind k) G) : Res B W σ ρ st H o fun a st1 _ _ => SRes B W σ ρ st H (k a st1) G := by
  cases o with
  | ok a st1 => exact fun _ _ _ => r
  | exc x st' => exact fun ρ' H' cls d s q => r σ ρ' H' cls d (.of s) q
  | stuck => exact r
/-- x = e -/
def svSet (i : Nat) (fe : Ev) : Sv := fun st => (fe st).bind fun a st1 => .ok .nx (st1.put i a)
theorem rs_set {i : Nat} {te : TE} (ht : ∀ σ H Q, RD B W fe σ H Q → te σ H Q) {D : Ends} (h : RS B W (svSet i fe) D σ H) : tAsg te (gName i) D σ H := by
  obtain ⟨ρ, st, rel, r⟩ := h
  refine ht σ H _ ?_
  refine RD.go rel (SRes.ex0 r) fun a st1 ρ1 H1 s1 r1 v rv fv => ?_
  exact r1 _ _ _ (SStep.put (i := i) rel s1 rv fv)
theorem psd_set {i : Nat} {x : Str} {pos' : Pos} (hN : X.N.Nodup) (hi : X.N[i]? = some x) (hx : Loc X.env.scope x) (he : PD X B W e fe) (hs : swapsWith e (some (.Name x pos')) pos.line X.env = pure false) (hf : X.fn x = true ∨ X.env.scope.names.lookup x = some .local) :
    PSD X B W (.Assign [.Name x pos'] e pos) (svSet i fe) := by
  refine PS.mono (ps_set hN hi hx he hs hf) fun D σ H h => rs_set (fun _ _ _ h => h) h

/-! ### targets -/
abbrev Gv := DV → DS → Option DS
/-- the target writes the slots vs alone, nothing becomes a slot's own -/
structure Only (vs : List Nat) (st : DS) (σ : L2.St) (st' : DS) (σ' : L2.St) : Prop where
  len : σ'.length = σ.length
  out : ∀ (i : Nat), i ∉ vs → σ'[i]? = σ[i]? ∧ st'.sl[i]? = st.sl[i]?
  own : ∀ (i : Nat) (d : DV), st'.sl[i]? = some (some (d, true)) → st.sl[i]? = some (some (d, true))
theorem Only.refl {vs : List Nat} : Only vs st σ st σ := ⟨rfl, fun _ _ => ⟨rfl, rfl⟩, fun _ _ h => h⟩
theorem Only.trans {vs ws : List Nat} {σ1 σ2 : L2.St} {st2 : DS} (a : Only vs st σ st1 σ1) (b : Only ws st1 σ1 st2 σ2) : Only (vs ++ ws) st σ st2 σ2 :=
  ⟨b.len.trans a.len, fun i h => by
    rw [List.mem_append, not_or] at h
    exact ⟨(b.out i h.2).1.trans (a.out i h.1).1, (b.out i h.2).2.trans (a.out i h.1).2⟩, fun i d h => a.own i d (b.own i d h)⟩
def RG (C : RC) (vs : List Nat) (f : Gv) : TG := fun v σ H Q => ∃ B ρ st d st', B.C = C ∧ Rel B ρ st σ H ∧ Rep B.C ρ (Av ρ B.O st σ) H v d ∧ f d st = some st' ∧ ∀ σ', SStep B σ ρ st H σ' ρ st' H → Only vs st σ st' σ' → Q σ' H
def RGs (C : RC) (vs : List Nat) (f : List DV → DS → Option DS) : TGs := fun xs σ H Q => ∃ B ρ st ds st', B.C = C ∧ Rel B ρ st σ H ∧ RepL B.C ρ (Av ρ B.O st σ) H xs ds ∧ f ds st = some st' ∧ ∀ σ', SStep B σ ρ st H σ' ρ st' H → Only vs st σ st' σ' → Q σ' H
def PGD (X : Cx) (C : RC) (vs : List Nat) (tg : Expr) (f : Gv) : Prop := PG X tg (RG C vs f)
def PGsD (X : Cx) (C : RC) (vs : List Nat) (tg : List Expr) (f : List DV → DS → Option DS) : Prop := PGs X tg (RGs C vs f)
theorem PG.mono {X : Cx} {e : Expr} {t t' : TG} (h : PG X e t) (m : ∀ v σ H Q, t' v σ H Q → t v σ H Q) : PG X e t' := ⟨fun pins s σ H v u Q I r q => h.run pins s σ H v u Q I r (m _ _ _ _ q)⟩
theorem PGs.mono {X : Cx} {e : List Expr} {t t' : TGs} (h : PGs X e t) (m : ∀ v σ H Q, t' v σ H Q → t v σ H Q) : PGs X e t' := ⟨fun pins s σ H v u Q I r q => h.run pins s σ H v u Q I r (m _ _ _ _ q)⟩
variable {C : RC} {vs ws : List Nat}
def gvName (i : Nat) : Gv := fun d st => some ⟨st.sl.set i (some (d, false)), st.cs⟩
theorem pgd_name {i : Nat} {x : Str} (hN : X.N.Nodup) (hi : X.N[i]? = some x) (hx : Loc X.env.scope x) (hf : X.fn x = true ∨ X.env.scope.names.lookup x = some .local) : PGD X C [i] (.Name x pos) (gvName i) := by
  refine PG.mono (pg_name hN hi hx hf) fun v σ H Q ⟨B, ρ, st, d, st', eC, rel, rv, e, q⟩ => ?_
  cases e
  refine q _ (SStep.putF rel rv) ⟨by simp, fun j hj => ?_, fun j e h => ?_⟩
  · have hj : i ≠ j := fun z => hj (by simp [z])
    exact ⟨List.getElem?_set_ne hj, List.getElem?_set_ne hj⟩
  · by_cases hj : i = j
    · subst hj
      dsimp only at h
      by_cases hl : i < st.sl.length
      · rw [List.getElem?_set_self hl] at h; cases h
      · rw [List.getElem?_eq_none (by rw [List.length_set]; omega)] at h; cases h
    · rw [← h]; exact (List.getElem?_set_ne hj).symm
def gvNil : List DV → DS → Option DS := fun ds st => match ds with | [] => some st | _ => none
def gvCons (f : Gv) (g : List DV → DS → Option DS) : List DV → DS → Option DS := fun (ds : List DV) st => match ds with
  | d :: r => (match f d st with | some st1 => g r st1 | none => none)
  | [] => none
theorem pgsd_nil : PGsD X C [] [] gvNil := by
  refine PGs.mono pgs_nil fun vs σ H Q ⟨B, ρ, st, ds, st', eC, rel, rv, e, q⟩ => ?_
  cases rv with
  | nil =>
    cases e
    exact ⟨rfl, q _ (.refl rel) .refl⟩
  | cons _ _ => cases e
theorem pgsd_cons {e : Expr} {es : List Expr} {f : Gv} {g : List DV → DS → Option DS} (h1 : PGD X C vs e f) (h2 : PGsD X C ws es g) (hs : (assignEach (e :: es) X.env).map (·.2) = assign e X.env :: (assignEach es X.env).map (·.2)) : PGsD X C (vs ++ ws) (e :: es) (gvCons f g) := by
  refine PGs.mono (pgs_cons h1 h2 hs) fun xs σ H Q ⟨B, ρ, st, ds, st', eC, rel, rv, e, q⟩ => ?_
  cases rv with
  | nil => cases e
  | @cons v vs' d ds' r t =>
    simp only [gvCons] at e
    cases e1 : f d st with
    | none => rw [e1] at e; cases e
    | some st1 =>
      rw [e1] at e
      exact ⟨_, _, rfl, B, ρ, st, d, st1, eC, rel, r, e1, fun σ1 s1 o1 => ⟨B, ρ, st1, ds', st', eC, s1.rel, RepL.sstep s1 t, e, fun σ2 s2 o2 => q σ2 (s1.trans s2) (o1.trans o2)⟩⟩
def gvTup (n : Nat) (g : List DV → DS → Option DS) : Gv := fun d st => match d with
  | .tup ds => if ds.length = n then g ds st else none
  | _ => none
theorem sqT_of {C : RC} {ρ : List CellA} {A : Addr → Prop} {H : Hp} {v : V} {ds : List DV} (r : Rep C ρ A H v (.tup ds)) : ∃ a xs, v = .ref a ∧ SqT C.K H a xs ∧ RepL C ρ A H xs ds := by
  cases r with
  | tup n e r => exact ⟨_, _, rfl, .inl (.inl e), r⟩
  | ktup k r => exact ⟨_, _, rfl, .inr k, r⟩
theorem pgd_tup {es : List Expr} {k : Nat} {g : List DV → DS → Option DS} {n : Nat} (hK : C.K = X.K) (hc : X.calm = true) (h : PGsD X C vs es g) (hn : (assignEach es X.env).length = n) (hst : (assignEach es X.env).findIdx? (·.1) = none) : PGD X C vs (.Tuple es k pos) (gvTup n g) := by
  refine PG.mono (pg_tup hc h hn hst) fun v σ H Q ⟨B, ρ, st, d, st', eC, rel, rv, e, q⟩ => ?_
  cases d <;> try (cases e; done)
  rename_i ds
  simp only [gvTup] at e
  split at e
  · rename_i hl
    obtain ⟨a, xs, rfl, hq, rl⟩ := sqT_of rv
    exact ⟨a, xs, rfl, by rw [← hK, ← eC]; exact hq, rl.length.trans hl, B, ρ, st, ds, st', eC, rel, rl, e, q⟩
  · cases e
/-- target = e, by a target's reading -/
def svAsg (fe : Ev) (g : Gv) : Sv := fun st => (fe st).bind fun a st1 => match g a.1 (st1.eat a.2) with
  | some st2 => .ok .nx st2
  | none => .stuck
/-! ### a new thing held aside -/
def BC.hold (B : BC) (p : Addr) : BC := ⟨B.C, fun a => B.O a ∨ a = p, B.H0⟩
variable {σ1 : L2.St} {p : Addr}
theorem av_hold {O : Addr → Prop} {a : Addr} : Av ρ (fun a => O a ∨ a = p) st σ a → Av ρ O st σ a ∨ a = p := fun z => by
  rcases z with (z | z) | z | z
  · exact .inl (.inl z)
  · exact .inr z
  · exact .inl (.inr (.inl z))
  · exact .inl (.inr (.inr z))
theorem hold_av {O : Addr → Prop} {a : Addr} : Av ρ O st σ a ∨ a = p → Av ρ (fun a => O a ∨ a = p) st σ a := fun z => by
  rcases z with (z | z | z) | z
  · exact .inl (.inl z)
  · exact .inr (.inl z)
  · exact .inr (.inr z)
  · exact .inl (.inr z)
theorem Rel.hold (r0 : Rel B ρ st σ H) (s : Step B σ ρ st H ρ1 st1 H1) (hd : st1.cs.all isDraw = true) (hp : H p = none) (h1 : H1 p ≠ none) : Rel (B.hold p) ρ1 st1 σ H1 := by
  have r1 := s.rel
  have fr0 : ∀ a o, H a = some o → ¬ Av ρ B.O st σ a → NT o → H1 a = some o := fun a o e n => s.fr a o e fun z => n (.cm z)
  have av0 : ∀ a, Av ρ1 (B.hold p).O st1 σ a → Av ρ B.O st σ a ∨ H a = none := fun a z => by
    rcases av_hold z with z | rfl
    · exact s.av a z
    · exact .inr hp
  refine ⟨r1.len, fun j e h => ?_, fun j e h => ?_, r1.dis, r1.dom, fun a z => ?_, cells_draw hd r1.cel, r1.cdom, r1.tabs⟩
  · obtain ⟨c, h0⟩ := s.sl j e false h
    cases c with
    | false =>
      obtain ⟨w, e1, q⟩ := r0.fro j e h0
      exact ⟨w, e1, q.mv s.pre fr0 av0⟩
    | true =>
      obtain ⟨w, e1, q, n1, n2, n3⟩ := r0.own j e h0
      obtain ⟨o, eo, nteo⟩ := q.nt
      obtain ⟨w', e1', q'⟩ := r1.fro j e h
      rw [e1] at e1'
      cases e1'
      refine ⟨_, e1, (q.mv s.pre fr0 av0 ((s.fr w o eo n1 nteo).trans eo.symm)).rep (fun a z => z) fun z => ?_⟩
      rcases av_hold z with z | rfl
      · rcases z with z | z | ⟨k, z⟩
        · exact n2 z
        · rcases s.cm w z with z | z
          · exact n1 z
          · rw [eo] at z; cases z
        · have z0 := s.sub k w z
          obtain rfl := r0.dis k j w z0 ⟨e, h0, e1⟩
          obtain ⟨e', z1, _⟩ := z
          rw [h] at z1
          cases z1
      · rw [eo] at hp; cases hp
  · obtain ⟨w, e1, q1, n1, n2, n3⟩ := r1.own j e h
    obtain ⟨c, h0⟩ := s.sl j e true h
    obtain ⟨e0, h00, _⟩ := s.sub j w ⟨e, h, e1⟩
    obtain ⟨w', e1', q, m1, m2, m3⟩ := r0.own j e0 h00
    rw [e1] at e1'
    cases e1'
    rw [h0] at h00
    cases h00
    obtain ⟨o, eo, nteo⟩ := q.nt
    refine ⟨w, e1, q.mv s.pre fr0 av0 ((s.fr w o eo m1 nteo).trans eo.symm), n1, fun z => ?_, n3⟩
    rcases z with z | rfl
    · exact n2 z
    · rw [eo] at hp; cases hp
  · rcases z with z | rfl
    · exact r1.odom a z
    · exact h1
theorem Rel.unhold (r : Rel (B.hold p) ρ st σ H) : Rel B ρ st σ H := by
  have mv : ∀ a, Av ρ B.O st σ a → Av ρ (B.hold p).O st σ a ∨ H a = none := fun a z => .inl (hold_av (.inl z))
  refine ⟨r.len, fun i d h => ?_, fun i d h => ?_, r.dis, r.dom, fun a z => r.odom a (.inl z), ⟨r.cel.len, fun k c x h1 h2 => ?_, r.cel.dis⟩, r.cdom, r.tabs⟩
  · obtain ⟨v, e, q⟩ := r.fro i d h
    exact ⟨v, e, q.mv (List.prefix_refl _) (fun _ _ e _ _ => e) mv⟩
  · obtain ⟨q, e, c, n1, n2, n3⟩ := r.own i d h
    exact ⟨q, e, c.mv (List.prefix_refl _) (fun _ _ e _ _ => e) mv rfl, n1, fun z => n2 (.inl z), n3⟩
  · have q := r.cel.ok k c x h1 h2
    cases x with
    | draw d => exact q
    | obj d => exact ⟨q.1, q.2.mv (List.prefix_refl _) (fun _ _ e _ _ => e) mv rfl⟩
    | dead => trivial
/-- the step with p held aside, seen from where p was not yet -/
theorem SStep.unhold (s0 : Step B σ ρ st H ρ1 st1 H1) {ρ2 : List CellA} {st2 : DS} {H2 : Hp} (hp : H p = none) (s : SStep (B.hold p) σ ρ1 st1 H1 σ1 ρ2 st2 H2) : SStep B σ ρ st H σ1 ρ2 st2 H2 where
  pre := s0.pre.trans s.pre
  rel := s.rel.unhold
  fr := fun a o e n no nt => s.fr a o (s0.fr a o e n nt) (fun z => (s0.cm a z).elim n fun q => by rw [e] at q; cases q) (fun i ow => no i (s0.sub i a ow)) nt
  av := fun a z => by
    rcases s.av a (hold_av (.inl z)) with z | z
    · rcases av_hold z with z | rfl
      · exact s0.av a z
      · exact .inr hp
    · exact .inr (none_of_dm s0.dm z)
  cm := fun a z => (s.cm a z).elim (s0.cm a) fun q => .inr (none_of_dm s0.dm q)
  dm := fun a z => s.dm a (s0.dm a z)
theorem Step.unhold (s0 : Step B σ ρ st H ρ1 st1 H1) {ρ2 : List CellA} {st2 : DS} {H2 : Hp} (s : Step (B.hold p) σ ρ1 st1 H1 ρ2 st2 H2) : Step B σ ρ st H ρ2 st2 H2 where
  pre := s0.pre.trans s.pre
  rel := s.rel.unhold
  fr := fun a o e n nt => s.fr a o (s0.fr a o e n nt) (fun z => (s0.cm a z).elim n fun q => by rw [e] at q; cases q) nt
  sub := fun i a z => s0.sub i a (s.sub i a z)
  sl := fun i d b z => let ⟨c, z'⟩ := s.sl i d b z; s0.sl i d c z'
  cm := fun a z => (s.cm a z).elim (s0.cm a) fun q => .inr (none_of_dm s0.dm q)
  dm := fun a z => s.dm a (s0.dm a z)
theorem Rep.unhold {v : V} {d : DV} (r : Rep B.C ρ (Av ρ (B.hold p).O st σ) H v d) : Rep B.C ρ (Av ρ B.O st σ) H v d :=
  r.mv (List.prefix_refl _) (fun _ _ e _ _ => e) fun a z => .inl (hold_av (.inl z))
theorem RepL.unhold {v : List V} {d : List DV} (r : RepL B.C ρ (Av ρ (B.hold p).O st σ) H v d) : RepL B.C ρ (Av ρ B.O st σ) H v d :=
  r.mv (List.prefix_refl _) (fun _ _ e _ _ => e) fun a z => .inl (hold_av (.inl z))
theorem XRep.unhold {x : DX} {cls : Value} {d : Option Addr} (r : XRep (B.hold p) ρ st σ H x cls d) : XRep B ρ st σ H x cls d := by
  obtain ⟨e, r⟩ := r
  refine ⟨e, ?_⟩
  rcases r with r | ⟨a, vs, h1, h2, h3, h4, h5⟩
  · exact .inl r
  · exact .inr ⟨a, vs, h1, fun z => h2 (hold_av (.inl z)), h3, h4, RepL.unhold h5⟩
/-- what is held is put into a slot -/
theorem SStep.release (s : SStep B σ ρ st H σ1 ρ1 st1 H1) (rh : Rel (B.hold p) ρ1 st1 σ1 H1) (hp : H p = none) {i : Nat} {d : DV} (hc : Cont B.C ρ1 (Av ρ1 (B.hold p).O st1 σ1) H1 p d) (n1 : ¬ CM ρ1 p) (n2 : ¬ B.O p) (n3 : B.H0 p = none) :
    SStep B σ ρ st H (σ1.set i (some (.ref p))) ρ1 ⟨st1.sl.set i (some (d, true)), st1.cs⟩ H1 := by
  have own1 : ∀ j q, ownAt ⟨st1.sl.set i (some (d, true)), st1.cs⟩ (σ1.set i (some (.ref p))) j q → (j = i ∧ q = p) ∨ (j ≠ i ∧ ownAt st1 σ1 j q) := fun j q ⟨e, h1, h2⟩ => by
    by_cases hj : j = i
    · subst hj
      refine .inl ⟨rfl, ?_⟩
      by_cases hl : j < σ1.length
      · rw [List.getElem?_set_self hl] at h2; cases h2; rfl
      · rw [List.getElem?_eq_none (by rw [List.length_set]; omega)] at h2; cases h2
    · refine .inr ⟨hj, e, ?_, ?_⟩
      · rw [← h1]; exact (List.getElem?_set_ne (Ne.symm hj)).symm
      · rw [← h2]; exact (List.getElem?_set_ne (Ne.symm hj)).symm
  have avh : ∀ a, Av ρ1 B.O ⟨st1.sl.set i (some (d, true)), st1.cs⟩ (σ1.set i (some (.ref p))) a → Av ρ1 (B.hold p).O st1 σ1 a := fun a z => by
    rcases z with z | z | ⟨j, z⟩
    · exact .inl (.inl z)
    · exact .inr (.inl z)
    · rcases own1 j a z with ⟨_, rfl⟩ | ⟨_, z⟩
      · exact .inl (.inr rfl)
      · exact .inr (.inr ⟨j, z⟩)
  have mv : ∀ a, Av ρ1 B.O ⟨st1.sl.set i (some (d, true)), st1.cs⟩ (σ1.set i (some (.ref p))) a → Av ρ1 (B.hold p).O st1 σ1 a ∨ H1 a = none := fun a z => .inl (avh a z)
  have r1 := s.rel
  refine ⟨s.pre, ⟨by simp [r1.len], fun j e h => ?_, fun j e h => ?_, fun j k q h1 h2 => ?_, r1.dom, r1.odom, ⟨r1.cel.len, fun k c x h1 h2 => ?_, r1.cel.dis⟩, r1.cdom, r1.tabs⟩, s.fr, fun a z => ?_, s.cm, s.dm⟩
  · by_cases hj : j = i
    · subst hj
      dsimp only at h
      by_cases hl : j < st1.sl.length
      · rw [List.getElem?_set_self hl] at h; cases h
      · rw [List.getElem?_eq_none (by rw [List.length_set]; omega)] at h; cases h
    · have h' : st1.sl[j]? = some (some (e, false)) := by rw [← h]; exact (List.getElem?_set_ne (Ne.symm hj)).symm
      rw [List.getElem?_set_ne (Ne.symm hj)]
      obtain ⟨w, e1, q⟩ := rh.fro j e h'
      exact ⟨w, e1, q.mv (List.prefix_refl _) (fun _ _ e _ _ => e) mv⟩
  · by_cases hj : j = i
    · subst hj
      dsimp only at h
      by_cases hl : j < st1.sl.length
      · rw [List.getElem?_set_self hl] at h
        cases h
        exact ⟨p, List.getElem?_set_self (by rw [← r1.len]; exact hl), hc.mv (List.prefix_refl _) (fun _ _ e _ _ => e) mv rfl, n1, n2, n3⟩
      · rw [List.getElem?_eq_none (by rw [List.length_set]; omega)] at h; cases h
    · have h' : st1.sl[j]? = some (some (e, true)) := by rw [← h]; exact (List.getElem?_set_ne (Ne.symm hj)).symm
      obtain ⟨w, e1, q1, m1, m2, m3⟩ := rh.own j e h'
      exact ⟨w, by rw [List.getElem?_set_ne (Ne.symm hj)]; exact e1, q1.mv (List.prefix_refl _) (fun _ _ e _ _ => e) mv rfl, m1, fun z => m2 (.inl z), m3⟩
  · have np : ∀ k, ¬ ownAt st1 σ1 k p := fun k ⟨e, z1, z2⟩ => by
      obtain ⟨w, e1, q1, m1, m2, m3⟩ := rh.own k e z1
      rw [z2] at e1
      cases e1
      exact m2 (.inr rfl)
    rcases own1 j q h1 with ⟨rfl, rfl⟩ | ⟨hj, z1⟩
    · rcases own1 k q h2 with ⟨rfl, _⟩ | ⟨hk, z2⟩
      · rfl
      · exact absurd z2 (np k)
    · rcases own1 k q h2 with ⟨rfl, rfl⟩ | ⟨hk, z2⟩
      · exact absurd z1 (np j)
      · exact r1.dis j k q z1 z2
  · have q := rh.cel.ok k c x h1 h2
    cases x with
    | draw d => exact q
    | obj d => exact ⟨q.1, q.2.mv (List.prefix_refl _) (fun _ _ e _ _ => e) mv rfl⟩
    | dead => trivial
  · rcases av_hold (avh a z) with z | rfl
    · exact s.av a z
    · exact .inr hp

/-! ### a, b = x, y -/
def sets (σ : L2.St) : List Nat → List V → L2.St
  | i :: is, v :: vs => (sets σ is vs).set i (some v)
  | _, _ => σ
def svPar (i : Nat) (f : Ev) (g : Sv) : Sv := fun st => (f st).bind fun a st1 => match a.2 with
  | .new => (match isCont a.1 && st1.cs.all isDraw with
    | true => (g st1).bind fun _ st2 => .ok .nx ⟨st2.sl.set i (some (a.1, true)), st2.cs⟩
    | false => (g st1).bind fun _ st2 => .ok .nx ⟨st2.sl.set i (some (a.1, false)), st2.cs⟩)
  | kd => (g (st1.eat kd)).bind fun _ st2 => .ok .nx ⟨st2.sl.set i (some (a.1, false)), st2.cs⟩
/-- behind the parts: the slots ix have the values -/
def RPar (C : RC) (W : WX) (ix : List Nat) (f : Sv) : TA := fun σ H Q => ∃ B ρ st, B.C = C ∧ Rel B ρ st σ H ∧ SRes B W σ ρ st H (f st) fun fl σ' st' ρ' H' => ∀ vs, vs.length = ix.length → σ' = sets σ ix vs → Q vs H'
def PPar (X : Cx) (C : RC) (W : WX) (ix : List Nat) (es : List Expr) (f : Sv) : Prop := PA X es (RPar C W ix f)
theorem ppar_nil : PPar X C W [] [] svNx := PA.mono pa_nil fun σ H Q ⟨B, ρ, st, _, rel, r⟩ => SRes.now rel r [] rfl rfl
def RDx (C : RC) (W : WX) (f : Ev) : TE := fun σ H Q => ∃ B, B.C = C ∧ RD B W f σ H Q
theorem pdx {f : Ev} {e : Expr} (h : ∀ B, B.C = C → PD X B W e f) : PE X e (RDx C W f) := ⟨fun pins s σ H Q I ⟨B, e, r⟩ => (h B e).run pins s σ H Q I r⟩
/-- an answer under B.hold p, from one under B -/
theorem SRes.hold {o : Out Fl} {G : SG} (s0 : Step B σ ρ st H ρ1 st1 H1) (hp : H p = none) (r : SRes B W σ ρ st H o G) : SRes (B.hold p) W σ ρ1 st1 H1 o G := by
  cases o with
  | ok a st' => exact fun σ' ρ' H' s => r σ' ρ' H' (SStep.unhold s0 hp s)
  | exc x st' => exact fun σ' ρ' H' cls d s q => r σ' ρ' H' cls d (SStep.unhold s0 hp s) q.unhold
  | stuck => exact r
theorem nomatchCM {d : DV} {C : RC} {p : Addr} (r : Rep C ρ (Av ρ B.O st σ) H (.ref p) d) (h : isCont d = true) : ¬ CM ρ p := fun z => by
  cases r with
  | lst n' _ _ => exact n' (.inr (.inl z))
  | dct n' _ _ _ => exact n' (.inr (.inl z))
  | ins n' _ _ _ => exact n' (.inr (.inl z))
  | _ => cases h
theorem ppar_cons {i : Nat} {ix : List Nat} {e : Expr} {es : List Expr} {f : Ev} {g : Sv} (he : ∀ B, B.C = C → PD X B W e f) (hg : PPar X C W ix es g) (hs : starEach (e :: es) X.env = (false, eval e X.env) :: starEach es X.env) : PPar X C W (i :: ix) (e :: es) (svPar i f g) := by
  refine PA.mono (pa_cons (pdx he) hg hs) fun σ H Q ⟨B, ρ, st, eC, rel, r⟩ => ?_
  refine ⟨B, eC, RD.go rel (SRes.ex0 r) fun a st1 ρ1 H1 s1 r1 v rv fv => ?_⟩
  obtain ⟨d, kd⟩ := a
  -- the plain case
  have plain : ∀ st2, Step B σ ρ1 st1 H1 ρ1 st2 H1 → Rep B.C ρ1 (Av ρ1 B.O st2 σ) H1 v d → SRes B W σ ρ st H ((g st2).bind fun _ st2 => .ok .nx ⟨st2.sl.set i (some (d, false)), st2.cs⟩) (fun fl σ' st' ρ' H' => ∀ vs, vs.length = (i :: ix).length → σ' = sets σ (i :: ix) vs → Q vs H') →
      RPar C W ix g σ H1 fun vs H2 => Q (v :: vs) H2 := fun st2 s2 rv r2 => by
    refine ⟨B, ρ1, st2, eC, s2.rel, ?_⟩
    refine (SRes.bind (SRes.from (.of (s1.trans s2)) r2)).imp fun fl σ' st' ρ' H' s3 r3 vs hl hσ => ?_
    have s4 := SStep.putF (i := i) s3.rel (Rep.sstep s3 rv)
    refine r3 _ _ _ s4 (v :: vs) (by simp [hl]) ?_
    rw [hσ]
    rfl
  cases kd with
  | fro => exact plain st1 (.refl s1.rel) rv r1
  | view j => exact plain _ (Step.eat s1.rel (.view j)) rv.eat r1
  | new =>
    simp only at r1
    cases hb : isCont d && st1.cs.all isDraw with
    | false => rw [hb] at r1; exact plain st1 (.refl s1.rel) rv.1 r1
    | true =>
      rw [hb] at r1
      rw [Bool.and_eq_true] at hb
      obtain ⟨p, rfl⟩ := Rep.ref_of_cont hb.1 rv.1
      have hp := fv p rfl
      have c1 := rv.2 p rfl hb.1
      have h1 : H1 p ≠ none := c1.some
      have rh := Rel.hold rel s1 hb.2 hp h1
      have np1 : ¬ CM ρ1 p := nomatchCM rv.1 hb.1
      have npO : ¬ B.O p := fun z => rel.odom p z hp
      refine ⟨B.hold p, ρ1, st1, eC, rh, ?_⟩
      have c1' : Cont B.C ρ1 (Av ρ1 (B.hold p).O st1 σ) H1 p d := c1.mv (List.prefix_refl _) (fun _ _ e _ _ => e) (fun a z => .inl (av_hold z)) rfl
      have nown : ∀ j, ¬ ownAt st1 σ j p := fun j ⟨e, z1, z2⟩ => by
        obtain ⟨w, e1, q1, m1, m2, m3⟩ := rh.own j e z1
        rw [z2] at e1
        cases e1
        exact m2 (.inr rfl)
      cases eg : g st1 with
      | stuck => rw [eg] at r1; exact r1.elim
      | exc x st2 => rw [eg] at r1; exact fun σ' ρ' H' cls q s3 xr => r1 σ' ρ' H' cls q (SStep.unhold s1 hp s3) xr.unhold
      | ok fl st2 =>
        rw [eg] at r1
        intro σ' ρ' H' s3 vs hl hσ
        obtain ⟨o, eo, nteo⟩ := c1'.nt
        have np' : ¬ CM ρ' p := fun z => (s3.cm p z).elim np1 fun q => h1 q
        have c3 : Cont B.C ρ' (Av ρ' (B.hold p).O st2 σ') H' p d := c1'.mv s3.pre (fun a o e n => s3.fr a o e (fun z => n (.cm z)) fun i z => n (.inr (.inr ⟨i, z⟩))) s3.av ((s3.fr p o eo np1 nown nteo).trans eo.symm)
        have s4 := SStep.release (i := i) (SStep.unhold s1 hp s3) s3.rel hp c3 np' npO (none_of_dm rel.dom hp)
        refine r1 _ _ _ s4 (V.ref p :: vs) (by simp [hl]) ?_
        rw [hσ]
        rfl
def svThen (f : Sv) : Sv := fun st => (f st).bind fun _ st1 => .ok .nx st1
theorem SRes.then {o : Out Fl} {G : SG} {σ0 : L2.St} (r : SRes B W σ0 ρ st H (o.bind fun _ st1 => .ok .nx st1) G) : SRes B W σ0 ρ st H o fun _ σ' st' ρ' H' => G .nx σ' st' ρ' H' := by
  cases o with
  | ok a st1 => exact r
  | exc x st' => exact r
  | stuck => exact r
theorem psd_par {i j : Nat} {x y : Str} {a b : Expr} {fa fb : Ev} {px py pt : Pos} {kt k2 pt2} (hc : X.calm = true) (hN : X.N.Nodup) (hi : X.N[i]? = some x) (hj : X.N[j]? = some y) (hij : i ≠ j)
    (hx : X.env.scope.names.lookup x = some .local) (hy : X.env.scope.names.lookup y = some .local) (ha : ∀ B', B'.C = B.C → PD X B' W a fa) (hb : ∀ B', B'.C = B.C → PD X B' W b fb)
    (hsa : starEach [a, b] X.env = (false, eval a X.env) :: starEach [b] X.env) (hsb : starEach [b] X.env = (false, eval b X.env) :: starEach [] X.env)
    (hw : swappedStores [.Tuple [.Name x px, .Name y py] kt pt] (.Tuple [a, b] k2 pt2) X.env = pure (some [x, y]))
    (hs : swapsWithSole [.Tuple [.Name x px, .Name y py] kt pt] (.Tuple [a, b] k2 pt2) pos.line X.env = pure false) :
    PSD X B W (.Assign [.Tuple [.Name x px, .Name y py] kt pt] (.Tuple [a, b] k2 pt2) pos) (svThen (svPar i fa (svPar j fb svNx))) := by
  refine PS.mono (ps_par hc hN hi hj hij hx hy (ppar_cons (i := i) ha (ppar_cons (i := j) hb ppar_nil hsb) hsa) hw hs) fun D σ H ⟨ρ, st, rel, r⟩ => ?_
  refine ⟨B, ρ, st, rfl, rel, (SRes.then r).imp fun fl σ' st' ρ' H' s r' vs hl hσ => ?_⟩
  obtain ⟨v, w, rfl⟩ : ∃ v w, vs = [v, w] := by
    match vs, hl with
    | [v, w], _ => exact ⟨v, w, rfl⟩
  refine ⟨v, w, rfl, ?_⟩
  rw [hσ] at r'
  have r' : D.nx _ H' := r'
  rw [List.set_comm _ _ hij]
  exact r'
/-! ### x += e, ints -/
def dAddI : Op2
  | .int i, .int j => some (.int (i + j), .new)
  | _, _ => none
def svAug (i : Nat) (fe : Ev) : Sv := fun st => match st.sl[i]? with
  | some (some (.int n, false)) => svSet i (evOp dAddI (evC (.int n)) fe) st
  | _ => .stuck
end
end D

/-! D: what a loop walks; for. -/
namespace D
open PySem L2 PyProof.Rows

structure Later (ρ : List CellA) (A : Addr → Prop) (H : Hp) (ρ' : List CellA) (A' : Addr → Prop) (H' : Hp) : Prop where
  pre : ρ <+: ρ'
  fr : ∀ a o, H a = some o → ¬ A a → NT o → H' a = some o
  av : ∀ a, A' a → A a ∨ H a = none
  dm : ∀ a, H a ≠ none → H' a ≠ none
section
variable {ρ ρ1 ρ2 : List CellA} {A A1 A2 : Addr → Prop} {H H1 H2 : Hp}
theorem Later.refl : Later ρ A H ρ A H := ⟨List.prefix_refl _, fun _ _ e _ _ => e, fun _ z => .inl z, fun _ z => z⟩
theorem Later.trans (a : Later ρ A H ρ1 A1 H1) (b : Later ρ1 A1 H1 ρ2 A2 H2) : Later ρ A H ρ2 A2 H2 :=
  ⟨a.pre.trans b.pre, fun p o e n nt => b.fr p o (a.fr p o e n nt) (fun z => (a.av p z).elim n fun q => (by rw [e] at q; cases q)) nt, fun p z => (b.av p z).elim (a.av p) fun q => .inr (none_of_dm a.dm q), fun p z => b.dm p (a.dm p z)⟩
theorem Rep.later {C : RC} {v : V} {d : DV} (l : Later ρ A H ρ1 A1 H1) (r : Rep C ρ A H v d) : Rep C ρ1 A1 H1 v d := r.mv l.pre l.fr l.av
theorem RepL.later {C : RC} {v : List V} {d : List DV} (l : Later ρ A H ρ1 A1 H1) (r : RepL C ρ A H v d) : RepL C ρ1 A1 H1 v d := r.mv l.pre l.fr l.av
theorem Later.of {B : BC} {σ σ1 : L2.St} {st st1 : DS} (s : SStep B σ ρ st H σ1 ρ1 st1 H1) : Later ρ (Av ρ B.O st σ) H ρ1 (Av ρ1 B.O st1 σ1) H1 :=
  ⟨s.pre, fun a o e n => s.fr a o e (fun z => n (.cm z)) fun i z => n (.inr (.inr ⟨i, z⟩)), s.av, s.dm⟩
/-- an object at p that is not there yet -/
theorem Later.alloc {p : Addr} {o : HO} (hp : H p = none) : Later ρ A H ρ A (upd H p o) :=
  ⟨List.prefix_refl _, fun a u e _ _ => by rw [upd_ne (ne_of_none e hp)]; exact e, fun _ z => .inl z, fun a z => by
    obtain ⟨u, eu⟩ := Option.ne_none_iff_exists'.mp z
    rw [upd_ne (ne_of_none eu hp), eu]; exact fun z => nomatch z⟩
end
/-- what J yields, from there on -/
def Src (C : RC) (J : It) (ds : List DV) (ρ : List CellA) (A : Addr → Prop) (H : Hp) : Prop := ∀ ρ' A' H', Later ρ A H ρ' A' H' → (∀ a, A' a → H' a ≠ none) →
  (∀ (i : Nat) (d : DV), ds[i]? = some d → J.go i H' ∧ ∀ x H2, J.yld i H' x H2 → (H2 = H' ∨ ∃ p o, H' p = none ∧ H2 = upd H' p o) ∧ Rep C ρ' A' H2 x d) ∧ ∀ i, ds.length ≤ i → J.stop i H'
theorem Src.later {C : RC} {J : It} {ds : List DV} {ρ ρ1 : List CellA} {A A1 : Addr → Prop} {H H1 : Hp} (s : Src C J ds ρ A H) (l : Later ρ A H ρ1 A1 H1) : Src C J ds ρ1 A1 H1 :=
  fun ρ' A' H' l' => s ρ' A' H' (l.trans l')
abbrev Iv := DS → Out (List DV)
def GI (B : BC) (σ : L2.St) (R : It → Hp → Prop) : List DV → DS → List CellA → Hp → Prop := fun ds st' ρ' H' => ∀ J, Src B.C J ds ρ' (Av ρ' B.O st' σ) H' → R J H'
def RI (B : BC) (W : WX) (f : Iv) : TI := fun σ H R => ∃ ρ st, Rel B ρ st σ H ∧ Res B W σ ρ st H (f st) (GI B σ R)
def PID (X : Cx) (B : BC) (W : WX) (tg iter : Expr) (f : Iv) : Prop := PI X tg iter (RI B W f)
theorem PI.mono {X : Cx} {tg e : Expr} {t t' : TI} (h : PI X tg e t) (m : ∀ σ H R, t' σ H R → t σ H R) : PI X tg e t' := ⟨fun pins s σ H R I r => h.run pins s σ H R I (m _ _ _ r)⟩

section
variable {X : Cx} {B : BC} {W : WX} {σ : L2.St} {ρ ρ1 : List CellA} {st st1 : DS} {H H1 : Hp} {e tg iter : Expr} {fe : Ev} {pos : Pos} {C : RC}
/-! ### sources -/
theorem src_lst {A : Addr → Prop} {a : Addr} {ds : List DV} (h : ∀ ρ' A' H', Later ρ A H ρ' A' H' → ∃ xs, SqL C.K H' a xs ∧ RepL C ρ' A' H' xs ds) : Src C (Itl C.K a) ds ρ A H := by
  intro ρ' A' H' l dom
  obtain ⟨xs, hq, r⟩ := h ρ' A' H' l
  refine ⟨fun i d hd => ?_, fun i hi => ⟨xs, hq, by rw [r.length]; exact hi⟩⟩
  obtain ⟨v, hv, rv⟩ := r.get hd
  refine ⟨⟨xs, v, hq, hv⟩, fun x H2 ⟨e, y⟩ => ⟨.inl e, ?_⟩⟩
  subst e
  have := y xs hq
  rw [hv] at this
  cases this
  exact rv
theorem src_tup {A : Addr → Prop} {a : Addr} {ds : List DV} (h : ∀ ρ' A' H', Later ρ A H ρ' A' H' → ∃ xs, SqT C.K H' a xs ∧ RepL C ρ' A' H' xs ds) : Src C (Itt C.K a) ds ρ A H := by
  intro ρ' A' H' l dom
  obtain ⟨xs, hq, r⟩ := h ρ' A' H' l
  refine ⟨fun i d hd => ?_, fun i hi => ⟨xs, hq, by rw [r.length]; exact hi⟩⟩
  obtain ⟨v, hv, rv⟩ := r.get hd
  refine ⟨⟨xs, v, hq, hv⟩, fun x H2 ⟨e, y⟩ => ⟨.inl e, ?_⟩⟩
  subst e
  have := y xs hq
  rw [hv] at this
  cases this
  exact rv
theorem scr_repL {A : Addr → Prop} : ∀ ns : List Int, RepL C ρ A H (ns.map V.int) (ns.map DV.int)
  | [] => .nil
  | n :: ns => .cons (.int n) (scr_repL ns)
/-- a list, in all states from there on -/
theorem lst_later {A : Addr → Prop} {v : V} {ds : List DV} (r : Rep C ρ A H v (.lst ds)) : ∃ a, v = .ref a ∧ ∀ ρ' A' H', Later ρ A H ρ' A' H' → ∃ xs, SqL C.K H' a xs ∧ RepL C ρ' A' H' xs ds := by
  have r0 := r
  cases r with
  | lst n e r =>
    refine ⟨_, rfl, fun ρ' A' H' l => ?_⟩
    have r' := r0.later l
    cases r' with
    | lst n e r => exact ⟨_, .of e, r⟩
theorem tup_later {A : Addr → Prop} {v : V} {ds : List DV} (r : Rep C ρ A H v (.tup ds)) : ∃ a, v = .ref a ∧ ∀ ρ' A' H', Later ρ A H ρ' A' H' → ∃ xs, SqT C.K H' a xs ∧ RepL C ρ' A' H' xs ds := by
  have r0 := r
  obtain ⟨a, xs, rfl, _⟩ := sqT_of r
  refine ⟨a, rfl, fun ρ' A' H' l => ?_⟩
  obtain ⟨a', xs, e, h1, h2⟩ := sqT_of (r0.later l)
  cases e
  exact ⟨xs, h1, h2⟩
theorem scr_later {A : Addr → Prop} {v : V} {ns : List Int} (r : Rep C ρ A H v (.scr ns)) : ∃ a, v = .ref a ∧ ∀ ρ' A' H', Later ρ A H ρ' A' H' → ∃ xs, SqL C.K H' a xs ∧ RepL C ρ' A' H' xs (ns.map DV.int) := by
  have r0 := r
  cases r with
  | scr n e =>
    refine ⟨_, rfl, fun ρ' A' H' l => ?_⟩
    have r' := r0.later l
    cases r' with
    | scr n e => exact ⟨_, .inl (.inr ⟨_, e⟩), scr_repL _⟩
    | kscr k => exact ⟨_, .inr k, scr_repL _⟩
  | kscr k => exact ⟨_, rfl, fun ρ' A' H' l => ⟨_, .inr k, scr_repL _⟩⟩
theorem src_str {A : Addr → Prop} {s : Str} : Src C (Its s) (strItems s) ρ A H := by
  intro ρ' A' H' l dom
  refine ⟨fun i d hd => ?_, fun i hi => (show s.cps.size ≤ i by simpa [strItems] using hi)⟩
  simp only [strItems, List.getElem?_map, Option.map_eq_some_iff] at hd
  obtain ⟨c, hc, rfl⟩ := hd
  have hi : i < s.cps.size := by
    have := (List.getElem?_eq_some_iff.mp hc).1
    simpa using this
  refine ⟨hi, fun x H2 ⟨e, c', hc', ex⟩ => ⟨.inl e, ?_⟩⟩
  subst e ex
  have : c' = c := by
    have h1 : s.cps.toList[i]? = some c' := by rw [Array.getElem?_toList]; exact hc'
    rw [hc] at h1; cases h1; rfl
  subst this
  exact .str _
def rangeL (lo : Int) (n : Nat) : List DV := (List.range n).map fun i => .int (lo + (i : Nat))
theorem src_range {A : Addr → Prop} {lo : Int} {n : Nat} : Src C (Itr lo n) (rangeL lo n) ρ A H := by
  intro ρ' A' H' l dom
  refine ⟨fun i d hd => ?_, fun i hi => (show n ≤ i by simpa [rangeL] using hi)⟩
  simp only [rangeL, List.getElem?_map, Option.map_eq_some_iff] at hd
  obtain ⟨k, hk, rfl⟩ := hd
  obtain ⟨hi, hk⟩ := List.getElem?_eq_some_iff.mp hk
  simp only [List.getElem_range] at hk
  subst hk
  refine ⟨(show i < n by simpa using hi), fun x H2 ⟨e, ex⟩ => ⟨.inl e, ?_⟩⟩
  subst ex
  exact .int _
def rangeC (lo c : Int) (n : Nat) : List DV := (List.range n).map fun i => .int (lo + (i : Nat) * c)
def enumL (ds : List DV) : List DV := ds.zipIdx.map fun p => .tup [.int (p.2 : Nat), p.1]
theorem src_enum {A : Addr → Prop} {a : Addr} {ds : List DV} (h : ∀ ρ' A' H', Later ρ A H ρ' A' H' → ∃ xs, SqL C.K H' a xs ∧ RepL C ρ' A' H' xs ds) : Src C (Ite C.K a) (enumL ds) ρ A H := by
  intro ρ' A' H' l dom
  obtain ⟨xs, hq, r⟩ := h ρ' A' H' l
  refine ⟨fun i d hd => ?_, fun i hi => ⟨xs, hq, by rw [r.length]; simpa [enumL] using hi⟩⟩
  simp only [enumL, List.getElem?_map, List.getElem?_zipIdx, Option.map_eq_some_iff] at hd
  obtain ⟨p, ⟨d0, hd0, rfl⟩, rfl⟩ := hd
  obtain ⟨v, hv, rv⟩ := r.get hd0
  refine ⟨⟨xs, v, hq, hv⟩, fun x H2 ⟨T, x', ex, hT, eH, y⟩ => ⟨.inr ⟨T, _, hT, eH⟩, ?_⟩⟩
  subst ex eH
  have := y xs hq
  rw [hv] at this
  cases this
  refine .tup (fun z => dom T z hT) upd_same (.cons ?_ (.cons (rv.later (Later.alloc hT)) .nil))
  have e0 : (i : Int) = ((0 + i : Nat) : Int) := by simp
  rw [e0]
  exact .int _
def zipL (ds es : List DV) : List DV := (ds.zip es).map fun p => .tup [p.1, p.2]
/-! ### iterables -/
def iAny (K : PySem.W.Frag) (tl : TE) : TI := fun σ H R => tl σ H fun x H1 => (∃ a, x = .ref a ∧ (∃ xs, SqL K H1 a xs) ∧ R (Itl K a) H1) ∨ (∃ a, x = .ref a ∧ (∃ xs, SqT K H1 a xs) ∧ R (Itt K a) H1) ∨ ∃ s, x = .str s ∧ R (Its s) H1
theorem pi_any {l : Expr} {tl : TE} (hl : PE X l tl) : PI X tg l (iAny X.K tl) := by
  refine ⟨fun pins s σ H R I h => ?_⟩
  refine thn (hl.run pins s σ H _ I h) fun v s1 ⟨x, H1, I1, r1, q1⟩ => ?_
  rcases q1 with ⟨a, e, ⟨xs, hq⟩, q⟩ | ⟨a, e, ⟨xs, hq⟩, q⟩ | ⟨y, e, q⟩
  · subst e
    cases r1
    obtain ⟨its, rv, p, hz⟩ := I1.list hq
    exact wpAny_pyIter_list p.isList (pi_one (tk := s1.toks) I1 _ (turn_list a _) ⟨_, Heap.get?_push_size _ rfl, rfl, rfl⟩ q)
  · subst e
    cases r1
    obtain ⟨its, rv, p, hz⟩ := I1.tuple hq
    exact wpAny_pyIter_tuple (show s1.heap.IsTuple a its.toArray from p) (pi_one (tk := s1.toks) I1 _ (turn_tuple a _) ⟨_, Heap.get?_push_size _ rfl, rfl, rfl⟩ q)
  · subst e
    obtain ⟨t, rfl⟩ := r1
    cases ha : y.cps.all (· < 128)
    · exact wpAny_pyIter_wide ha (pi_one (tk := s1.toks) I1 _ (turn_str _ y t "str_iterator" (.inr rfl)) ⟨_, Heap.get?_push_size _ rfl, rfl, rfl⟩ q)
    · exact wpAny_pyIter_ascii ha (pi_one (tk := s1.toks) I1 _ (turn_str _ y t "str_ascii_iterator" (.inl rfl)) ⟨_, Heap.get?_push_size _ rfl, rfl, rfl⟩ q)
def itemsD : DV → Option (List DV)
  | .lst ds => some ds
  | .tup ds => some ds
  | .scr ns => some (ns.map .int)
  | .str s => some (strItems s)
  | _ => none
def ivE (fe : Ev) : Iv := fun st => (fe st).bind fun a st1 => match itemsD a.1 with
  | some ds => .ok ds (st1.eat a.2)
  | none => .stuck
/-- a list, tuple or text -/
theorem pid_any (hK : B.C.K = X.K) (he : PD X B W e fe) : PID X B W tg e (ivE fe) := by
  refine PI.mono (pi_any he) fun σ H R ⟨ρ, st, rel, res⟩ => ?_
  refine RD.go rel (Res.bind res) fun a st1 ρ1 H1 s1 r1 v rv fv => ?_
  obtain ⟨d, kd⟩ := a
  cases ed : itemsD d with
  | none => rw [ed] at r1; exact r1.elim
  | some ds =>
    rw [ed] at r1
    have go := r1 _ _ (Step.eat s1.rel kd)
    have rv := rv.eat
    rw [← hK]
    cases d <;> first | (cases ed; done) | skip
    · cases ed
      obtain ⟨s, e, _⟩ : ∃ s, v = .str s ∧ True := by cases rv; exact ⟨_, rfl, trivial⟩
      subst e
      have := RepK.str (kd := .fro) (B := B) (σ := σ) rv
      cases this
      exact .inr (.inr ⟨_, rfl, go _ src_str⟩)
    · cases ed
      obtain ⟨a, rfl, h⟩ := lst_later rv
      obtain ⟨xs, h1, _⟩ := h _ _ _ .refl
      exact .inl ⟨a, rfl, ⟨xs, h1⟩, go _ (src_lst h)⟩
    · cases ed
      obtain ⟨a, rfl, h⟩ := tup_later rv
      obtain ⟨xs, h1, _⟩ := h _ _ _ .refl
      exact .inr (.inl ⟨a, rfl, ⟨xs, h1⟩, go _ (src_tup h)⟩)
    · cases ed
      obtain ⟨a, rfl, h⟩ := scr_later rv
      obtain ⟨xs, h1, _⟩ := h _ _ _ .refl
      exact .inl ⟨a, rfl, ⟨xs, h1⟩, go _ (src_lst h)⟩

def ivR1 (g : Ak) : Iv := fun st => (g st).bind fun (as : List (DV × Kd)) st1 => match as.map (·.1) with
  | [DV.int j] => if -(2 ^ 62) ≤ j ∧ j < 2 ^ 62 then .ok (rangeL 0 j.toNat) st1 else .stuck
  | _ => .stuck
def ivR2 (g : Ak) : Iv := fun st => (g st).bind fun (as : List (DV × Kd)) st1 => match as.map (·.1) with
  | [DV.int i, DV.int j] => if (-(2 ^ 62) ≤ i ∧ i < 2 ^ 62) ∧ (-(2 ^ 62) ≤ j ∧ j < 2 ^ 62) then .ok (rangeL i (j - i).toNat) st1 else .stuck
  | _ => .stuck
def rgOk (i j c : Int) : Bool := c != 0 && decide (c.natAbs < 1073741824) && Builtin.Range.small i j c && decide (0 ≤ Builtin.Range.rangeSize i j c)
def ivR3 (g : Ak) : Iv := fun st => (g st).bind fun (as : List (DV × Kd)) st1 => match as.map (·.1) with
  | [DV.int i, DV.int j, DV.int c] => if rgOk i j c = true then .ok (rangeC i c (Builtin.Range.rangeSize i j c).toNat) st1 else .stuck
  | _ => .stuck
def ivEnum (g : Ak) : Iv := fun st => (g st).bind fun (as : List (DV × Kd)) st1 => match as with
  | [a] => (match a.1 with
    | .lst ds => .ok (enumL ds) (st1.eat a.2)
    | _ => .stuck)
  | _ => .stuck
def ivZip (g : Ak) : Iv := fun st => (g st).bind fun (as : List (DV × Kd)) st1 => match as with
  | [a, b] => (match a.1, b.1 with
    | .lst ds, .lst es => .ok (zipL ds es) ((st1.eat a.2).eat b.2)
    | _, _ => .stuck)
  | _ => .stuck
variable {g : Ak} {a b c : Expr} {p : Pos}
theorem pid_range1 (hg : Gl X "range") (hm : X.mg "range" = none) (ha : PKD X B W [a] g) (hs : starEach [a] X.env = [(false, eval a X.env)]) : PID X B W tg (.Call (.Name "range" p) [a] [] pos) (ivR1 g) := by
  refine PI.mono (pi_range1 hg hm ha hs) fun σ H R ⟨ρ, st, rel, res⟩ => ?_
  refine RK.go rel (Res.bind res) fun as st1 ρ1 H1 s1 r1 vs rv => ?_
  split at r1
  · rename_i j e
    split at r1
    · rename_i hj
      obtain ⟨v, kd, rfl, r⟩ := one_of rv e
      obtain rfl := r.int
      exact ⟨j, rfl, hj.1, hj.2, Res.now s1.rel r1 _ src_range⟩
    · exact r1.elim
  · exact r1.elim
/-! ### for -/
def forGo (g : Gv) (f : Sv) : List DV → Sv
  | [] => fun st => .ok .nx st
  | d :: ds => fun st => match g d st with
    | none => .stuck
    | some st1 => (f st1).bind fun fl st2 => (match fl with
      | .nx => forGo g f ds st2
      | .ct => forGo g f ds st2
      | .bk => .ok .nx st2
      | .rt d kd => .ok (.rt d kd) st2)
def svFor (fi : Iv) (g : Gv) (f : Sv) : Sv := fun st => (fi st).bind fun ds st1 => forGo g f ds st1
theorem RI.go {R : It → Hp → Prop} {f : Iv} {G : List DV → DS → List CellA → Hp → Prop} (rel : Rel B ρ st σ H) (r : Res B W σ ρ st H (f st) G)
    (h : ∀ ds st' ρ' H', Step B σ ρ st H ρ' st' H' → G ds st' ρ' H' → ∀ J, Src B.C J ds ρ' (Av ρ' B.O st' σ) H' → R J H') : RI B W f σ H R := ⟨ρ, st, rel, r.imp h⟩
/-- the turn's new object -/
theorem yld_step {H2 : Hp} (rel : Rel B ρ st σ H) (h : H2 = H ∨ ∃ p o, H p = none ∧ H2 = upd H p o) : Step B σ ρ st H ρ st H2 := by
  rcases h with rfl | ⟨p, o, hp, rfl⟩
  · exact .refl rel
  · exact .alloc rel hp
theorem psd_for {vs : List Nat} {body : List Stmt} {fi : Iv} {gv : Gv} {f : Sv} (hp : PassesOwn (model X.prog X.w) X.A X.env X.xe) (hc : X.calm = true) (hi : PID X B W tg iter fi) (hg : PGD X B.C vs tg gv) (hb : PSsD X B W body f)
    (hs : ∀ x, foldedSetIterable iter X.env x = pure x) : PSD X B W (.For tg iter body [] pos) (svFor fi gv f) := by
  refine PS.mono (ps_for hp hc hi hg hb hs) fun D σ H ⟨ρ, st, rel, r⟩ => ?_
  refine RI.go rel (SRes.ex r) fun ds st1 ρ1 H1 s1 r1 J src => ?_
  refine ⟨fun i m σ' H' => ∃ ρ' st', Later ρ1 (Av ρ1 B.O st1 σ) H1 ρ' (Av ρ' B.O st' σ') H' ∧ Rel B ρ' st' σ' H' ∧ m + i = ds.length ∧ SRes B W σ' ρ' st' H' (forGo gv f (ds.drop i) st') (GS B D), ⟨ds.length, ρ1, st1, .refl, s1.rel, by simp, r1⟩, ?_⟩
  rintro i m σ2 H2 ⟨ρ2, st2, l2, rel2, hm, r2⟩
  obtain ⟨hgo, hstop⟩ := src _ _ _ l2 fun a z => rel2.av_dom z
  cases hd : ds[i]? with
  | none =>
    have hi : ds.length ≤ i := List.getElem?_eq_none_iff.mp hd
    rw [List.drop_eq_nil_of_le hi] at r2
    exact .inl ⟨hstop i hi, SRes.now rel2 r2⟩
  | some d =>
    obtain ⟨hi, hd'⟩ := List.getElem?_eq_some_iff.mp hd
    rw [List.drop_eq_getElem_cons hi, hd'] at r2
    obtain ⟨g1, y1⟩ := hgo i d hd
    have r2 : SRes B W σ2 ρ2 st2 H2 (match gv d st2 with
      | none => .stuck
      | some st1 => (f st1).bind fun fl st2 => (match fl with
        | .nx => forGo gv f (ds.drop (i + 1)) st2
        | .ct => forGo gv f (ds.drop (i + 1)) st2
        | .bk => .ok .nx st2
        | .rt d kd => .ok (.rt d kd) st2)) (GS B D) := r2
    cases eg : gv d st2 with
    | none => rw [eg] at r2; exact r2.elim
    | some st3 =>
      rw [eg] at r2
      refine .inr ⟨g1, fun σ' H' => ∃ ρ' st', Later ρ1 (Av ρ1 B.O st1 σ) H1 ρ' (Av ρ' B.O st' σ') H' ∧ Rel B ρ' st' σ' H' ∧ (m - 1) + (i + 1) = ds.length ∧ SRes B W σ' ρ' st' H' (forGo gv f (ds.drop (i + 1)) st') (GS B D),
        fun σ' H' hN => ⟨m - 1, by omega, hN⟩, fun x H3 hy => ?_⟩
      obtain ⟨ha, rx⟩ := y1 x H3 hy
      have s3 := yld_step rel2 ha
      refine ⟨B, ρ2, st2, d, st3, rfl, s3.rel, rx, eg, fun σ4 s4 _ => ?_⟩
      have s34 := (SStep.of s3).trans s4
      refine ⟨ρ2, st3, s4.rel, (SRes.bind (SRes.from s34 r2)).imp fun fl σ5 st5 ρ5 H5 s5 r5 => ?_⟩
      have l5 := l2.trans (Later.of (s34.trans s5))
      cases fl with
      | nx => exact ⟨ρ5, st5, l5, s5.rel, by omega, r5⟩
      | ct => exact ⟨ρ5, st5, l5, s5.rel, by omega, r5⟩
      | bk => exact SRes.now (W := W) s5.rel r5
      | rt d kd => exact SRes.now (W := W) s5.rel r5
end
end D

/-! D: list comprehensions. -/
namespace D
open PySem L2 PyProof.Rows

def WF : WX := fun _ _ _ _ => False
/-! ### slots forgotten, brought back -/
def wipeSl (l : List Slot) : List Nat → List Slot
  | [] => l
  | v :: vs => (wipeSl l vs).set v none
def backSl (l0 l : List Slot) : List Nat → List Slot
  | [] => l
  | v :: vs => match l0[v]? with
    | some s => (backSl l0 l vs).set v s
    | none => backSl l0 l vs
def DS.wipe (st : DS) (vs : List Nat) : DS := ⟨wipeSl st.sl vs, st.cs⟩
def DS.back (st0 st : DS) (vs : List Nat) : DS := ⟨backSl st0.sl st.sl vs, st.cs⟩
def DS.dropAll (st : DS) : List Nat → DS
  | [] => st
  | v :: vs => (st.drop v).dropAll vs
theorem wipeSl_len (l : List Slot) : ∀ vs, (wipeSl l vs).length = l.length
  | [] => rfl
  | v :: vs => by unfold wipeSl; rw [List.length_set, wipeSl_len l vs]
theorem wipeSl_out {l : List Slot} {i : Nat} : ∀ {vs : List Nat}, i ∉ vs → (wipeSl l vs)[i]? = l[i]?
  | [], _ => rfl
  | v :: vs, h => by
    unfold wipeSl
    have h1 : v ≠ i := fun z => h (by simp [z])
    rw [List.getElem?_set_ne h1]
    exact wipeSl_out fun z => h (by simp [z])
theorem wipeSl_in {l : List Slot} {i : Nat} {x : DV × Bool} : ∀ {vs : List Nat}, i ∈ vs → (wipeSl l vs)[i]? ≠ some (some x)
  | [], h => by simp at h
  | v :: vs, h => by
    unfold wipeSl
    intro z
    by_cases hv : v = i
    · subst hv
      by_cases hl : v < (wipeSl l vs).length
      · rw [List.getElem?_set_self hl] at z; cases z
      · rw [List.getElem?_eq_none (by rw [List.length_set]; omega)] at z; cases z
    · rw [List.getElem?_set_ne hv] at z
      have : i ∈ vs := by
        rcases List.mem_cons.mp h with h | h
        · exact absurd h.symm hv
        · exact h
      exact wipeSl_in this z
theorem wipe_in {σ : L2.St} {i : Nat} {x : V} {vs : List Nat} (h : i ∈ vs) : (wipe σ vs)[i]? ≠ some (some x) := fun z => (wipe_some z).2 h
theorem backSl_len (l0 l : List Slot) : ∀ vs, (backSl l0 l vs).length = l.length
  | [] => rfl
  | v :: vs => by
    unfold backSl
    split
    · rw [List.length_set, backSl_len l0 l vs]
    · exact backSl_len l0 l vs
theorem backSl_out {l0 l : List Slot} {i : Nat} : ∀ {vs : List Nat}, i ∉ vs → (backSl l0 l vs)[i]? = l[i]?
  | [], _ => rfl
  | v :: vs, h => by
    unfold backSl
    have h1 : v ≠ i := fun z => h (by simp [z])
    have h2 := backSl_out (l0 := l0) (l := l) (i := i) (vs := vs) fun z => h (by simp [z])
    split
    · rw [List.getElem?_set_ne h1]; exact h2
    · exact h2
theorem backSl_in {l0 l : List Slot} (hl : l0.length = l.length) {i : Nat} : ∀ {vs : List Nat}, i ∈ vs → (backSl l0 l vs)[i]? = l0[i]?
  | [], h => by simp at h
  | v :: vs, h => by
    unfold backSl
    by_cases hv : v = i
    · subst hv
      cases e : l0[v]? with
      | none =>
        have : l0.length ≤ v := List.getElem?_eq_none_iff.mp e
        exact List.getElem?_eq_none (by rw [backSl_len]; omega)
      | some s =>
        have : v < l0.length := (List.getElem?_eq_some_iff.mp e).1
        exact List.getElem?_set_self (by rw [backSl_len]; omega)
    · have hi : i ∈ vs := by
        rcases List.mem_cons.mp h with h | h
        · exact absurd h.symm hv
        · exact h
      split
      · rw [List.getElem?_set_ne hv]; exact backSl_in hl hi
      · exact backSl_in hl hi
theorem wipe_eq {σ σ' : L2.St} {vs : List Nat} (hl : σ'.length = σ.length) (h : ∀ i, i ∉ vs → σ'[i]? = σ[i]?) : wipe σ' vs = wipe σ vs := by
  refine List.ext_getElem? fun i => ?_
  by_cases hi : i ∈ vs
  · by_cases hn : i < σ.length
    · have a : ∀ σ0 : L2.St, i < σ0.length → (wipe σ0 vs)[i]? = some none := fun σ0 h0 => by
        have h1 : i < (wipe σ0 vs).length := by rw [wipe_length]; exact h0
        rw [List.getElem?_eq_getElem h1]
        cases e : (wipe σ0 vs)[i] with
        | none => rfl
        | some x =>
          exfalso
          exact wipe_in (x := x) (σ := σ0) hi (by rw [List.getElem?_eq_getElem h1, e])
      rw [a σ' (by omega), a σ hn]
    · rw [List.getElem?_eq_none (by rw [wipe_length]; omega), List.getElem?_eq_none (by rw [wipe_length]; omega)]
  · rw [wipe_out hi, wipe_out hi, h i hi]
section
variable {X : Cx} {B : BC} {W : WX} {σ σ1 σ2 : L2.St} {ρ ρ1 ρ2 : List CellA} {st st1 st2 : DS} {H H1 H2 : Hp} {p : Addr} {vs : List Nat}
theorem Step.dropAll : ∀ (vs : List Nat) {st : DS}, Rel B ρ st σ H → Step B σ ρ st H ρ (st.dropAll vs) H
  | [], _, r => .refl r
  | v :: vs, _, r => (Step.drop r v).trans (Step.dropAll vs (Step.drop r v).rel)
theorem drop_frozen {st : DS} {v i : Nat} {d : DV} (h : (st.drop v).sl[i]? = some (some (d, true))) : i ≠ v ∧ st.sl[i]? = some (some (d, true)) := by
  by_cases hj : i = v
  · subst hj
    exact absurd (dropSl_at st.sl i d true h).1 (by simp)
  · exact ⟨hj, by rw [← dropSl_ne st.sl v i hj]; exact h⟩
theorem dropAll_frozen {i : Nat} {d : DV} : ∀ {vs : List Nat} {st : DS}, (st.dropAll vs).sl[i]? = some (some (d, true)) → i ∉ vs ∧ st.sl[i]? = some (some (d, true))
  | [], st, h => ⟨by simp, h⟩
  | v :: vs, st, h => by
    obtain ⟨h1, h2⟩ := dropAll_frozen (vs := vs) (st := st.drop v) h
    obtain ⟨h3, h4⟩ := drop_frozen h2
    exact ⟨by simp [h1, h3], h4⟩
/-- none of the block's slots is own -/
def NoOwn (vs : List Nat) (st : DS) : Prop := ∀ (i : Nat) (d : DV), i ∈ vs → st.sl[i]? ≠ some (some (d, true))
theorem noOwn_dropAll : NoOwn vs (st.dropAll vs) := fun i d hi h => (dropAll_frozen h).1 hi
theorem wipe_own (no : NoOwn vs st) {i : Nat} {a : Addr} : ownAt (st.wipe vs) (wipe σ vs) i a ↔ ownAt st σ i a := by
  constructor
  · rintro ⟨d, h1, h2⟩
    by_cases hi : i ∈ vs
    · exact absurd h1 (wipeSl_in hi)
    · have h1 : (wipeSl st.sl vs)[i]? = some (some (d, true)) := h1
      rw [wipeSl_out hi] at h1
      rw [wipe_out hi] at h2
      exact ⟨d, h1, h2⟩
  · rintro ⟨d, h1, h2⟩
    have hi : i ∉ vs := fun z => no i d z h1
    exact ⟨d, (wipeSl_out hi).trans h1, (wipe_out hi).trans h2⟩
theorem wipe_av (no : NoOwn vs st) {O : Addr → Prop} {a : Addr} : Av ρ O (st.wipe vs) (wipe σ vs) a ↔ Av ρ O st σ a := by
  unfold Av
  simp only [wipe_own no]
theorem Rel.wipe (r : Rel B ρ st σ H) (no : NoOwn vs st) : Rel B ρ (st.wipe vs) (L2.wipe σ vs) H := by
  have mv : ∀ a, Av ρ B.O (st.wipe vs) (L2.wipe σ vs) a → Av ρ B.O st σ a ∨ H a = none := fun a z => .inl ((wipe_av no).mp z)
  refine ⟨by rw [wipe_length]; exact (wipeSl_len _ _).trans r.len, fun i d h => ?_, fun i d h => ?_, fun i j q h1 h2 => r.dis i j q ((wipe_own no).mp h1) ((wipe_own no).mp h2), r.dom, r.odom, ⟨r.cel.len, fun k c x h1 h2 => ?_, r.cel.dis⟩, r.cdom, r.tabs⟩
  · by_cases hi : i ∈ vs
    · exact absurd h (wipeSl_in hi)
    · have h : (wipeSl st.sl vs)[i]? = some (some (d, false)) := h
      rw [wipeSl_out hi] at h
      obtain ⟨v, e, q⟩ := r.fro i d h
      exact ⟨v, (wipe_out hi).trans e, q.mv (List.prefix_refl _) (fun _ _ e _ _ => e) mv⟩
  · by_cases hi : i ∈ vs
    · exact absurd h (wipeSl_in hi)
    · have h : (wipeSl st.sl vs)[i]? = some (some (d, true)) := h
      rw [wipeSl_out hi] at h
      obtain ⟨q, e, c, n⟩ := r.own i d h
      exact ⟨q, (wipe_out hi).trans e, c.mv (List.prefix_refl _) (fun _ _ e _ _ => e) mv rfl, n⟩
  · have q := r.cel.ok k c x h1 h2
    cases x with
    | draw d => exact q
    | obj d => exact ⟨q.1, q.2.mv (List.prefix_refl _) (fun _ _ e _ _ => e) mv rfl⟩
    | dead => trivial
theorem Rel.holdA (r : Rel B ρ st σ H) {o : HO} (hp : H p = none) : Rel (B.hold p) ρ st σ (upd H p o) := by
  have r1 := r.alloc (o := o) hp
  have kp : ∀ a u, H a = some u → upd H p o a = some u := fun a u e => by rw [upd_ne (ne_of_none e hp)]; exact e
  have mv : ∀ a, Av ρ (B.hold p).O st σ a → Av ρ B.O st σ a ∨ H a = none := fun a z => by
    rcases av_hold z with z | rfl
    · exact .inl z
    · exact .inr hp
  refine ⟨r.len, fun i d h => ?_, fun i d h => ?_, r.dis, r1.dom, fun a z => ?_, ⟨r.cel.len, fun k c x h1 h2 => ?_, r.cel.dis⟩, r1.cdom, r1.tabs⟩
  · obtain ⟨v, e, q⟩ := r.fro i d h
    exact ⟨v, e, q.mv (List.prefix_refl _) (fun a u e _ _ => kp a u e) mv⟩
  · obtain ⟨q, e, c, n1, n2, n3⟩ := r.own i d h
    obtain ⟨u, eu, nteu⟩ := c.nt
    exact ⟨q, e, c.mv (List.prefix_refl _) (fun a u e _ _ => kp a u e) mv ((kp _ _ eu).trans eu.symm), n1, fun z => z.elim n2 fun z => (by subst z; exact c.some hp), n3⟩
  · rcases z with z | rfl
    · exact r1.odom a z
    · rw [upd_same]; exact fun z => nomatch z
  · have q := r.cel.ok k c x h1 h2
    cases x with
    | draw d =>
      obtain ⟨g, l, e, n1, n2, n3, a, b, c⟩ := q
      exact ⟨g, l, e, n1, n2, n3, kp _ _ a, kp _ _ b, kp _ _ c⟩
    | obj d =>
      obtain ⟨e, q⟩ := q
      obtain ⟨u, eu, nteu⟩ := q.nt
      exact ⟨e, q.mv (List.prefix_refl _) (fun a u e _ _ => kp a u e) mv ((kp _ _ eu).trans eu.symm)⟩
    | dead => trivial
/-- what is held may be written -/
theorem Rel.writeHeld (r : Rel (B.hold p) ρ st σ H) (hc : ¬ CM ρ p) {o : HO} (hw : ∀ u, H p = some u → WR u) : Rel (B.hold p) ρ st σ (upd H p o) := by
  have kp : ∀ a u, H a = some u → ¬ Av ρ (B.hold p).O st σ a → NT u → upd H p o a = some u := fun a u e n _ => by
    rw [upd_ne (fun z => n (by subst z; exact .inl (.inr rfl)))]; exact e
  have mv : ∀ a, Av ρ (B.hold p).O st σ a → Av ρ (B.hold p).O st σ a ∨ H a = none := fun a z => .inl z
  have dm : ∀ a, H a ≠ none → upd H p o a ≠ none := fun a z => by
    by_cases h : a = p
    · subst h; rw [upd_same]; exact fun z => nomatch z
    · rw [upd_ne h]; exact z
  have kc : ∀ a, CM ρ a → upd H p o a = H a := fun a z => upd_ne fun e => hc (e ▸ z)
  refine ⟨r.len, fun i d h => ?_, fun i d h => ?_, r.dis, fun a z => dm a (r.dom a z), fun a z => dm a (r.odom a z), ⟨r.cel.len, fun k c x h1 h2 => ?_, r.cel.dis⟩, fun a z => dm a (r.cdom a z), tabs_write r.tabs hw⟩
  · obtain ⟨v, e, q⟩ := r.fro i d h
    exact ⟨v, e, q.mv (List.prefix_refl _) kp mv⟩
  · obtain ⟨q, e, c, n1, n2, n3⟩ := r.own i d h
    exact ⟨q, e, c.mv (List.prefix_refl _) kp mv (upd_ne fun z => n2 (.inr z)), n1, n2, n3⟩
  · have q := r.cel.ok k c x h1 h2
    have cm : ∀ a, (a = c.main ∨ a ∈ c.more) → CM ρ a := fun a z => ⟨c, List.mem_of_getElem? h1, z⟩
    cases x with
    | draw d =>
      obtain ⟨g, l, e, n1, n2, n3, a, b, c'⟩ := q
      exact ⟨g, l, e, n1, n2, n3, (kc _ (cm _ (.inl rfl))).trans a, (kc _ (cm _ (.inr (by rw [e]; simp)))).trans b, (kc _ (cm _ (.inr (by rw [e]; simp)))).trans c'⟩
    | obj d => exact ⟨q.1, q.2.mv (List.prefix_refl _) kp mv (kc _ (cm _ (.inl rfl)))⟩
    | dead => trivial
/-- back from the block: st the outer state ahead of the turn, sti the block's own behind it -/
theorem Step.back {sti : DS} (r : Rel B ρ st σ H) (no : NoOwn vs st) (ho : ∀ i, i ∉ vs → σ2[i]? = σ[i]?) (hsl : ∀ (i : Nat) (d : DV) (b : Bool), i ∉ vs → sti.sl[i]? = some (some (d, b)) → ∃ c, st.sl[i]? = some (some (d, c)))
    (hsub : ∀ i a, i ∉ vs → ownAt sti σ2 i a → ownAt st σ i a) (pre : ρ <+: ρ1) (rel : Rel B ρ1 sti σ2 H1) (hlen : sti.sl.length = st.sl.length) (fr : ∀ a o, H a = some o → ¬ CM ρ a → NT o → H1 a = some o) (cm : ∀ a, CM ρ1 a → CM ρ a ∨ H a = none) (dm : ∀ a, H a ≠ none → H1 a ≠ none) :
    Step B σ ρ st H ρ1 (st.back sti vs) H1 ∧ NoOwn vs (st.back sti vs) ∧ ∀ a, Av ρ1 B.O (st.back sti vs) σ a → Av ρ1 B.O sti σ2 a := by
  have bi : ∀ i, i ∈ vs → (st.back sti vs).sl[i]? = st.sl[i]? := fun i hi => backSl_in hlen.symm hi
  have bo : ∀ i, i ∉ vs → (st.back sti vs).sl[i]? = sti.sl[i]? := fun i hi => backSl_out hi
  have own1 : ∀ i a, ownAt (st.back sti vs) σ i a → i ∉ vs ∧ ownAt sti σ2 i a := fun i a ⟨d, h1, h2⟩ => by
    by_cases hi : i ∈ vs
    · rw [bi i hi] at h1
      exact absurd h1 (no i d hi)
    · rw [bo i hi] at h1
      exact ⟨hi, d, h1, by rw [ho i hi]; exact h2⟩
  have avI : ∀ a, Av ρ1 B.O (st.back sti vs) σ a → Av ρ1 B.O sti σ2 a := fun a z => by
    rcases z with z | z | ⟨i, z⟩
    · exact .inl z
    · exact .inr (.inl z)
    · exact .inr (.inr ⟨i, (own1 i a z).2⟩)
  have mvI : ∀ a, Av ρ1 B.O (st.back sti vs) σ a → Av ρ1 B.O sti σ2 a ∨ H1 a = none := fun a z => .inl (avI a z)
  have avO : ∀ a, Av ρ1 B.O (st.back sti vs) σ a → Av ρ B.O st σ a ∨ H a = none := fun a z => by
    rcases z with z | z | ⟨i, z⟩
    · exact .inl (.inl z)
    · exact (cm a z).imp (fun z => .inr (.inl z)) id
    · obtain ⟨hi, z⟩ := own1 i a z
      exact .inl (.inr (.inr ⟨i, hsub i a hi z⟩))
  have rel' : Rel B ρ1 (st.back sti vs) σ H1 := by
    refine ⟨?_, fun i d h => ?_, fun i d h => ?_, fun i j q h1 h2 => rel.dis i j q (own1 i q h1).2 (own1 j q h2).2, rel.dom, rel.odom, ⟨rel.cel.len, fun k c x h1 h2 => ?_, rel.cel.dis⟩, rel.cdom, rel.tabs⟩
    · show (backSl _ _ _).length = _
      rw [backSl_len, hlen, r.len]
    · by_cases hi : i ∈ vs
      · rw [bi i hi] at h
        obtain ⟨v, e, q⟩ := r.fro i d h
        exact ⟨v, e, q.mv pre (fun a o e n => fr a o e fun z => n (.cm z)) avO⟩
      · rw [bo i hi] at h
        obtain ⟨v, e, q⟩ := rel.fro i d h
        exact ⟨v, by rw [← ho i hi]; exact e, q.mv (List.prefix_refl _) (fun _ _ e _ _ => e) mvI⟩
    · by_cases hi : i ∈ vs
      · rw [bi i hi] at h
        exact absurd h (no i d hi)
      · rw [bo i hi] at h
        obtain ⟨q, e, c, n⟩ := rel.own i d h
        exact ⟨q, by rw [← ho i hi]; exact e, c.mv (List.prefix_refl _) (fun _ _ e _ _ => e) mvI rfl, n⟩
    · have q := rel.cel.ok k c x h1 h2
      cases x with
      | draw d => exact q
      | obj d => exact ⟨q.1, q.2.mv (List.prefix_refl _) (fun _ _ e _ _ => e) mvI rfl⟩
      | dead => trivial
  refine ⟨⟨pre, rel', fr, fun i a z => hsub i a (own1 i a z).1 (own1 i a z).2, fun i d b z => ?_, cm, dm⟩, fun i d hi z => ?_, avI⟩
  · by_cases hi : i ∈ vs
    · rw [bi i hi] at z
      exact ⟨b, z⟩
    · rw [bo i hi] at z
      exact hsl i d b hi z
  · rw [bi i hi] at z
    exact no i d hi z

/-! ### [elt for target in iter if ..] -/
def lcGo (vs : List Nat) (g : Gv) (tt : Tv) (fe : Ev) : List DV → List DV → DS → Option (List DV × DS)
  | [], acc, st => some (acc, st)
  | d :: ds, acc, st => match g d (st.wipe vs) with
    | none => none
    | some sta => match tt sta with
      | .ok true stb => (match fe stb with
        | .ok a stc => lcGo vs g tt fe ds (acc ++ [a.1]) (st.back (stc.eat a.2) vs)
        | _ => none)
      | .ok false stb => lcGo vs g tt fe ds acc (st.back stb vs)
      | _ => none
def evLc (vs : List Nat) (fi : Iv) (g : Gv) (tt : Tv) (fe : Ev) : Ev := fun st => (fi st).bind fun ds st1 => if ds.length ≤ sizeLine then (match lcGo vs g tt fe ds [] (st1.dropAll vs) with
  | some r => .ok (.lst r.1, .new) r.2
  | none => .stuck) else .stuck
def RTx (C : RC) (f : Tv) : TT := fun σ H Q => ∃ B, B.C = C ∧ RT B WF f σ H Q
def tvYes : Tv := fun st => .ok true st
theorem ptsx_nil {C : RC} : PTs X [] (RTx C tvYes) := ⟨fun pins s σ H Q I ⟨B, _, ρ, st, rel, r⟩ => (pts_nil (X := X)).run pins s σ H Q I (Res.now rel r)⟩
theorem ptsx_one {C : RC} {c : Expr} {t : Tv} (h : ∀ B, B.C = C → PTD X B WF c t) : PTs X [c] (RTx C t) := pts_one ⟨fun pins s σ H Q I ⟨B, e, r⟩ => (h B e).run pins s σ H Q I r⟩
theorem tLc_of {vt : List Nat} {fi : Iv} {g : Gv} {tt : Tv} {fe : Ev} {Q : VK} (hv : ∀ i ∈ vt, i ∈ vs) (h : RD B W (evLc vs fi g tt fe) σ H Q) : tLc (RI B W fi) (RG B.C vt g) (RTx B.C tt) (RDx B.C WF fe) vs σ H Q := by
  obtain ⟨ρ, st, rel, res⟩ := h
  refine RI.go rel (Res.bind res) fun ds st1 ρ1 H1 s1 r1 J src => ?_
  intro D hD
  split at r1
  case isFalse => exact r1.elim
  rename_i hlen
  have sd := Step.dropAll vs s1.rel
  cases hfin : lcGo vs g tt fe ds [] (st1.dropAll vs) with
  | none => rw [hfin] at r1; exact r1.elim
  | some fin =>
  rw [hfin] at r1
  generalize hst2 : st1.dropAll vs = st2 at *
  have no2 : NoOwn vs st2 := by rw [← hst2]; exact noOwn_dropAll
  have rel2 := sd.rel
  -- the invariant
  let Wv : Nat → Nat → Hp → Prop := fun i m H' => ∃ ρ' st' xs acc, m + i = ds.length ∧ Step B σ ρ1 st2 H1 ρ' st' H' ∧ Rel (B.hold D) ρ' st' σ H' ∧ NoOwn vs st' ∧ ¬ CM ρ' D ∧ H' D = some (.lst xs) ∧ RepL B.C ρ' (Av ρ' (B.hold D).O st' σ) H' xs acc ∧ acc.length ≤ i ∧ lcGo vs g tt fe (ds.drop i) acc st' = some fin
  have nD : ¬ CM ρ1 D := fun z => rel2.cdom D z hD
  refine ⟨Wv, ⟨ds.length, ρ1, st2, [], [], by simp, Step.alloc rel2 hD, Rel.holdA rel2 hD, no2, nD, upd_same, .nil, Nat.le_refl _, hfin⟩, ?_⟩
  rintro i m H2 ⟨ρ2, st3, xs, acc, hm, s2, rh, no3, ncm, hDl, racc, hacc, go⟩
  have l2 : Later ρ1 (Av ρ1 B.O st1 σ) H1 ρ2 (Av ρ2 (B.hold D).O st3 σ) H2 := by
    have l0 := (Later.of (SStep.of sd)).trans (Later.of (SStep.of s2))
    refine ⟨l0.pre, l0.fr, fun a z => ?_, l0.dm⟩
    rcases av_hold z with z | rfl
    · exact l0.av a z
    · exact .inr hD
  obtain ⟨hgo, hstop⟩ := src _ _ _ l2 fun a z => rh.av_dom z
  cases hd : ds[i]? with
  | none =>
    have hi : ds.length ≤ i := List.getElem?_eq_none_iff.mp hd
    rw [List.drop_eq_nil_of_le hi] at go
    simp only [lcGo, Option.some.injEq] at go
    subst go
    refine .inl ⟨hstop i hi, ?_⟩
    have nav : ¬ Av ρ2 B.O st3 σ D := fun z => by
      rcases z with z | z | ⟨k, z⟩
      · exact rel2.odom D z hD
      · exact ncm z
      · obtain ⟨d, z1, z2⟩ := z
        obtain ⟨w, e1, _, _, n2, _⟩ := rh.own k d z1
        rw [z2] at e1
        cases e1
        exact n2 (.inr rfl)
    refine r1 ρ2 H2 (sd.trans s2) (.ref D) ⟨.lst nav hDl (RepL.unhold racc), fun q e _ => ?_⟩ fun q e => ?_
    · cases e
      exact ⟨xs, hDl, racc.mv (List.prefix_refl _) (fun _ _ e _ _ => e) fun a z => .inl (hold_av z)⟩
    · cases e
      exact none_of_dm s1.dm hD
  | some d =>
    obtain ⟨hi, hd'⟩ := List.getElem?_eq_some_iff.mp hd
    rw [List.drop_eq_getElem_cons hi, hd'] at go
    obtain ⟨g1, y1⟩ := hgo i d hd
    unfold lcGo at go
    cases eg : g d (st3.wipe vs) with
    | none => rw [eg] at go; cases go
    | some sta =>
      rw [eg] at go
      dsimp only at go
      refine .inr ⟨g1, fun H' => Wv (i + 1) (m - 1) H', fun H' hN => ⟨m - 1, by omega, hN⟩, fun x H3 hy => ?_⟩
      obtain ⟨ha, rx⟩ := y1 x H3 hy
      have s3 := yld_step rh ha
      have s2' : Step B σ ρ1 st2 H1 ρ2 st3 H3 := Step.unhold s2 s3
      have rw3 := Rel.wipe s3.rel no3
      have rxw : Rep B.C ρ2 (Av ρ2 (B.hold D).O (st3.wipe vs) (L2.wipe σ vs)) H3 x d := rx.mv (List.prefix_refl _) (fun _ _ e _ _ => e) fun a z => .inl ((wipe_av no3).mp z)
      have hD3 : H3 D = some (.lst xs) := s3.fr D _ hDl ncm trivial
      have racc3 : RepL B.C ρ2 (Av ρ2 (B.hold D).O st3 σ) H3 xs acc := RepL.step s3 racc
      refine ⟨B.hold D, ρ2, st3.wipe vs, d, sta, rfl, rw3, rxw, eg, fun σ4 s4 on => ?_⟩
      have hw4 : L2.wipe σ4 vs = L2.wipe σ vs := by
        have e1 := wipe_eq (σ := L2.wipe σ vs) (σ' := σ4) (vs := vs) on.len fun k hk => (on.out k fun z => hk (hv k z)).1
        rw [e1]
        exact wipe_eq (wipe_length _ _) fun k hk => wipe_out hk
      refine ⟨hw4, ?_⟩
      -- outside the block's slots all is as it was
      have ho4 : ∀ k, k ∉ vs → σ4[k]? = σ[k]? := fun k hk => ((on.out k fun z => hk (hv k z)).1).trans (wipe_out hk)
      have hsl4 : ∀ k, k ∉ vs → sta.sl[k]? = st3.sl[k]? := fun k hk => ((on.out k fun z => hk (hv k z)).2).trans (wipeSl_out hk)
      have own4 : ∀ k a, k ∉ vs → ownAt sta σ4 k a → ownAt st3 σ k a := fun k a hk ⟨d, z1, z2⟩ => ⟨d, by rw [← hsl4 k hk]; exact z1, by rw [← ho4 k hk]; exact z2⟩
      have len4 : sta.sl.length = st3.sl.length := by
        rw [s4.rel.len, on.len, wipe_length, ← s3.rel.len]
      -- the end of a turn
      have turn : ∀ ρ5 (sti : DS) H5, Step (B.hold D) σ4 ρ2 sta H3 ρ5 sti H5 → Step (B.hold D) σ ρ2 st3 H3 ρ5 (st3.back sti vs) H5 ∧ NoOwn vs (st3.back sti vs) ∧ ∀ a, Av ρ5 (B.hold D).O (st3.back sti vs) σ a → Av ρ5 (B.hold D).O sti σ4 a := fun ρ5 sti H5 s5 => by
        refine Step.back s3.rel no3 ho4 (fun k d b hk z => ?_) (fun k a hk z => own4 k a hk (s5.sub k a z)) s5.pre s5.rel ?_ s5.fr s5.cm s5.dm
        · obtain ⟨c, z⟩ := s5.sl k d b z
          rw [hsl4 k hk] at z
          exact ⟨c, z⟩
        · rw [s5.rel.len, ← s4.rel.len, len4]
      have fin' : ∀ ρ5 (sto : DS) H5, Step (B.hold D) σ ρ2 st3 H3 ρ5 sto H5 → NoOwn vs sto → ¬ CM ρ5 D ∧ H5 D = some (.lst xs) ∧ RepL B.C ρ5 (Av ρ5 (B.hold D).O sto σ) H5 xs acc := fun ρ5 sto H5 s5 no5 =>
        ⟨fun z => (s5.cm D z).elim ncm fun q => (by rw [hD3] at q; cases q), s5.fr D _ hD3 ncm trivial, RepL.step s5 racc3⟩
      cases et : tt sta with
      | stuck => rw [et] at go; cases go
      | exc _ _ => rw [et] at go; cases go
      | ok b stb =>
        rw [et] at go
        refine ⟨B.hold D, rfl, ρ2, sta, s4.rel, ?_⟩
        rw [et]
        intro ρ5 H5 s5
        show if b = true then _ else _
        cases b with
        | false =>
          rw [if_neg Bool.false_ne_true]
          obtain ⟨t1, t2, t3⟩ := turn ρ5 stb H5 s5
          obtain ⟨f1, f2, f3⟩ := fin' ρ5 _ H5 t1 t2
          exact ⟨ρ5, _, xs, acc, by omega, Step.unhold s2' t1, t1.rel, t2, f1, f2, f3, by omega, go⟩
        | true =>
          rw [if_pos rfl]
          cases ee : fe stb with
          | stuck => simp only [ee] at go; cases go
          | exc _ _ => simp only [ee] at go; cases go
          | ok a stc =>
            simp only [ee] at go
            refine ⟨B.hold D, rfl, ρ5, stb, s5.rel, ?_⟩
            rw [ee]
            intro ρ6 H6 s6 y ry fy
            have s7 := s5.trans (s6.trans (Step.eat s6.rel a.2))
            obtain ⟨t1, t2, t3⟩ := turn ρ6 _ H6 s7
            obtain ⟨f1, f2, f3⟩ := fin' ρ6 _ H6 t1 t2
            have ry' : Rep B.C ρ6 (Av ρ6 (B.hold D).O (st3.back (stc.eat a.2) vs) σ) H6 y a.1 := ry.eat.mv (List.prefix_refl _) (fun _ _ e _ _ => e) fun a z => .inl (t3 a z)
            have hl : xs.length = acc.length := racc.length
            refine ⟨xs, f2, by omega, ?_⟩
            have mvD : ∀ q o, H6 q = some o → ¬ Av ρ6 (B.hold D).O (st3.back (stc.eat a.2) vs) σ q → NT o → upd H6 D (.lst (xs ++ [y])) q = some o := fun q o e n _ => by
              rw [upd_ne (fun z => n (by subst z; exact .inl (.inr rfl)))]; exact e
            have s8 := Step.unhold s2' t1
            have rel7 := Rel.writeHeld (o := .lst (xs ++ [y])) t1.rel f1 (fun u e => by rw [f2] at e; cases e; trivial)
            have s9 : Step B σ ρ1 st2 H1 ρ6 (st3.back (stc.eat a.2) vs) (upd H6 D (.lst (xs ++ [y]))) := by
              refine ⟨s8.pre, rel7.unhold, fun q o e n nt => ?_, s8.sub, s8.sl, s8.cm, fun q z => ?_⟩
              · rw [upd_ne (fun z => by subst z; rw [hD] at e; cases e)]
                exact s8.fr q o e n nt
              · by_cases hq : q = D
                · subst hq; exact absurd hD z
                · rw [upd_ne hq]; exact s8.dm q z
            refine ⟨ρ6, _, xs ++ [y], acc ++ [a.1], by omega, s9, rel7, t2, f1, upd_same, ?_, by simp; omega, go⟩
            exact RepL.append (f3.mv (List.prefix_refl _) mvD fun a z => .inl z) (.cons (ry'.mv (List.prefix_refl _) mvD fun a z => .inl z) .nil)
/-- [elt for tg in iter if ..] as a value -/
theorem pd_lc {elt tg iter : Expr} {ifs : List Expr} {scope : Scope} {own : List (Str × Nat)} {pos : Pos} {vt : List Nat} {fi : Iv} {g : Gv} {tt : Tv} {fe : Ev} (hc : X.calm = true) (hN : X.N.Nodup) (hi : PID X B W tg iter fi) (ok : BlkOk X.N X.env.scope scope own) (hv : ∀ i ∈ vt, i ∈ own.map (·.2))
    (hg : ∀ (s : Shared) (H : Hp) (C : Addr) (cl : List (Str × Addr)) (fp : List Addr), PGD (X.blk s H scope (compEnvC scope cl C X.env) fp) B.C vt tg g)
    (ht : ∀ (s : Shared) (H : Hp) (C : Addr) (cl : List (Str × Addr)) (fp : List Addr), PTs (X.blk s H scope (compEnvC scope cl C X.env) fp) ifs (RTx B.C tt))
    (he : ∀ (s : Shared) (H : Hp) (C : Addr) (cl : List (Str × Addr)) (fp : List Addr) (B' : BC), B'.C = B.C → PD (X.blk s H scope (compEnvC scope cl C X.env) fp) B' WF elt fe) (hs : ∀ x, foldedSetIterable iter X.env x = pure x) :
    PD X B W (.ListComp elt [⟨tg, iter, ifs, 0⟩] scope pos) (evLc (own.map (·.2)) fi g tt fe) :=
  PE.mono (pe_lc hc hN hi ok hg ht (fun s H C cl fp => pdx (he s H C cl fp)) hs) fun _ _ _ h => tLc_of hv h
/-- y = [elt for tg in iter if ..] on one line -/
theorem psd_setLc {i : Nat} {y : Str} {py : Pos} {elt tg iter : Expr} {ifs : List Expr} {scope : Scope} {own : List (Str × Nat)} {pos spos : Pos} {vt : List Nat} {fi : Iv} {g : Gv} {tt : Tv} {fe : Ev} (hc : X.calm = true) (hN : X.N.Nodup) (hy : X.N[i]? = some y) (hyl : X.env.scope.names.lookup y = some .local)
    (hsw : swapsWith (.ListComp elt [⟨tg, iter, ifs, 0⟩] scope pos) (some (.Name y py)) spos.line X.env = pure true) (hi : PID X B W tg iter fi) (ok : BlkOk X.N X.env.scope scope own) (hv : ∀ i ∈ vt, i ∈ own.map (·.2))
    (hg : ∀ (s : Shared) (H : Hp) (C : Addr) (cl : List (Str × Addr)) (fp : List Addr), PGD (X.blk s H scope (compEnvC scope cl C X.env) fp) B.C vt tg g)
    (ht : ∀ (s : Shared) (H : Hp) (C : Addr) (cl : List (Str × Addr)) (fp : List Addr), PTs (X.blk s H scope (compEnvC scope cl C X.env) fp) ifs (RTx B.C tt))
    (he : ∀ (s : Shared) (H : Hp) (C : Addr) (cl : List (Str × Addr)) (fp : List Addr) (B' : BC), B'.C = B.C → PD (X.blk s H scope (compEnvC scope cl C X.env) fp) B' WF elt fe) (hs : ∀ x, foldedSetIterable iter X.env x = pure x) :
    PSD X B W (.Assign [.Name y py] (.ListComp elt [⟨tg, iter, ifs, 0⟩] scope pos) spos) (svSet i (evLc (own.map (·.2)) fi g tt fe)) :=
  PS.mono (ps_setLc hc hN hy hyl hsw hi ok hg ht (fun s H C cl fp => pdx (he s H C cl fp)) hs) fun D σ H h => rs_set (fun _ _ _ h => tLc_of hv h) h
end
end D

/-! D: methods of texts and lists by values; dict displays. -/
namespace D
open PySem L2 PyProof.Rows

section
variable {X : Cx} {B : BC} {W : WX} {σ : L2.St} {ρ ρ1 : List CellA} {st st1 : DS} {H H1 : Hp} {o e : Expr} {es : List Expr} {fo fe : Ev} {g : Ak} {pos apos cpos : Pos} {name : Str} {C : RC}
def evMeth (isT : DV → Bool) (f : OpN) (fo : Ev) (g : Ak) : Ev := fun st => (fo st).bind fun a st1 => if isT a.1 = true then (g st1).bind fun as st2 => (match f (a.1 :: as.map (·.1)) with
  | some c => .ok c st2
  | none => .stuck) else .stuck
/-! ### sep.join(texts) -/
/-! ### {k: v, ..} -/
abbrev Dv' := DS → Out (List Key × List DV)
def dvNil : Dv' := fun st => .ok ([], []) st
def dvCons (fk fv : Ev) (r : Dv') : Dv' := fun st => (fk st).bind fun k st1 => (fv st1).bind fun v st2 => (r (st2.eat v.2)).bind fun (p : List Key × List DV) st3 => match keyD k.1 with
  | some kk => if (p.1.any fun j => decide (j = kk)) = true then .stuck else .ok (kk :: p.1, v.1 :: p.2) st3
  | none => .stuck
def evDct (r : Dv') : Ev := fun st => (r st).bind fun p st1 => if p.1.length ≤ 15 then .ok (.dct p.1 p.2, .new) st1 else .stuck
theorem RepK.key {kd : Kd} {v : V} {d : DV} {k : Key} (h : keyD d = some k) (r : RepK B ρ st σ H kd v d) : v = kV k := by
  cases d <;> try (cases h; done)
  · cases h; obtain rfl := r.int; rfl
  · cases h; obtain rfl := r.str; rfl
end
end D

/-! D: a def by its body; the law's end. -/
namespace D
open PySem L2 PyProof.Rows

def outRet : Out Fl → Out (DV × Kd)
  | .ok .nx st' => .ok (.non, .new) ⟨[], st'.cs⟩
  | .ok (.rt d kd) st' => .ok (d, match kd with
    | .fro => .fro
    | .new => .new
    | .view i => match st'.sl[i]? with
      | some (some (_, true)) => .new
      | _ => .fro) ⟨[], st'.cs⟩
  | .ok _ _ => .stuck
  | .exc x st' => .exc x ⟨[], st'.cs⟩
  | .stuck => .stuck
def startSl (n : Nat) (ds : List DV) : List Slot := ds.map (fun d => some (d, false)) ++ List.replicate (n - ds.length) none
/-- the function of a def with n slots and p parameters -/
def fnSv (n p : Nat) (sv : Sv) : Fn := fun ds st => if ds.length = p then outRet (sv ⟨startSl n ds, st.cs⟩) else .stuck
theorem startSl_own {n : Nat} {ds : List DV} {i : Nat} {d : DV} : (startSl n ds)[i]? ≠ some (some (d, true)) := fun h => by
  unfold startSl at h
  rw [List.getElem?_append] at h
  split at h
  · rw [List.getElem?_map] at h
    cases e : ds[i]? with
    | none => rw [e] at h; cases h
    | some x => rw [e] at h; cases h
  · rw [List.getElem?_replicate] at h
    split at h <;> cases h
section
variable {C : RC} {O : Addr → Prop} {ρ ρ' : List CellA} {H H' : Hp} {cs : List CellC} {σ' : L2.St} {st' : DS}
theorem Rel.start {N : List Str} {vs : List V} {ds : List DV} (r : Rel ⟨C, O, H⟩ ρ ⟨[], cs⟩ [] H) (rl : RepL C ρ (Av ρ O ⟨[], cs⟩ []) H vs ds) : Rel ⟨C, O, H⟩ ρ ⟨startSl N.length ds, cs⟩ (L2.start N vs) H := by
  have hl := rl.length
  have noOwn : ∀ i a, ¬ ownAt ⟨startSl N.length ds, cs⟩ (L2.start N vs) i a := fun i a ⟨d, h, _⟩ => startSl_own h
  have mv : ∀ a, Av ρ O ⟨startSl N.length ds, cs⟩ (L2.start N vs) a → Av ρ O ⟨[], cs⟩ [] a ∨ H a = none := fun a z => by
    rcases z with z | z | ⟨i, z⟩
    · exact .inl (.inl z)
    · exact .inl (.inr (.inl z))
    · exact absurd z (noOwn i a)
  refine ⟨?_, fun i d h => ?_, fun i d h => absurd h startSl_own, fun i j p h => absurd h (noOwn i p), r.dom, r.odom, ⟨r.cel.len, fun k c x h1 h2 => ?_, r.cel.dis⟩, r.cdom, r.tabs⟩
  · simp [startSl, L2.start, hl]
  · have h : (startSl N.length ds)[i]? = some (some (d, false)) := h
    unfold startSl at h
    rw [List.getElem?_append] at h
    split at h
    · rename_i hi
      rw [List.getElem?_map] at h
      cases e : ds[i]? with
      | none => rw [e] at h; cases h
      | some x =>
        rw [e] at h
        cases h
        obtain ⟨v, hv, rv⟩ := rl.get e
        refine ⟨v, ?_, rv.mv (List.prefix_refl _) (fun _ _ e _ _ => e) mv⟩
        unfold L2.start
        have hi' : i < (vs.map some).length := by simpa [hl] using hi
        rw [List.getElem?_append_left hi', List.getElem?_map, hv]
        rfl
    · rw [List.getElem?_replicate] at h
      split at h <;> cases h
  · have q := r.cel.ok k c x h1 h2
    cases x with
    | draw d => exact q
    | obj d => exact ⟨q.1, q.2.mv (List.prefix_refl _) (fun _ _ e _ _ => e) mv rfl⟩
    | dead => trivial
theorem av_done {a : Addr} (h : Av ρ' O ⟨[], st'.cs⟩ [] a) : Av ρ' O st' σ' a := by
  rcases h with z | z | ⟨i, d, z, _⟩
  · exact .inl z
  · exact .inr (.inl z)
  · simp at z
theorem Step.done {sl : List Slot} {σ : L2.St} (noOwn : ∀ i a, ¬ ownAt ⟨sl, cs⟩ σ i a) (s : SStep ⟨C, O, H⟩ σ ρ ⟨sl, cs⟩ H σ' ρ' st' H') : Step ⟨C, O, H⟩ [] ρ ⟨[], cs⟩ H ρ' ⟨[], st'.cs⟩ H' := by
  have r := s.rel
  have mv : ∀ a, Av ρ' O ⟨[], st'.cs⟩ [] a → Av ρ' O st' σ' a ∨ H' a = none := fun a z => .inl (av_done z)
  refine ⟨s.pre, ⟨rfl, fun i d h => by simp at h, fun i d h => by simp at h, fun i j p h => by obtain ⟨d, h, _⟩ := h; simp at h, r.dom, r.odom, ⟨r.cel.len, fun k c x h1 h2 => ?_, r.cel.dis⟩, r.cdom, r.tabs⟩, fun a o e n => s.fr a o e n fun i => noOwn i a, fun i p h => by obtain ⟨d, h, _⟩ := h; simp at h, fun i d b h => by simp at h, s.cm, s.dm⟩
  have q := r.cel.ok k c x h1 h2
  cases x with
  | draw d => exact q
  | obj d => exact ⟨q.1, q.2.mv (List.prefix_refl _) (fun _ _ e _ _ => e) mv rfl⟩
  | dead => trivial
theorem SpF.len {n p : Nat} {sv : Sv} {vs : List V} {H : Hp} {Q : VK} {E : XK} (h : SpF C (fnSv n p sv) vs H Q E) : vs.length = p := by
  obtain ⟨ρ, cs, ds, O, r, rl, res⟩ := h
  unfold fnSv at res
  split at res
  · rename_i hl; rw [rl.length]; exact hl
  · exact res.elim
end
section
variable {P : Program} {w : World} {mg : Str → Option Value} {base : Heap} {C : RC}
/-- THE RULE for a def -/
theorem Fun.okG {x qual : Str} {st : Stmt} {f : Addr} {fd : FuncData} {N ps : List Str} {k : Nat} {sv : Sv} (F : Fun C.K x qual st f fd) (S : FnScope N ps (defScope st))
    (hb : ∀ (cdv : Value) (A : Around) (outer : List Env) (s : Shared) (H : Hp) (E : XK), fd.code = cdv → Room k (A.deeper (envOfC qual (defScope st) s.heap.objs.size f cdv)) → (cxOf (L2.CX P w) P w C.K mg base N qual (defScope st) f cdv A outer s H E).A.guards = some [] →
      ∀ O, PSsD (cxOf (L2.CX P w) P w C.K mg base N qual (defScope st) f cdv A outer s H E) ⟨C, O, H⟩ (fun cls d _ H' => E cls d H') (defBody st) sv) :
    FnG P w C.K mg base (k + 1) f fd ps (SpF C (fnSv N.length ps.length sv)) := by
  obtain ⟨oc, od, kV, doc, pm, an, cdv, ct, osl, rfl, lk, hcd⟩ := F.ex
  refine fnG_of lk hcd S (fun vs H Q E h => h.len) fun A outer s H vs Q E hr hg h => ?_
  obtain ⟨ρ, cs, ds, O, r, rl, res⟩ := h
  refine ⟨_, hb cdv A outer s H E rfl hr (by first | exact (deeper_guards _ _).trans hg | exact hg) O, ρ, ⟨startSl N.length ds, cs⟩, Rel.start r rl, ?_⟩
  have noOwn : ∀ i a, ¬ ownAt ⟨startSl N.length ds, cs⟩ (L2.start N vs) i a := fun i a ⟨d, h, _⟩ => startSl_own h
  unfold fnSv at res
  split at res
  case isFalse => exact res.elim
  cases e : sv ⟨startSl N.length ds, cs⟩ with
  | stuck => rw [e] at res; exact res
  | exc x st' =>
    rw [e] at res
    intro σ' ρ' H' cls d s1 xr
    refine res ρ' H' cls d (Step.done noOwn s1) ?_
    obtain ⟨e1, xr⟩ := xr
    refine ⟨e1, ?_⟩
    rcases xr with xr | ⟨a, vs, h1, h2, h3, h4, h5⟩
    · exact .inl xr
    · exact .inr ⟨a, vs, h1, fun z => h2 (av_done z), h3, h4, h5.mv (List.prefix_refl _) (fun _ _ e _ _ => e) fun a z => .inl (av_done z)⟩
  | ok fl st' =>
    rw [e] at res
    intro σ' ρ' H' s1
    have sd := Step.done noOwn s1
    cases fl with
    | bk => exact res.elim
    | ct => exact res.elim
    | nx => exact (res ρ' H' sd).2 .non .non (fun _ p e => nomatch e) fun p e => nomatch e
    | rt d kd =>
      intro v rv fv
      have mv : ∀ a, Av ρ' O ⟨[], st'.cs⟩ [] a → Av ρ' O st' σ' a ∨ H' a = none := fun a z => .inl (av_done z)
      cases kd with
      | fro => exact (res ρ' H' sd).2 v (Rep.mv (List.prefix_refl _) (fun _ _ e _ _ => e) mv rv) (fun z => nomatch z) trivial
      | new =>
        refine (res ρ' H' sd).2 v (Rep.mv (List.prefix_refl _) (fun _ _ e _ _ => e) mv rv.1) (fun _ p ep hc => ?_) fun p ep => fv rfl p ep
        exact (rv.2 p ep hc).mv (List.prefix_refl _) (fun _ _ e _ _ => e) (fun a z => z.elim (fun z => .inl (.inl (av_done z))) fun z => .inl (.inr z)) rfl
      | view i =>
        obtain ⟨p, rfl, es, c, n1, n2, u, n3⟩ := rv
        have npa : ¬ Av ρ' O ⟨[], st'.cs⟩ [] p := fun z => by
          rcases z with z | z | ⟨i, d, z, _⟩
          · exact n2 z
          · exact n1 z
          · simp at z
        have rp : Rep C ρ' (Av ρ' O ⟨[], st'.cs⟩ []) H' (.ref p) d := Cont.rep (A' := Av ρ' O ⟨[], st'.cs⟩ []) (fun a z => av_done z) npa c
        refine (res ρ' H' sd).2 _ rp (fun hk q eq hc => ?_) ?_
        · cases eq
          dsimp only at hk
          split at hk
          · rename_i d' hs
            have ow : ownAt st' σ' i p := ⟨d', hs, es⟩
            exact c.mv (List.prefix_refl _) (fun _ _ e _ _ => e) (fun a z => .inl (z.elim (fun z => av_done z) fun z => by subst z; exact .inr (.inr ⟨i, ow⟩))) rfl
          · cases hk
        · dsimp only
          split
          · exact fun q eq => by cases eq; exact n3
          · trivial
end

/-! ### the law's end -/
/-- D's answer: the law is kept -/
def KeptBy (F : Fn) (n : Nat) : Prop := ∀ ns : List Int, ns.length ≤ n → (∀ z ∈ ns, Builtin.Int.intBits z ≤ 1048576) → ∃ kd st', F [.scr ns] ⟨[], []⟩ = .ok (.bl true, kd) st'
/-- what is tracked at the law's start: the script (where the top has not written it), the empty tables ts -/
def startH (K : PySem.W.Frag) (a : Addr) (sc : HO) (ts : List Addr) : Hp := fun b =>
  if b = a then (match K.lookup a with | none => some sc | some _ => none) else if b ∈ ts then some (.tbl #[]) else none
section
variable {K : PySem.W.Frag} {a b : Addr} {sc u : HO} {ts : List Addr}
theorem startH_some (h : startH K a sc ts b = some u) : (b = a ∧ K.lookup a = none ∧ u = sc) ∨ (b ≠ a ∧ b ∈ ts ∧ u = .tbl #[]) := by
  unfold startH at h
  split at h
  · next e =>
    split at h
    · next k => cases h; exact .inl ⟨e, k, rfl⟩
    · cases h
  · next e =>
    split at h
    · next m => cases h; exact .inr ⟨e, m, rfl⟩
    · cases h
theorem startH_tab (hn : b ≠ a) (hm : b ∈ ts) : startH K a sc ts b = some (.tbl #[]) := by unfold startH; rw [if_neg hn, if_pos hm]
theorem startH_scr (hk : K.lookup a = none) : startH K a sc ts a = some sc := by unfold startH; rw [if_pos rfl, hk]
end
theorem kept_sp {C : RC} {F : Fn} {H : Hp} {a : Addr} {ns : List Int} {E : XK} (hT : LamX.Tabs C.T H) (hS : (∃ o, H a = some (.frz o (.lst (ns.map V.int)))) ∨ KL C a (ns.map V.int)) (h : ∃ kd st', F [.scr ns] ⟨[], []⟩ = .ok (.bl true, kd) st') :
    SpF C F [.ref a] H (fun v _ => v = .bl true) E := by
  obtain ⟨kd, st', e⟩ := h
  have nc : ∀ z, ¬ CM [] z := fun z ⟨c, h, _⟩ => by simp at h
  have nav : ∀ z, ¬ Av [] (fun _ => False) ⟨[], []⟩ [] z := fun z q => by
    rcases q with q | q | ⟨i, d, q, _⟩
    · exact q
    · exact nc z q
    · simp at q
  refine ⟨[], [], [.scr ns], fun _ => False, ⟨rfl, fun i d h => by simp at h, fun i d h => by simp at h, fun i j p h => by obtain ⟨d, h, _⟩ := h; simp at h, fun _ z => z, fun _ z => z.elim, ⟨rfl, fun k c x h => by simp at h, fun i j c c' h => by simp at h⟩, fun z q => absurd q (nc z), hT⟩, .cons ?_ .nil, ?_⟩
  · rcases hS with ⟨o, hS⟩ | hS
    · exact .scr (nav a) hS
    · exact .kscr hS
  · rw [e]
    refine fun ρ' H' s => ⟨?_, fun v rv _ _ => by cases rv; rfl⟩
    have := s.rel.len
    cases h : st'.sl with
    | nil => rfl
    | cons x l => rw [h] at this; simp at this
/-- the law's call; ts: the code objects of the defs that make lambdas, and their tables -/
theorem law_callT {P : Program} {w : World} {C : RC} {mg mb : Str → Option Value} {k : Nat} {fa a : Addr} {fd : FuncData} {x : Str} {F : Fn} {s₁ : Shared} {vs : List Value} {ns : List Int} {ts : List (Addr × Addr)}
    (KX : C.K.In s₁.heap) (hns : s₁.heap.Ns mainGlobals mg) (hb : s₁.heap.Ns builtinsNs mb) (hbb : ∀ x : Str, x ≠ "__name__" → mb x = bootBuiltins x) (hlim : s₁.heap.NoLimit) (hg : s₁.gens = #[])
    (hT : ∀ p ∈ ts, PySem.W.CodeHd s₁.heap p.1 p.2 ∧ s₁.heap.get? p.2 = some (PySem.W.tabObj #[])) (hTK : ∀ p ∈ ts, C.K.lookup p.2 = none) (hCT : ∀ q ∈ C.T, ∃ p ∈ ts, p.2 = q.1)
    (hbm : ∃ (bm : Addr) (ob : Obj), mg "__builtins__" = some (.ref bm) ∧ bm ≠ builtinsNs ∧ s₁.heap.get? bm = some ob ∧ ob.cls = .type "module" ∧ ob.dict = some builtinsNs ∧ ob.data = .plain)
    (ha : s₁.heap.get? a = some { cls := .type "list", data := .seq vs.toArray }) (hi : IntsAre vs ns) (hl : ns.length ≤ sizeLine) (hr : Room k callerA)
    (hF : ∀ base : Heap, C.K.In base → base.Ns mainGlobals mg → (∀ p ∈ ts, LamX.TabB base mg p.1 p.2) → FnG P w C.K mg base k fa fd [x] (SpF C F)) (hbind : ∀ (s : Shared) (u : Value), BindsTo s fd ⟨[u], []⟩ [(x, u)])
    (hk : ∃ kd st', F [.scr ns] ⟨[], []⟩ = .ok (.bl true, kd) st') :
    codeAny (model P w) callerA (.call (.ref fa) ⟨[.ref a], []⟩) (fun r s' => r = .ok (.ret (.bool true)) ∧ OldK s₁.heap s'.heap ∧ s'.os = s₁.os ∧ AllBare s'.gens) s₁ := by
  have rv := vals_ints hi
  obtain ⟨hT1, hT2⟩ : (∀ b ∈ ts.map (·.2), s₁.heap.get? b = some (PySem.W.tabObj #[])) ∧ (∀ b ∈ ts.map (·.2), C.K.lookup b = none) := by
    refine ⟨fun b hb => ?_, fun b hb => ?_⟩
    · obtain ⟨p, hp, rfl⟩ := List.mem_map.mp hb
      exact (hT p hp).2
    · obtain ⟨p, hp, rfl⟩ := List.mem_map.mp hb
      exact hTK p hp
  have haT : ∀ b ∈ ts.map (·.2), b ≠ a := fun b hb z => by
    have q := hT1 b hb
    rw [z, ha] at q
    exact nomatch (congrArg Obj.data (Option.some.inj q))
  generalize hH : startH C.K a (.frz { cls := .type "list", data := .seq vs.toArray } (.lst (ns.map V.int))) (ts.map (·.2)) = H
  have hS : ∀ b u, H b = some u → (b = a ∧ C.K.lookup a = none ∧ u = .frz { cls := .type "list", data := .seq vs.toArray } (.lst (ns.map V.int))) ∨ (b ≠ a ∧ b ∈ ts.map (·.2) ∧ u = .tbl #[]) := fun b u e => startH_some (hH ▸ e)
  -- an object that is neither the script nor a table stands in the hidden heap
  have stays : ∀ (b : Addr) (o : Obj), s₁.heap.get? b = some o → (∀ vs n, o.data ≠ .seq vs n) → o.data ≠ .fields #[] → (hidT s₁.heap H).get? b = some o := fun b o e h1 h2 => hidT_get e (by
    cases q : H b with
    | none => rfl
    | some u =>
      rcases hS b u q with ⟨z, _⟩ | ⟨_, z, _⟩
      · rw [z, ha] at e; cases e; exact absurd rfl (h1 _ _)
      · rw [hT1 b z] at e; cases e; exact absurd rfl h2)
  have names : ∀ {b : Addr} {m : Str → Option Value}, s₁.heap.Ns b m → (hidT s₁.heap H).Ns b m := fun ⟨o, es, ep, e, d, r⟩ => ⟨o, es, ep, stays _ _ e (fun _ _ z => by rw [d] at z; cases z) (fun z => by rw [d] at z; cases z), d, r⟩
  have hKb : C.K.In (hidT s₁.heap H) := fun b o e => hidT_get (KX b o e) (by
    cases q : H b with
    | none => rfl
    | some u =>
      rcases hS b u q with ⟨z, k, _⟩ | ⟨_, z, _⟩
      · rw [z, k] at e; cases e
      · rw [hT2 b z] at e; cases e)
  have hM : Mod C.K mg (hidT s₁.heap H) := ⟨hKb, names hns, ⟨mb, names hb, hbb⟩, hlim.imp fun mc q => ⟨names q.1, q.2⟩⟩
  have hok : HOk P w H s₁.heap := fun b u e => by
    rcases hS b u e with ⟨z, _, rfl⟩ | ⟨_, z, rfl⟩
    · subst z; exact ⟨ha, by rw [List.length_map]; exact hl, vs, _, rv, ha⟩
    · exact hT1 b z
  have hTB : ∀ p ∈ ts, LamX.TabB (hidT s₁.heap H) mg p.1 p.2 := fun p hp => by
    obtain ⟨hc, ht⟩ := hT p hp
    have gne : mainGlobals ≠ p.2 := fun z => by
      obtain ⟨o, es, ep, e, d, _⟩ := hns
      rw [z, ht] at e; cases e; cases d
    refine ⟨?_, ?_, gne⟩
    · obtain ⟨o, us, f, tf, fl, tg, iF, tx, tt, e, rest⟩ := hc
      refine ⟨o, us, f, tf, fl, tg, iF, tx, tt, stays _ _ e (fun _ _ z => ?_) fun z => ?_, rest⟩
      · rw [rest.2.1] at z; cases z
      · rw [rest.2.1] at z
        cases z
        have := rest.2.2.1
        simp at this
    · obtain ⟨bm, ob, b1, b2, b3, b4, b5, b6⟩ := hbm
      refine ⟨bm, ob, b1, b2, fun z => ?_, fun z => ?_, stays _ _ b3 (fun _ _ z => by rw [b6] at z; cases z) (fun z => by rw [b6] at z; cases z), b4, b5, b6⟩
      · obtain ⟨o, es, ep, e, d, _⟩ := hns
        rw [← z, b3] at e; cases e; rw [b6] at d; cases d
      · rw [z, ht] at b3; cases b3; cases b6
  have e0 : Env0 P w C.K mg (hidT s₁.heap H) callerA [] s₁ H := ⟨rfl, hM, fun _ _ e => of_hidT e, Nat.le_of_eq (hidT_size _ _), trivial, fun _ z => (nomatch z), hok, .of_eq hg⟩
  have hsp : SpF C F [.ref a] H (fun v _ => v = .bl true) (fun _ _ _ => False) := by
    refine kept_sp (fun q hq => ?_) ?_ hk
    · obtain ⟨p, hp, e⟩ := hCT q hq
      have m : p.2 ∈ ts.map (·.2) := List.mem_map.mpr ⟨p, hp, rfl⟩
      exact LamX.TabS.nil (by rw [← e, ← hH]; exact startH_tab (haT _ m) m)
    · cases k : C.K.lookup a with
      | none => exact .inl ⟨_, by rw [← hH]; exact startH_scr k⟩
      | some o =>
        have e := KX a o k
        rw [ha] at e
        cases e
        exact .inr ⟨_, vs.toArray, _, k, rfl, rfl, rfl, by rw [List.size_toArray, hi.length]; exact hl, by simpa using rv⟩
  refine codeAny_mono ((hF _ hKb (names hns) hTB).run callerA [] s₁ H ⟨[.ref a], []⟩ [.ref a] [.ref a] _ (fun _ _ _ => False) hr rfl e0 (hbind s₁ (.ref a)) (.cons rfl .nil) hsp) fun r s' h => ?_
  match r, h with
  | .error e, ⟨_, _, _, _, _, _, _, _, _, _, _, _, z⟩ => exact z.elim
  | .ok .next, h => exact False.elim h
  | .ok .brk, h => exact False.elim h
  | .ok .cont, h => exact False.elim h
  | .ok (.ret u), ⟨v, H', os, bare, un, hok', r', q⟩ =>
    have q' : v = .bl true := q
    subst q'
    obtain rfl : u = Value.bool true := r'
    have plain : ∀ b o, s₁.heap.get? b = some o → b ∉ ts.map (·.2) → s'.heap.get? b = some o := fun b o e nb => by
      cases q : H b with
      | none => exact un.keep b o e q (fun z => nomatch z) (fun z => nomatch z)
      | some u =>
        rcases hS b u q with ⟨z, k, rfl⟩ | ⟨_, z, _⟩
        · have e2 := (hok' b _ (un.frzs b _ _ q)).1
          rw [z] at e
          rw [ha] at e
          cases e
          exact e2
        · exact absurd z nb
    have grown : ∀ b ∈ ts.map (·.2), ∃ more : Array Value, s'.heap.get? b = some (PySem.W.tabObj more) := fun b hb => by
      obtain ⟨more, z⟩ := un.tbls b #[] (by rw [← hH]; exact startH_tab (haT b hb) hb)
      exact ⟨_, hok' b _ z⟩
    refine ⟨rfl, ⟨fun b o e => ?_, fun b o e => ?_⟩, os, bare⟩
    · by_cases hb : b ∈ ts.map (·.2)
      · obtain ⟨more, hm⟩ := grown b hb
        obtain ⟨p, hp, rfl⟩ := List.mem_map.mp hb
        have e2 := (hT p hp).2
        rw [e2] at e
        cases e
        exact .inr (.inl ⟨((hT p hp).1.tab (hT p hp).2).isCodeTable, rfl, #[], more, rfl, by rw [Array.empty_append]; exact hm⟩)
      · exact .inl (plain b o e hb)
    · by_cases hb : b ∈ ts.map (·.2)
      · obtain ⟨more, hm⟩ := grown b hb
        exact ⟨_, hm⟩
      · exact ⟨o, plain b o e hb⟩
/-- what k_head leaves (case hc); xs: the names of the defs that make lambdas -/
theorem walkT {l : PySem.W.OpenLaw} {n k : Nat} {q : Program} {loose : List Str} {XP : (Str → Option Value) → Heap → Prop} {YP : World → Heap → Prop} {d : DefRec} {K : Params → PySem.W.Frag} {x : Str} {F : Fn}
    (hn : l.most = some n) (hn2 : n ≤ sizeLine) (hdf : d.params.defaults = []) (hr : Room k callerA)
    (hY : ∀ (w : World) (h : Heap), YP w h → (K w.params).In h)
    (hF : ∀ (w : World) (mg : Str → Option Value) (fa : Addr) (h : Heap), (K w.params).In h → h.Ns mainGlobals mg → mg d.name = some (.ref fa) →
      ∃ (fd : FuncData) (cls : Nat → Addr) (T : List (Addr × Str)) (ts : List (Addr × Addr)), (∀ (s : Shared) (u : Value), BindsTo s fd ⟨[u], []⟩ [(x, u)]) ∧
        (∀ p ∈ ts, ∃ y d', (recsOf q).find? (fun e => e.name == y) = some d' ∧ PySem.W.tabIn (K w.params) y = some p) ∧ (∀ p ∈ ts, (K w.params).lookup p.2 = none) ∧ (∀ t ∈ T, ∃ p ∈ ts, p.2 = t.1) ∧
        ∀ base : Heap, (K w.params).In base → base.Ns mainGlobals mg → (∀ p ∈ ts, LamX.TabB base mg p.1 p.2) → FnG l.prog w (K w.params) mg base k fa fd [x] (SpF ⟨K w.params, cls, T⟩ F))
    (hk : KeptBy F n) :
    PySem.W.WalkO q loose XP YP l.row.toRowW d [] (fun f vs => PySem.call f vs) := by
  refine Att.attach_callB hn hdf fun w s₀ s₁ mg mb fa o pm cd doc a vs ns G Y ho hd hcd hmg hobj hints hlen hbits hg => ?_
  have KX := hY w _ Y
  obtain ⟨fd, cls, T, ts, hb, h1, h2, h3, hF⟩ := hF w mg fa _ KX G.T.g hmg
  exact law_callT (C := ⟨K w.params, cls, T⟩) KX G.T.g G.T.b G.T.builtins G.T.nolimit hg (fun p hp => by obtain ⟨y, d', e1, e2⟩ := h1 p hp; exact PySem.W.tab_of G.T KX e1 e2) h2 h3 G.T.bmain hobj hints (Nat.le_trans hlen hn2) hr hF hb (hk ns hlen hbits)
end D

/-! D: the draw's cell. -/
namespace D
open PySem L2 PyProof.Rows

inductive CK | digits | turn
inductive CL | great | lumps
def CK.name : CK → Str | .digits => "digits" | .turn => "turn"
def CL.name : CL → Str | .great => "great" | .lumps => "lumps"
def CK.get : CK → DrawSt → Int | .digits, d => d.digits | .turn, d => d.turn
def CL.get : CL → DrawSt → List Int | .great, d => d.great | .lumps, d => d.lumps
def CK.put : CK → DrawSt → Int → DrawSt | .digits, d, n => { d with digits := n } | .turn, d, n => { d with turn := n }
section
variable {X : Cx} {B : BC} {W : WX} {σ : L2.St} {ρ ρ1 : List CellA} {st st1 : DS} {H H1 H' : Hp} {o e : Expr} {fo fe : Ev} {pos pos' p p2 tpos cpos apos : Pos} {i k kk : Nat} {d d' : DrawSt} {c : CellA}
/-- the draw that slot i names -/
def drawAt (st : DS) (i : Nat) : Option (Nat × DrawSt) := match st.sl[i]? with
  | some (some (.cel k, false)) => (match st.cs[k]? with
    | some (.draw d) => some (k, d)
    | _ => none)
  | _ => none
theorem drawAt_of (rel : Rel B ρ st σ H) (h : drawAt st i = some (k, d)) : ∃ c, σ[i]? = some (some (.ref c.main)) ∧ ρ[k]? = some c ∧ st.cs[k]? = some (.draw d) ∧ DrawAt H c d := by
  unfold drawAt at h
  split at h
  · rename_i k' hs
    split at h
    · rename_i d' hc
      cases h
      obtain ⟨v, e1, q⟩ := rel.fro i _ hs
      cases q with
      | cel hk => exact ⟨_, e1, hk, hc, rel.cel.ok _ _ _ hk hc⟩
    · cases h
  · cases h
theorem dget_i (h : DrawAt H c d) (ck : CK) : DGet H c.main (.str ck.name) (some (.int (ck.get d))) := by
  obtain ⟨g, l, e1, _, _, _, e2, _⟩ := h
  refine .inl ⟨_, .inr ck.name, .inl e2, rfl, ?_⟩
  cases ck <;> rfl
theorem dget_l (h : DrawAt H c d) (cl : CL) : ∃ a, a ∈ c.more ∧ H a = some (.lst ((cl.get d).map V.int)) ∧ DGet H c.main (.str cl.name) (some (.ref a)) := by
  obtain ⟨g, l, e1, _, _, _, e2, e3, e4⟩ := h
  cases cl
  · exact ⟨g, by rw [e1]; simp, e3, .inl ⟨_, .inr CL.great.name, .inl e2, rfl, rfl⟩⟩
  · exact ⟨l, by rw [e1]; simp, e4, .inl ⟨_, .inr CL.lumps.name, .inl e2, rfl, rfl⟩⟩
/-! ### reading -/
def evCI (i : Nat) (ck : CK) : Ev := fun st => match drawAt st i with
  | some (_, d) => .ok (.int (ck.get d), .new) st
  | none => .stuck
theorem pd_ci (hu : X.A.units + 65 < cLine) (ck : CK) (ho : PE X o (tVar i)) (hs : NoSl (.Constant (.str ck.name) kk p)) : PD X B W (.Subscript o (.Constant (.str ck.name) kk p) pos) (evCI i ck) := by
  refine PE.mono (pe_dget (by omega) ho pe_str hs) fun σ H Q ⟨ρ, st, rel, res⟩ => ?_
  unfold evCI at res
  split at res
  · rename_i k d h
    obtain ⟨c, e1, e2, e3, e4⟩ := drawAt_of rel h
    exact ⟨_, e1, _, _, rfl, dget_i e4 ck, res _ _ (.refl rel) _ (RepK.mkF (d := .int _) rfl) (fresh_flat (d := .int _) rfl)⟩
  · exact res.elim
/-- len(d[..]) -/
def evCLen (i : Nat) (cl : CL) : Ev := fun st => match drawAt st i with
  | some (_, d) => .ok (.int ((cl.get d).length : Nat), .new) st
  | none => .stuck
theorem pd_clen (hu : X.A.units + 65 < cLine) (cl : CL) (hgl : Gl X "len") (hm : X.mg "len" = none) (ho : PE X o (tVar i)) (hs : NoSl (.Constant (.str cl.name) kk p))
    (he : starEach [.Subscript o (.Constant (.str cl.name) kk p) p2] X.env = (false, eval (.Subscript o (.Constant (.str cl.name) kk p) p2) X.env) :: starEach [] X.env) (hpl : (backTo pos (starEach [] X.env)).any (·.1) = false) :
    PD X B W (.Call (.Name "len" pos') [.Subscript o (.Constant (.str cl.name) kk p) p2] [] pos) (evCLen i cl) := by
  refine PE.mono (pe_callB call_len_seq hgl hm PySem.boot_len (pa_cons (pe_dget (by omega) ho pe_str hs) pa_nil he) (by decide) (by decide) he hpl) fun σ H Q ⟨ρ, st, rel, res⟩ => ?_
  unfold evCLen at res
  split at res
  · rename_i k d h
    obtain ⟨c, e1, e2, e3, e4⟩ := drawAt_of rel h
    obtain ⟨a, ha, e5, e6⟩ := dget_l e4 cl
    have := res _ _ (.refl rel) _ (RepK.mkF (d := .int _) rfl) (fresh_flat (d := .int _) rfl)
    exact ⟨_, e1, _, _, rfl, e6, a, _, rfl, .inl (.inl (.inl e5)), by rw [List.length_map]; exact this⟩
  · exact res.elim
/-- d[..] != [] -/
def tvNE (i : Nat) (cl : CL) : Tv := fun st => match drawAt st i with
  | some (_, d) => .ok (!(cl.get d).isEmpty) st
  | none => .stuck
theorem ints_dp {K : PySem.W.Frag} : ∀ ns : List Int, DpAll K H (ns.map V.int) (ns.map PyData.int)
  | [] => .nil
  | n :: ns => .cons (.int n) (ints_dp ns)
theorem canLay_ints : ∀ ns : List Int, PyData.canLayAll0 (ns.map PyData.int) = true
  | [] => rfl
  | n :: ns => by
    show (PyData.canLay0 (.int n) && PyData.canLayAll0 (ns.map PyData.int)) = true
    rw [canLay_ints ns]; rfl
theorem depth_ints : ∀ ns : List Int, PyData.depthAll (ns.map PyData.int) = 0
  | [] => rfl
  | n :: ns => by
    show max (PyData.depth (.int n)) (PyData.depthAll (ns.map PyData.int)) = 0
    rw [depth_ints ns]; rfl
theorem shaped_ints (ns : List Int) : SeqAt.shaped (.list (ns.map PyData.int)) = true := by
  unfold SeqAt.shaped
  rw [Bool.and_eq_true]
  refine ⟨canLay_ints ns, decide_eq_true ?_⟩
  show PyData.depthAll (ns.map PyData.int) + 1 ≤ 64
  rw [depth_ints]; decide
theorem eqv_ints_nil (ns : List Int) : PyData.eqv (.list (ns.map PyData.int)) (.list []) = ns.isEmpty := by
  show PyData.eqvAll (ns.map PyData.int) [] = _
  cases ns <;> rfl
theorem ptd_ne (hK : B.C.K = X.K) (hu : X.A.units + 65 < cLine) (cl : CL) (ho : PE X o (tVar i)) (hs : NoSl (.Constant (.str cl.name) kk p)) (hmk : behindInMarks .NotEq (.List [] p2) = false) :
    PTD X B W (.Compare (.Subscript o (.Constant (.str cl.name) kk p) tpos) [.NotEq] [.List [] p2] pos) (tvNE i cl) := by
  refine PT.mono (pt_cmpR (op_neD (by omega)) (pe_dget (by omega) ho pe_str hs) (pe_lst pa_nil) hmk) fun σ H Q ⟨ρ, st, rel, res⟩ => ?_
  unfold tvNE at res
  split at res
  · rename_i k d h
    obtain ⟨c, e1, e2, e3, e4⟩ := drawAt_of rel h
    obtain ⟨a, ha, e5, e6⟩ := dget_l e4 cl
    refine ⟨_, e1, _, _, rfl, e6, Nat.zero_le _, fun q hq => ?_⟩
    have res := res _ _ (Step.alloc (o := .lst []) rel hq)
    have ea : upd H q (.lst []) a = some (.lst ((cl.get d).map V.int)) := by rw [upd_ne (ne_of_none e5 hq)]; exact e5
    refine ⟨.list ((cl.get d).map PyData.int), .list [], .lst (.inl (.inl ea)) (ints_dp _), .lst (.inl (.inl upd_same)) .nil, shaped_ints _, rfl, ?_⟩
    refine ⟨!(cl.get d).isEmpty, ?_, res⟩
    rw [eqv_ints_nil]
  · exact res.elim
/-- d['lumps'][e] -/
def evCIx (i : Nat) (cl : CL) (fe : Ev) : Ev := fun st => match drawAt st i with
  | some _ => (fe st).bind fun a st1 => (match drawAt st1 i, a.1 with
    | some (_, d), .int j => (match atI (cl.get d) j with
      | some n => .ok (.int n, .new) st1
      | none => .stuck)
    | _, _ => .stuck)
  | _ => .stuck
theorem atI_map {α β : Type} (f : α → β) (xs : List α) (j : Int) : atI (xs.map f) j = (atI xs j).map f := by
  unfold atI
  rw [List.length_map]
  cases ixN xs.length j with
  | none => rfl
  | some n => simp
/-- the same cell later -/
theorem drawAt_step {k1 : Nat} {d1 : DrawSt} (s : Step B σ ρ st H ρ1 st1 H1) (h : drawAt st i = some (k, d)) (h1 : drawAt st1 i = some (k1, d1)) : k1 = k := by
  unfold drawAt at h h1
  split at h1
  · rename_i k' hs
    split at h1
    · cases h1
      obtain ⟨c, e⟩ := s.sl i _ _ hs
      split at h
      · rename_i k'' hs'
        split at h
        · cases h
          rw [hs'] at e
          cases e
          rfl
        · cases h
      · cases h
    · cases h1
  · cases h1
theorem dget_more (h : DrawAt H c d) (h' : DrawAt H' c d') (cl : CL) {a : Addr} (ha : DGet H c.main (.str cl.name) (some (.ref a))) : H' a = some (.lst ((cl.get d').map V.int)) := by
  obtain ⟨g, l, e1, _, _, _, e3, e4, e5⟩ := h
  obtain ⟨g', l', e1', _, _, _, e3', e4', e5'⟩ := h'
  rw [e1] at e1'
  cases e1'
  rcases ha with ⟨kvs, k, r, ek, ev⟩ | ⟨kvs, k, b, r, _⟩
  · rcases r with r | ⟨o, r⟩
    · rw [e3] at r
      cases r
      cases k with
      | inl n => cases ek
      | inr s =>
        cases ek
        cases cl
        · cases ev; exact e4'
        · cases ev; exact e5'
    · rw [e3] at r; cases r
  · rcases r with r | ⟨o, r⟩ <;> (rw [e3] at r; cases r)
theorem pd_cix (hK : B.C.K = X.K) (hu : X.A.units + 65 < cLine) (cl : CL) (ho : PE X o (tVar i)) (hs : NoSl (.Constant (.str cl.name) kk p)) (he : PD X B W e fe) (hsl : PlainIx e) : PD X B W (.Subscript (.Subscript o (.Constant (.str cl.name) kk p) p2) e pos) (evCIx i cl fe) := by
  refine PE.mono (pe_ix ix_list (pe_dget (by omega) ho pe_str hs) he hsl) fun σ H Q ⟨ρ, st, rel, res⟩ => ?_
  unfold evCIx at res
  cases h0 : drawAt st i with
  | none => rw [h0] at res; exact res.elim
  | some kd =>
    obtain ⟨k, d⟩ := kd
    rw [h0] at res
    obtain ⟨c, e1, e2, e3, e4⟩ := drawAt_of rel h0
    obtain ⟨a, ha, e5, e6⟩ := dget_l e4 cl
    refine ⟨_, e1, _, _, rfl, e6, ?_⟩
    refine RD.go rel (Res.bind res) fun b st1 ρ1 H1 s1 r1 y ry fy => ?_
    cases h1 : drawAt st1 i with
    | none => rw [h1] at r1; exact r1.elim
    | some kd =>
      obtain ⟨k1, d1⟩ := kd
      rw [h1] at r1
      obtain ⟨c1, f1, f2, f3, f4⟩ := drawAt_of s1.rel h1
      have hk := drawAt_step s1 h0 h1
      subst hk
      have hcc : c1 = c := by
        obtain ⟨t, rfl⟩ := s1.pre
        rw [List.getElem?_append_left (List.getElem?_eq_some_iff.mp e2).1, e2] at f2
        cases f2; rfl
      subst hcc
      have e7 := dget_more e4 f4 cl e6
      obtain ⟨bd, bk⟩ := b
      cases bd <;> try exact r1.elim
      rename_i j
      dsimp only at r1
      cases ej : atI (cl.get d1) j with
      | none => rw [ej] at r1; exact r1.elim
      | some n =>
        rw [ej] at r1
        obtain rfl := RepK.int ry
        refine ⟨a, _, j, .int n, rfl, rfl, .inl (.inl e7), by rw [atI_map, ej]; rfl, ?_⟩
        exact Res.now s1.rel r1 _ (RepK.mkF (d := .int _) rfl) (fresh_flat (d := .int _) rfl)
/-! ### writing -/
theorem Step.draw (rel : Rel B ρ st σ H) (hc : ρ[k]? = some c) (hs : st.cs[k]? = some (.draw d)) (hd : DrawAt H' c d') (hfr : ∀ a, ¬ (a = c.main ∨ a ∈ c.more) → H' a = H a) : Step B σ ρ st H ρ ⟨st.sl, st.cs.set k (.draw d')⟩ H' := by
  have inC : ∀ a, (a = c.main ∨ a ∈ c.more) → CM ρ a := fun a z => ⟨c, List.mem_of_getElem? hc, z⟩
  have some' : ∀ a, (a = c.main ∨ a ∈ c.more) → H' a ≠ none := fun a z => by
    obtain ⟨g, l, e1, _, _, _, e3, e4, e5⟩ := hd
    rcases z with rfl | z
    · rw [e3]; exact fun z => nomatch z
    · rw [e1] at z
      rcases List.mem_cons.mp z with rfl | z
      · rw [e4]; exact fun z => nomatch z
      · rcases List.mem_cons.mp z with rfl | z
        · rw [e5]; exact fun z => nomatch z
        · cases z
  have fr : ∀ a o, H a = some o → ¬ CM ρ a → NT o → H' a = some o := fun a o e n _ => (hfr a fun z => n (inC a z)).trans e
  have dm : ∀ a, H a ≠ none → H' a ≠ none := fun a z => by
    by_cases h : a = c.main ∨ a ∈ c.more
    · exact some' a h
    · rw [hfr a h]; exact z
  have mv : ∀ a, Av ρ B.O ⟨st.sl, st.cs.set k (.draw d')⟩ σ a → Av ρ B.O st σ a ∨ H a = none := fun a z => .inl z
  have fr' : ∀ a o, H a = some o → ¬ Av ρ B.O st σ a → NT o → H' a = some o := fun a o e n => fr a o e fun z => n (.cm z)
  have hkl : k < st.cs.length := (List.getElem?_eq_some_iff.mp hs).1
  refine ⟨List.prefix_refl _, ⟨rel.len, fun i d h => ?_, fun i d h => ?_, rel.dis, fun a z => dm a (rel.dom a z), fun a z => dm a (rel.odom a z), ⟨by rw [rel.cel.len]; simp, fun j cj x h1 h2 => ?_, rel.cel.dis⟩, fun a z => dm a (rel.cdom a z), tabs_but rel.tabs fun a o e nw => ?_⟩, fr, fun _ _ z => z, fun _ _ b z => ⟨b, z⟩, fun _ z => .inl z, dm⟩
  · obtain ⟨v, e, q⟩ := rel.fro i d h
    exact ⟨v, e, q.mv (List.prefix_refl _) fr' mv⟩
  · obtain ⟨q, e, cc, n1, n2, n3⟩ := rel.own i d h
    exact ⟨q, e, cc.mv (List.prefix_refl _) fr' mv (hfr q fun z => n1 (inC q z)), n1, n2, n3⟩
  · by_cases hj : j = k
    · subst hj
      rw [hc] at h1
      cases h1
      have h2 : (st.cs.set j (.draw d'))[j]? = some x := h2
      rw [List.getElem?_set_self hkl] at h2
      cases h2
      exact hd
    · have h2 : (st.cs.set k (.draw d'))[j]? = some x := h2
      rw [List.getElem?_set_ne (Ne.symm hj)] at h2
      have q := rel.cel.ok j cj x h1 h2
      have keep : ∀ a, (a = cj.main ∨ a ∈ cj.more) → H' a = H a := fun a z => hfr a fun z' => rel.cel.dis j k cj c h1 hc hj a z z'
      cases x with
      | draw dd =>
        obtain ⟨g, l, e1, n1, n2, n3, e3, e4, e5⟩ := q
        exact ⟨g, l, e1, n1, n2, n3, (keep _ (.inl rfl)).trans e3, (keep g (.inr (by rw [e1]; simp))).trans e4, (keep l (.inr (by rw [e1]; simp))).trans e5⟩
      | obj dd => exact ⟨q.1, q.2.mv (List.prefix_refl _) fr' mv (keep _ (.inl rfl))⟩
      | dead => trivial
  · by_cases h : a = c.main ∨ a ∈ c.more
    · obtain ⟨g, l, e1, _, _, _, e3, e4, e5⟩ := rel.cel.ok k c _ hc hs
      refine absurd ?_ nw
      rcases h with rfl | h
      · rw [e3] at e; cases e; trivial
      · rw [e1] at h
        rcases List.mem_cons.mp h with rfl | h
        · rw [e4] at e; cases e; trivial
        · rcases List.mem_cons.mp h with rfl | h
          · rw [e5] at e; cases e; trivial
          · cases h
    · rw [hfr a h]; exact e
/-- d['..'] = e -/
def svCSet (i : Nat) (ck : CK) (fe : Ev) : Sv := fun st => (fe st).bind fun a st1 => match drawAt st1 i, a.1 with
  | some (k, d), .int n => .ok .nx ⟨st1.sl, st1.cs.set k (.draw (ck.put d n))⟩
  | _, _ => .stuck
theorem dput_i (h : DrawAt H c d) (ck : CK) (n : Int) : ∃ H', DPut H c.main (.str ck.name) (.int n) H' ∧ DrawAt H' c (ck.put d n) ∧ ∀ a, ¬ (a = c.main ∨ a ∈ c.more) → H' a = H a := by
  obtain ⟨g, l, e1, n1, n2, n3, e3, e4, e5⟩ := h
  refine ⟨_, .inl ⟨_, .inr ck.name, e3, rfl, by show 4 < sizeLine; decide, rfl⟩, ⟨g, l, e1, n1, n2, n3, ?_, ?_, ?_⟩, fun a z => upd_ne fun e => z (.inl e)⟩
  · rw [upd_same]
    cases ck <;> rfl
  · rw [upd_ne (Ne.symm n1), e4]
    cases ck <;> rfl
  · rw [upd_ne (Ne.symm n2), e5]
    cases ck <;> rfl
theorem psd_cset (hu : X.A.units + 65 < cLine) (ck : CK) (ho : PE X o (tVar i)) (he : PD X B W e fe) (hs : swapsWith e (some (.Subscript o (.Constant (.str ck.name) kk p) pos')) pos.line X.env = pure false) : PSD X B W (.Assign [.Subscript o (.Constant (.str ck.name) kk p) pos'] e pos) (svCSet i ck fe) := by
  refine PS.mono (ps_dput (by omega) ho pe_str he hs) fun D σ H ⟨ρ, st, rel, r⟩ => ?_
  refine RD.go rel (SRes.ex r) fun a st1 ρ1 H1 s1 r1 v rv fv => ?_
  cases h1 : drawAt st1 i with
  | none => rw [h1] at r1; exact r1.elim
  | some kd =>
    obtain ⟨k, d⟩ := kd
    rw [h1] at r1
    obtain ⟨ad, ak⟩ := a
    cases ad <;> try exact r1.elim
    rename_i n
    obtain rfl := RepK.int rv
    obtain ⟨c, f1, f2, f3, f4⟩ := drawAt_of s1.rel h1
    obtain ⟨H2, g1, g2, g3⟩ := dput_i f4 ck n
    refine ⟨_, f1, _, H2, rfl, g1, ?_⟩
    exact r1 _ _ _ (.of (Step.draw s1.rel f2 f3 g2 g3))
/-- d['turn'] += 1 -/
def svCAug (i : Nat) (ck : CK) (fe : Ev) : Sv := fun st => match drawAt st i with
  | some (k, d) => (fe st).bind fun a st1 => (match drawAt st1 i, a.1 with
    | some (_, d1), .int n => .ok .nx ⟨st1.sl, st1.cs.set k (.draw (ck.put d1 (ck.get d + n)))⟩
    | _, _ => .stuck)
  | none => .stuck
theorem psd_caug (hu : X.A.units + 65 < cLine) (ck : CK) (ho : PE X o (tVar i)) (he : PD X B W e fe)
    (ha : ∀ ov iv new, augStore (.Constant (.str ck.name) kk p) ov iv new = (do holding [new, ov, iv] (setItem ov iv new); release [new, ov, iv] []; pure .next)) : PSD X B W (.AugAssign (.Subscript o (.Constant (.str ck.name) kk p) tpos) .Add e pos) (svCAug i ck fe) := by
  refine PS.mono (ps_daug (by omega) ho pe_str he in_add ha) fun D σ H ⟨ρ, st, rel, r⟩ => ?_
  unfold svCAug at r
  cases h0 : drawAt st i with
  | none => rw [h0] at r; exact r.elim
  | some kd =>
    obtain ⟨k, d⟩ := kd
    rw [h0] at r
    obtain ⟨c, e1, e2, e3, e4⟩ := drawAt_of rel h0
    refine ⟨_, e1, _, _, rfl, dget_i e4 ck, ?_⟩
    refine RD.go rel (SRes.ex r) fun a st1 ρ1 H1 s1 r1 v rv fv => ?_
    cases h1 : drawAt st1 i with
    | none => rw [h1] at r1; exact r1.elim
    | some kd =>
      obtain ⟨k1, d1⟩ := kd
      rw [h1] at r1
      obtain ⟨ad, ak⟩ := a
      cases ad <;> try exact r1.elim
      rename_i n
      obtain rfl := RepK.int rv
      obtain ⟨c1, f1, f2, f3, f4⟩ := drawAt_of s1.rel h1
      have hk := drawAt_step s1 h0 h1
      subst hk
      have hcc : c1 = c := by
        obtain ⟨t, rfl⟩ := s1.pre
        rw [List.getElem?_append_left (List.getElem?_eq_some_iff.mp e2).1, e2] at f2
        cases f2; rfl
      subst hcc
      obtain ⟨H2, g1, g2, g3⟩ := dput_i f4 ck (ck.get d + n)
      refine ⟨_, _, rfl, rfl, H2, g1, ?_⟩
      exact r1 _ _ _ (.of (Step.draw s1.rel f2 f3 g2 g3))
/-- d['digits'] = d['great'].pop(0) -/
def svPop0 (i : Nat) : Sv := fun st => match drawAt st i with
  | some (k, d) => (match d.great with
    | n :: r => .ok .nx ⟨st.sl, st.cs.set k (.draw { d with great := r, digits := n })⟩
    | [] => .stuck)
  | none => .stuck
theorem psd_pop0 {kk2 : Nat} {p3 p4 : Pos} (hK : B.C.K = X.K) (hu : X.A.units + 65 < cLine) (ho : PE X o (tVar i)) (ho2 : PE X e (tVar i)) (hsg : NoSl (.Constant (.str CL.great.name) kk2 p2))
    (hbase : attributeBase (.Subscript e (.Constant (.str CL.great.name) kk2 p2) p3) "pop" X.env (eval (.Subscript e (.Constant (.str CL.great.name) kk2 p2) p3) X.env) = eval (.Subscript e (.Constant (.str CL.great.name) kk2 p2) p3) X.env)
    (hfew : ((backTo cpos (starEach [.Constant (.int 0) k p4] X.env)).all (fun x => !x.1) && (backToKw cpos (keywordEach [] X.env)).all (fun x => x.1.isSome)
      && decide (([.Constant (.int 0) k p4] : List Expr).length + ([] : List Keyword).length + (if ([] : List Keyword).isEmpty then 0 else 1) < 30)) = true)
    (hline : (apos.endLine == cpos.line) = true) (hst : starEach [.Constant (.int 0) k p4] X.env = (false, eval (.Constant (.int 0) k p4) X.env) :: starEach [] X.env) (hplain : (backTo cpos (starEach [] X.env)).any (·.1) = false)
    (hs : swapsWith (.Call (.Attribute (.Subscript e (.Constant (.str CL.great.name) kk2 p2) p3) "pop" apos) [.Constant (.int 0) k p4] [] cpos) (some (.Subscript o (.Constant (.str CK.digits.name) kk p) pos')) pos.line X.env = pure false) :
    PSD X B W (.Assign [.Subscript o (.Constant (.str CK.digits.name) kk p) pos'] (.Call (.Attribute (.Subscript e (.Constant (.str CL.great.name) kk2 p2) p3) "pop" apos) [.Constant (.int 0) k p4] [] cpos) pos) (svPop0 i) := by
  refine PS.mono (ps_dput (by omega) ho pe_str (pe_bm PySem.F.plainAttrs_list PySem.F.slot_list_pop PySem.F.type_list_pop mt_popAt (pe_dget (by omega) ho2 pe_str hsg) (pa_cons pe_int pa_nil hst) hbase hfew hline hst hplain) hs) fun D σ H ⟨ρ, st, rel, r⟩ => ?_
  unfold svPop0 at r
  cases h0 : drawAt st i with
  | none => rw [h0] at r; exact r.elim
  | some kd =>
    obtain ⟨k, d⟩ := kd
    rw [h0] at r
    obtain ⟨c, e1, e2, e3, e4⟩ := drawAt_of rel h0
    have e4' := e4
    obtain ⟨g, l, f1, n1, n2, n3, f3, f4, f5⟩ := e4
    dsimp only at r
    cases hg : d.great with
    | nil => rw [hg] at r; exact r.elim
    | cons n rest =>
      rw [hg] at r
      have f4' : H g = some (.lst (V.int n :: rest.map V.int)) := by rw [f4, hg]; rfl
      refine ⟨_, e1, _, _, rfl, .inl ⟨_, .inr CL.great.name, .inl f3, rfl, rfl⟩, .inl ⟨rfl, _, .inl (.inl f4)⟩, g, _, 0, 0, .int n, rfl, rfl, f4', by decide, by decide, by simp [seqIndex?], rfl, ?_⟩
      have hm : upd H g (.lst (rest.map V.int)) c.main = some (.dK [(kDigits, .int d.digits), (kGreat, .ref g), (kLumps, .ref l), (kTurn, .int d.turn)]) := by rw [upd_ne n1]; exact f3
      refine ⟨_, e1, _, _, rfl, .inl ⟨_, .inr CK.digits.name, hm, rfl, by show 4 < sizeLine; decide, rfl⟩, ?_⟩
      refine r _ _ _ (.of (Step.draw rel e2 e3 ⟨g, l, f1, n1, n2, n3, ?_, ?_, ?_⟩ fun a z => ?_))
      · rw [upd_same]; rfl
      · rw [upd_ne (Ne.symm n1), upd_same]; rfl
      · rw [upd_ne (Ne.symm n2), upd_ne (Ne.symm n3)]; exact f5
      · rw [f1] at z
        have za : a ≠ c.main := fun e => z (.inl e)
        have zg : a ≠ g := fun e => z (.inr (by simp [e]))
        rw [upd_ne za]
        exact upd_ne zg
end
end D

/-! D: the rules in short, for printed proofs. -/
namespace D
open PySem L2 PyProof.Rows

/-- a flat answer is new -/
def evN (f : Ev) : Ev := fun st => (f st).bind fun a st1 => .ok (a.1, if flat a.1 = true then .new else a.2) st1
theorem pd_n {X : Cx} {B : BC} {W : WX} {e : Expr} {f : Ev} (h : PD X B W e f) : PD X B W e (evN f) := by
  refine PE.mono h fun σ H Q ⟨ρ, st, rel, r⟩ => ⟨ρ, st, rel, ?_⟩
  unfold evN at r
  cases e : f st with
  | stuck => rw [e] at r; exact r
  | exc x st1 => rw [e] at r; exact r
  | ok a st1 =>
    rw [e] at r
    intro ρ1 H1 s v rv fv
    have r1 := r ρ1 H1 s v
    dsimp only at r1
    by_cases hf : flat a.1 = true
    · rw [if_pos hf] at r1
      obtain rfl := rv.flat hf
      exact r1 (RepK.mkF hf) (fresh_flat hf)
    · rw [if_neg hf] at r1
      exact r1 rv fv
/-- what is known of a context -/
structure Fx (X : Cx) (C : RC) (W : WX) (k : Nat) : Prop where
  K : C.K = X.K
  calm : X.calm = true
  room : Room k X.A
  gu : X.A.guards = some []
  tk : Takes X W
theorem takesF {X : Cx} : Takes X WF := fun _ _ x => by
  obtain ⟨_, _, _, _, _, _, _, _, _, _, _, _, _, _, _, _, z⟩ := x
  exact z.elim
section
variable {X : Cx} {C : RC} {O : Addr → Prop} {H0 : Hp} {W : WX} {k : Nat} {a b c e : Expr} {es rest : List Expr} {fa fb fc fe : Ev} {f g : Sv} {ta tb t : Tv} {gk : Ak} {pos p p1 p2 p3 apos cpos tpos : Pos} {x : Str} {i j kk : Nat}
theorem Fx.hu (fx : Fx X C W k) : X.A.units + 65 < cLine := by
  have h := fx.room.un
  omega
theorem Fx.blk (fx : Fx X C W k) {s : Shared} {H : Hp} {scope : Scope} {ce : Env} {fp : List Addr} : Fx (X.blk s H scope ce fp) C WF k := ⟨fx.K, fx.calm, fx.room, fx.gu, takesF⟩
/-! ### names and constants -/
theorem w_var (i : Nat) (hN : X.N[i]? = some x := by rfl) (hv : Vis X.env.scope x := by first | exact Or.inl rfl | exact Or.inr (Or.inl rfl) | exact Or.inr (Or.inr rfl)) (hd : (x == ("__debug__" : Str)) = false := by decide)
    (hcd : (x == ("__classdict__" : Str)) = false := by decide) : PD X ⟨C, O, H0⟩ W (.Name x pos) (evVar i) := pd_var (pe_var hN hv hd hcd)
theorem w_int {n : Int} : PD X ⟨C, O, H0⟩ W (.Constant (.int n) kk pos) (evC (.int n)) := pd_c pe_int (fun _ _ _ _ => .int n) fun _ e => nomatch e
theorem w_str {s : Str} : PD X ⟨C, O, H0⟩ W (.Constant (.str s) kk pos) (evC (.str s)) := pd_c pe_str (fun _ _ _ _ => .str s) fun _ e => nomatch e
theorem w_bool {v : Bool} : PD X ⟨C, O, H0⟩ W (.Constant (.bool v) kk pos) (evC (.bl v)) := pd_c pe_bl (fun _ _ _ _ => .bl v) fun _ e => nomatch e
theorem w_none : PD X ⟨C, O, H0⟩ W (.Constant .none kk pos) (evC .non) := pd_c pe_non (fun _ _ _ _ => .non) fun _ e => nomatch e
/-- a built-in type's name -/
theorem w_ty (n : String) (hv : bootBuiltins x = some (.type n)) (hm : X.mg x = none) (hg : Gl X x := by rfl) (hn : x ≠ "__name__" := by decide) (hd : (x == ("__debug__" : Str)) = false := by decide) : PD X ⟨C, O, H0⟩ W (.Name x pos) (evC (.ty n)) :=
  pd_c (pe_bltn hg hm hv (v := .ty n) rfl hn hd) (fun _ _ _ _ => .ty n) fun _ e => nomatch e
/-! ### operators -/
theorem w_bin (fx : Fx X C W k) (op : Operator) (ha : PD X ⟨C, O, H0⟩ W a fa) (hb : PD X ⟨C, O, H0⟩ W b fb) : PD X ⟨C, O, H0⟩ W (.BinOp a op b pos) (evOp (dBin op) fa fb) := by
  obtain ⟨r, h1, h2⟩ := op_bin (B := ⟨C, O, H0⟩) fx.K op
  exact pd_bin h1 h2 ha hb
theorem w_cmp (fx : Fx X C W k) (op : CmpOp) (ha : PD X ⟨C, O, H0⟩ W a fa) (hb : PD X ⟨C, O, H0⟩ W b fb) (hm : behindInMarks op b = false := by rfl) : PD X ⟨C, O, H0⟩ W (.Compare a [op] [b] pos) (evOp (dCmp op) fa fb) := by
  obtain ⟨r, h1, h2⟩ := op_cmp (B := ⟨C, O, H0⟩) fx.K fx.hu op
  exact pd_cmp h1 h2 ha hb hm
theorem w_ix (fx : Fx X C W k) (ha : PD X ⟨C, O, H0⟩ W a fa) (hb : PD X ⟨C, O, H0⟩ W b fb) (hs : PlainIx b := by intro _ _; rfl) : PD X ⟨C, O, H0⟩ W (.Subscript a b pos) (evN (evOp dIx fa fb)) := pd_n <| pd_ix fx.K (Nat.lt_of_le_of_lt (Nat.add_le_add_left (by decide : 1 ≤ 65) _) fx.hu) ha hb hs
/-! ### tests -/
theorem wt_cmp (fx : Fx X C W k) (op : CmpOp) (ha : PD X ⟨C, O, H0⟩ W a fa) (hb : PD X ⟨C, O, H0⟩ W b fb) (hm : behindInMarks op b = false := by rfl) : PTD X ⟨C, O, H0⟩ W (.Compare a [op] [b] pos) (tvB (evOp (dCmp op) fa fb)) := by
  obtain ⟨r, h1, h2⟩ := op_cmp (B := ⟨C, O, H0⟩) fx.K fx.hu op
  exact ptd_cmp h1 h2 ha hb hm
theorem wt_e (fx : Fx X C W k) (h : PD X ⟨C, O, H0⟩ W e fe) (he : ∀ whole, isTrue e X.env whole = (do let v ← whole; standAt e.pos; holding [v] (truthy v)) := by intro _; rfl) : PTD X ⟨C, O, H0⟩ W e (tvE fe) := ptd_truth fx.K h he
/-! ### arguments, displays, calls -/
theorem w_k (he : PD X ⟨C, O, H0⟩ W e fe) (hr : PKD X ⟨C, O, H0⟩ W es gk) (hs : starEach (e :: es) X.env = (false, eval e X.env) :: starEach es X.env := by rfl) : PKD X ⟨C, O, H0⟩ W (e :: es) (akCons fe gk) := pkd_cons he hr hs
theorem w_a0 : PAD X ⟨C, O, H0⟩ W [] evNil := pad_nil
theorem w_a {ga : Av'} (he : PD X ⟨C, O, H0⟩ W e fe) (hr : PAD X ⟨C, O, H0⟩ W es ga) (hs : starEach (e :: es) X.env = (false, eval e X.env) :: starEach es X.env := by rfl) : PAD X ⟨C, O, H0⟩ W (e :: es) (evCons fe ga) := pad_cons he hr hs
theorem akApp_nil (g : Ak) : akApp g [] = g := by
  funext st
  unfold akApp
  cases g st with
  | ok as st1 => simp [Out.bind]
  | exc x st1 => rfl
  | stuck => rfl
/-- an own def, by position, no defaults -/
theorem w_fn {F : Fn} {l : Nat} {fa : Addr} {fd : FuncData} {ps : List Str} (fx : Fx X C W k) (Fk : FnG X.prog X.w X.K X.mg X.base l fa fd ps (SpF C F)) (hm : X.mg x = some (.ref fa)) (hk : PySem.W.keepIn X.K (.ref fa) = true) (hb : Binds X.K fd ps [])
    (ha : PKD X ⟨C, O, H0⟩ W (e :: es) gk) (hl : l ≤ k := by decide) (hg : Gl X x := by rfl) (hdb : (x == ("__debug__" : Str)) = false := by decide) (he : starEach (e :: es) X.env = (false, eval e X.env) :: starEach es X.env := by rfl) (hpl : (backTo pos (starEach es X.env)).any (·.1) = false := by rfl) :
    PD X ⟨C, O, H0⟩ W (.Call (.Name x p) (e :: es) [] pos) (evN (evFn F gk)) := by
  have h := pd_fn (B := ⟨C, O, H0⟩) (W := W) (p := p) fx.K Fk (fx.room.mono hl) fx.gu hg hm hk hb (dvs := []) (dds := []) .nil (fun _ _ _ => .nil) fx.tk ha hdb he hpl
  rw [akApp_nil] at h
  exact pd_n h
theorem w_blt {ct : CT} (fx : Fx X C W k) (kc : KitC C ct) (b : Blt) (hm : X.mg b.name = none) (ha : PKD X ⟨C, O, H0⟩ W (e :: es) gk) (hgl : Gl X b.name := by rfl)
    (he : starEach (e :: es) X.env = (false, eval e X.env) :: starEach es X.env := by rfl) (hpl : (backTo pos (starEach es X.env)).any (·.1) = false := by rfl) : PD X ⟨C, O, H0⟩ W (.Call (.Name b.name p) (e :: es) [] pos) (evCall (b.run ct) gk) :=
  pd_blt b fx.K kc fx.calm fx.gu fx.hu hgl hm ha he hpl
/-! ### dict displays -/
/-! ### loops' sources -/
variable {tg iter : Expr}
theorem wi_e (fx : Fx X C W k) (he : PD X ⟨C, O, H0⟩ W e fe) : PID X ⟨C, O, H0⟩ W tg e (ivE fe) := pid_any fx.K he
theorem wi_r1 (hm : X.mg "range" = none) (ha : PKD X ⟨C, O, H0⟩ W [a] gk) (hg : Gl X "range" := by rfl) (hs : starEach [a] X.env = [(false, eval a X.env)] := by rfl) : PID X ⟨C, O, H0⟩ W tg (.Call (.Name "range" p) [a] [] pos) (ivR1 gk) := pid_range1 hg hm ha hs
/-! ### targets -/
theorem wg_name (i : Nat) (hN : X.N.Nodup) (hi : X.N[i]? = some x := by rfl) (hx : Loc X.env.scope x := by first | exact Or.inl rfl | exact Or.inr rfl) (hf : X.fn x = true ∨ X.env.scope.names.lookup x = some .local := by first | exact .inr rfl | exact .inl rfl) : PGD X C [i] (.Name x pos) (gvName i) := pgd_name hN hi hx hf
theorem wg_n0 : PGsD X C [] [] gvNil := pgsd_nil
theorem wg_n {vs ws : List Nat} {fg : Gv} {gg : List DV → DS → Option DS} (h1 : PGD X C vs e fg) (h2 : PGsD X C ws es gg) (hs : (assignEach (e :: es) X.env).map (·.2) = assign e X.env :: (assignEach es X.env).map (·.2) := by rfl) : PGsD X C (vs ++ ws) (e :: es) (gvCons fg gg) := pgsd_cons h1 h2 hs
theorem wg_tup {vs : List Nat} {gg : List DV → DS → Option DS} {n : Nat} (fx : Fx X C W k) (h : PGsD X C vs es gg) (hn : (assignEach es X.env).length = n := by rfl) (hst : (assignEach es X.env).findIdx? (·.1) = none := by rfl) : PGD X C vs (.Tuple es kk pos) (gvTup n gg) := pgd_tup fx.K fx.calm h hn hst
/-! ### comprehensions -/
theorem w_lc {elt : Expr} {ifs : List Expr} {scope : Scope} {vt : List Nat} {fi : Iv} {g : Gv} {tt : Tv} (own : List (Str × Nat)) (fx : Fx X C W k) (hN : X.N.Nodup) (hi : PID X ⟨C, O, H0⟩ W tg iter fi) (ok : BlkOk X.N X.env.scope scope own)
    (hg : ∀ (s : Shared) (H : Hp) (Ca : Addr) (cl : List (Str × Addr)) (fp : List Addr), Fx (X.blk s H scope (compEnvC scope cl Ca X.env) fp) C WF k → PGD (X.blk s H scope (compEnvC scope cl Ca X.env) fp) C vt tg g)
    (ht : ∀ (s : Shared) (H : Hp) (Ca : Addr) (cl : List (Str × Addr)) (fp : List Addr), Fx (X.blk s H scope (compEnvC scope cl Ca X.env) fp) C WF k → PTs (X.blk s H scope (compEnvC scope cl Ca X.env) fp) ifs (RTx C tt))
    (he : ∀ (s : Shared) (H : Hp) (Ca : Addr) (cl : List (Str × Addr)) (fp : List Addr), Fx (X.blk s H scope (compEnvC scope cl Ca X.env) fp) C WF k → ∀ O H0, PD (X.blk s H scope (compEnvC scope cl Ca X.env) fp) ⟨C, O, H0⟩ WF elt fe)
    (hv : ∀ i ∈ vt, i ∈ own.map (·.2) := by decide) (hs : ∀ x, foldedSetIterable iter X.env x = pure x := by intro _; rfl) :
    PD X ⟨C, O, H0⟩ W (.ListComp elt [⟨tg, iter, ifs, 0⟩] scope pos) (evLc (own.map (·.2)) fi g tt fe) :=
  pd_lc (B := ⟨C, O, H0⟩) fx.calm hN hi ok hv (fun s H Ca cl fp => hg s H Ca cl fp fx.blk) (fun s H Ca cl fp => ht s H Ca cl fp fx.blk) (fun s H Ca cl fp B' hB => by
    cases B' with
    | mk C' O' H' =>
      have hB : C' = C := hB
      subst hB
      exact he s H Ca cl fp fx.blk O' H') hs
theorem w_t0 : PTs X [] (RTx C tvYes) := ptsx_nil
theorem w_t1 (h : ∀ O H0, PTD X ⟨C, O, H0⟩ WF c t) : PTs X [c] (RTx C t) := ptsx_one fun B hB => by
  cases B with
  | mk C' O' H' =>
    have hB : C' = C := hB
    subst hB
    exact h O' H'
/-! ### statements -/
theorem ws_set (i : Nat) (hN : X.N.Nodup) (he : PD X ⟨C, O, H0⟩ W e fe) (hi : X.N[i]? = some x := by rfl) (hx : Loc X.env.scope x := by first | exact Or.inl rfl | exact Or.inr rfl) (hs : swapsWith e (some (.Name x p)) pos.line X.env = pure false := by rfl) (hf : X.fn x = true ∨ X.env.scope.names.lookup x = some .local := by first | exact .inr rfl | exact .inl rfl) :
    PSD X ⟨C, O, H0⟩ W (.Assign [.Name x p] e pos) (svSet i fe) := psd_set hN hi hx he hs hf
theorem ws_setLc {elt : Expr} {ifs : List Expr} {scope : Scope} {vt : List Nat} {fi : Iv} {g : Gv} {tt : Tv} (i : Nat) (own : List (Str × Nat)) (fx : Fx X C W k) (hN : X.N.Nodup) (hi : PID X ⟨C, O, H0⟩ W tg iter fi) (ok : BlkOk X.N X.env.scope scope own)
    (hg : ∀ (s : Shared) (H : Hp) (Ca : Addr) (cl : List (Str × Addr)) (fp : List Addr), Fx (X.blk s H scope (compEnvC scope cl Ca X.env) fp) C WF k → PGD (X.blk s H scope (compEnvC scope cl Ca X.env) fp) C vt tg g)
    (ht : ∀ (s : Shared) (H : Hp) (Ca : Addr) (cl : List (Str × Addr)) (fp : List Addr), Fx (X.blk s H scope (compEnvC scope cl Ca X.env) fp) C WF k → PTs (X.blk s H scope (compEnvC scope cl Ca X.env) fp) ifs (RTx C tt))
    (he : ∀ (s : Shared) (H : Hp) (Ca : Addr) (cl : List (Str × Addr)) (fp : List Addr), Fx (X.blk s H scope (compEnvC scope cl Ca X.env) fp) C WF k → ∀ O H0, PD (X.blk s H scope (compEnvC scope cl Ca X.env) fp) ⟨C, O, H0⟩ WF elt fe)
    (hsw : swapsWith (.ListComp elt [⟨tg, iter, ifs, 0⟩] scope pos) (some (.Name x p)) tpos.line X.env = pure true)
    (hv : ∀ i ∈ vt, i ∈ own.map (·.2) := by decide) (hy : X.N[i]? = some x := by rfl) (hyl : X.env.scope.names.lookup x = some .local := by rfl) (hs : ∀ x, foldedSetIterable iter X.env x = pure x := by intro _; rfl) :
    PSD X ⟨C, O, H0⟩ W (.Assign [.Name x p] (.ListComp elt [⟨tg, iter, ifs, 0⟩] scope pos) tpos) (svSet i (evLc (own.map (·.2)) fi g tt fe)) :=
  psd_setLc (B := ⟨C, O, H0⟩) fx.calm hN hy hyl hsw hi ok hv (fun s H Ca cl fp => hg s H Ca cl fp fx.blk) (fun s H Ca cl fp => ht s H Ca cl fp fx.blk) (fun s H Ca cl fp B' hB => by
    cases B' with
    | mk C' O' H' =>
      have hB : C' = C := hB
      subst hB
      exact he s H Ca cl fp fx.blk O' H') hs
theorem ws_ret (he : PD X ⟨C, O, H0⟩ W e fe) : PSD X ⟨C, O, H0⟩ W (.Return (some e) pos) (svRet fe) := psd_ret he
theorem ws_if {l r : List Stmt} (hc : PTD X ⟨C, O, H0⟩ W c t) (ha : PSsD X ⟨C, O, H0⟩ W l f) (hb : PSsD X ⟨C, O, H0⟩ W r g) : PSD X ⟨C, O, H0⟩ W (.If c l r pos) (svIf t f g) := psd_if hc ha hb
theorem ws_for {vs : List Nat} {body : List Stmt} {fi : Iv} {gv : Gv} (fx : Fx X C W k) (hp : PassesOwn (model X.prog X.w) X.A X.env X.xe) (hi : PID X ⟨C, O, H0⟩ W tg iter fi) (hg : PGD X C vs tg gv) (hb : PSsD X ⟨C, O, H0⟩ W body f)
    (hs : ∀ x, foldedSetIterable iter X.env x = pure x := by intro _; rfl) : PSD X ⟨C, O, H0⟩ W (.For tg iter body [] pos) (svFor fi gv f) := psd_for hp fx.calm hi hg hb hs
theorem ws_while {body : List Stmt} (n : Nat) (hp : PassesOwn (model X.prog X.w) X.A X.env X.xe) (hc : PTD X ⟨C, O, H0⟩ W c t) (hb : PSsD X ⟨C, O, H0⟩ W body f) : PSD X ⟨C, O, H0⟩ W (.While c body [] pos) (svWhile t f n) := psd_while hp hc hb n
end
theorem fx_of {P : Program} {w : World} {C : RC} {mg : Str → Option Value} {base : Heap} {N : List Str} {qual : Str} {scope : Scope} {f : Addr} {cdv : Value} {A : Around} {outer : List Env} {s : Shared} {H : Hp} {E : XK} {k : Nat}
    (hr : Room k (A.deeper (envOfC qual scope s.heap.objs.size f cdv))) (hg : (cxOf (L2.CX P w) P w C.K mg base N qual scope f cdv A outer s H E).A.guards = some []) :
    Fx (cxOf (L2.CX P w) P w C.K mg base N qual scope f cdv A outer s H E) C (fun cls d _ H' => E cls d H') k := ⟨rfl, rfl, hr, hg, takes_of rfl rfl rfl rfl⟩
theorem pas_of {P : Program} {w : World} {C : RC} {mg : Str → Option Value} {base : Heap} {N : List Str} {qual : Str} {scope : Scope} {f : Addr} {cdv : Value} {A : Around} {outer : List Env} {s : Shared} {H : Hp} {E : XK} :
    PassesOwn (model (cxOf (L2.CX P w) P w C.K mg base N qual scope f cdv A outer s H E).prog (cxOf (L2.CX P w) P w C.K mg base N qual scope f cdv A outer s H E).w) (cxOf (L2.CX P w) P w C.K mg base N qual scope f cdv A outer s H E).A (cxOf (L2.CX P w) P w C.K mg base N qual scope f cdv A outer s H E).env (cxOf (L2.CX P w) P w C.K mg base N qual scope f cdv A outer s H E).xe :=
  passes_of (X := cxOf (L2.CX P w) P w C.K mg base N qual scope f cdv A outer s H E) rfl
/-- a block's names, looked at -/
def blkB (N : List Str) (scn : List (Str × NameKind)) (kind : ScopeKind) (names : List (Str × NameKind)) (own : List (Str × Nat)) : Bool :=
  decide (kind = .function) && names.all (fun y => decide (names.lookup y.1 = some y.2)) && own.all (fun p => decide (N[p.2]? = some p.1)) &&
  names.all (fun y => !decide (y.2 = .free) || decide (scn.lookup y.1 = some .cell) || decide (scn.lookup y.1 = some .free)) &&
  names.all (fun y => !(decide (y.2 = .local) || decide (y.2 = .cell)) || decide (y.1 ∈ own.map (·.1)) || decide (y.1 ∉ N))
theorem blk_of {N : List Str} {sc scope : Scope} {own : List (Str × Nat)} (h : blkB N sc.names scope.kind scope.names own = true) : BlkOk N sc scope own := by
  unfold blkB at h
  simp only [Bool.and_eq_true, List.all_eq_true, decide_eq_true_eq, Bool.or_eq_true, Bool.not_eq_true', decide_eq_false_iff_not] at h
  obtain ⟨⟨⟨⟨h1, h2⟩, h3⟩, h4⟩, h5⟩ := h
  refine ⟨h1, h2, h3, fun y hy e => ?_, fun y hy e => ?_⟩
  · rcases h4 y hy with (z | z) | z
    · exact absurd e z
    · exact .inl z
    · exact .inr z
  · rcases h5 y hy with (z | z) | z
    · have z' : ¬ (y.2 = .local ∨ y.2 = .cell) := fun q => by
        rcases q with q | q <;> simp [q] at z
      exact absurd e z'
    · exact .inl z
    · exact .inr z
end D

/-! D: how a draw begins. -/
namespace D
open PySem L2 PyProof.Rows

abbrev absI (i : Int) : Int := if i < 0 then -i else i
def greatL (ns : List Int) : List Int := (ns.filter fun z => decide ((10 : Int) ^ 18 ≤ absI z)).map fun z => absI z / 10 ^ 18
def lumpL (ns : List Int) : List Int := ns.map fun z => absI z % 10 ^ 18
def begunD (ns : List Int) : DrawSt := ⟨0, greatL ns, lumpL ns, 0⟩
def F_begun : Fn := fun ds st => match ds with
  | [.scr ns] => if st.cs.all isDraw = true ∧ ns.length ≤ sizeLine then .ok (.cel st.cs.length, .fro) ⟨[], st.cs ++ [.draw (begunD ns)]⟩ else .stuck
  | _ => .stuck
section
variable {B : BC} {W : WX} {σ : L2.St} {ρ ρ1 : List CellA} {st st1 : DS} {H H1 H' : Hp} {C : RC} {O : Addr → Prop} {cs cs' : List CellC} {c : CellA} {d : DrawSt}
theorem Step.newCell {H0 : Hp} (s : Step ⟨C, O, H0⟩ [] ρ ⟨[], cs⟩ H ρ1 ⟨[], cs'⟩ H') (hd : DrawAt H' c d) (hdr : cs'.all isDraw = true) (hf : ∀ a, (a = c.main ∨ a ∈ c.more) → H a = none ∧ ¬ CM ρ1 a) :
    Step ⟨C, O, H0⟩ [] ρ ⟨[], cs⟩ H (ρ1 ++ [c]) ⟨[], cs' ++ [.draw d]⟩ H' := by
  have r := s.rel
  have cmS : ∀ a, CM (ρ1 ++ [c]) a → CM ρ1 a ∨ (a = c.main ∨ a ∈ c.more) := fun a ⟨x, hx, z⟩ => by
    rcases List.mem_append.mp hx with hx | hx
    · exact .inl ⟨x, hx, z⟩
    · have : x = c := by simpa using hx
      subst this
      exact .inr z
  have hl := r.cel.len
  refine ⟨s.pre.trans (List.prefix_append _ _), ⟨rfl, fun i d h => by simp at h, fun i d h => by simp at h, fun i j p h => by obtain ⟨d, h, _⟩ := h; simp at h, r.dom, r.odom, ⟨by simpa using hl, fun k x y h1 h2 => ?_, fun i j x y h1 h2 hij a z1 z2 => ?_⟩, fun a z => ?_, r.tabs⟩, s.fr, fun i p h => by obtain ⟨d, h, _⟩ := h; simp at h, fun i d b h => by simp at h, fun a z => ?_, s.dm⟩
  · have h2 : (cs' ++ [CellC.draw d])[k]? = some y := h2
    by_cases hk : k < ρ1.length
    · rw [List.getElem?_append_left hk] at h1
      rw [List.getElem?_append_left (by rw [← hl]; exact hk)] at h2
      exact (cells_draw (A' := Av (ρ1 ++ [c]) O ⟨[], cs' ++ [.draw d]⟩ []) hdr r.cel).ok k x y h1 h2 |> fun q => by
        have hx : isDraw y = true := List.all_eq_true.mp hdr y (List.mem_of_getElem? h2)
        cases y with
        | draw d => exact q
        | dead => trivial
        | obj d => cases hx
    · have hk' : k = ρ1.length := by
        have := (List.getElem?_eq_some_iff.mp h1).1
        simp at this
        omega
      subst hk'
      rw [List.getElem?_append_right (Nat.le_refl _)] at h1
      have hl' : ρ1.length = cs'.length := hl
      rw [hl', List.getElem?_append_right (Nat.le_refl _)] at h2
      simp at h1 h2
      subst h1 h2
      exact hd
  · by_cases hi : i < ρ1.length <;> by_cases hj : j < ρ1.length
    · rw [List.getElem?_append_left hi] at h1
      rw [List.getElem?_append_left hj] at h2
      exact r.cel.dis i j x y h1 h2 hij a z1 z2
    · rw [List.getElem?_append_left hi] at h1
      rw [List.getElem?_append_right (by omega)] at h2
      have hj' : j - ρ1.length = 0 := by
        have := (List.getElem?_eq_some_iff.mp h2).1
        simp at this; omega
      rw [hj'] at h2
      simp at h2
      subst h2
      exact (hf a z2).2 ⟨x, List.mem_of_getElem? h1, z1⟩
    · rw [List.getElem?_append_left hj] at h2
      rw [List.getElem?_append_right (by omega)] at h1
      have hi' : i - ρ1.length = 0 := by
        have := (List.getElem?_eq_some_iff.mp h1).1
        simp at this; omega
      rw [hi'] at h1
      simp at h1
      subst h1
      exact (hf a z1).2 ⟨y, List.mem_of_getElem? h2, z2⟩
    · have e1 := (List.getElem?_eq_some_iff.mp h1).1
      have e2 := (List.getElem?_eq_some_iff.mp h2).1
      simp at e1 e2
      omega
  · rcases cmS a z with z | z
    · exact r.cdom a z
    · obtain ⟨g, l, e1, _, _, _, e3, e4, e5⟩ := hd
      rcases z with rfl | z
      · rw [e3]; exact fun z => nomatch z
      · rw [e1] at z
        rcases List.mem_cons.mp z with rfl | z
        · rw [e4]; exact fun z => nomatch z
        · rcases List.mem_cons.mp z with rfl | z
          · rw [e5]; exact fun z => nomatch z
          · cases z
  · rcases cmS a z with z | z
    · exact s.cm a z
    · exact .inr (hf a z).1
theorem ints_rep {A : Addr → Prop} : ∀ {vs : List V} {ns : List Int}, RepL C ρ A H vs (ns.map DV.int) → vs = ns.map V.int
  | _, [], .nil => rfl
  | _, n :: ns, .cons r t => by
    cases r
    rw [ints_rep t]; rfl
end
section
variable {P : Program} {w : World} {mg : Str → Option Value} {base : Heap} {C : RC}
/-- the two comprehensions of _law_begun; slots: the script, great, lump -/
def evAbs (i : Nat) : Ev := evCall (f1 absD) (akCons (evVar i) akNil)
def evGreat : Ev := evLc [2] (ivE (evVar 0)) (gvName 2) (tvB (evOp (dCmp .GtE) (evAbs 2) (evOp (dBin .Pow) (evC (.int 10)) (evC (.int 18))))) (evOp (dBin .FloorDiv) (evAbs 2) (evOp (dBin .Pow) (evC (.int 10)) (evC (.int 18))))
def evLumps : Ev := evLc [2] (ivE (evVar 0)) (gvName 2) tvYes (evOp (dBin .Mod) (evAbs 2) (evOp (dBin .Pow) (evC (.int 10)) (evC (.int 18))))
theorem great_go {ns0 : List Int} {g : Slot} {cs : List CellC} : ∀ (ns : List Int) (acc : List DV),
    lcGo [2] (gvName 2) (tvB (evOp (dCmp .GtE) (evAbs 2) (evOp (dBin .Pow) (evC (.int 10)) (evC (.int 18))))) (evOp (dBin .FloorDiv) (evAbs 2) (evOp (dBin .Pow) (evC (.int 10)) (evC (.int 18)))) (ns.map .int) acc ⟨[some (.scr ns0, false), g, none], cs⟩ =
      some (acc ++ (greatL ns).map .int, ⟨[some (.scr ns0, false), g, none], cs⟩)
  | [], acc => by simp [lcGo, greatL]
  | n :: ns, acc => by
    have hp : powOk 10 18 = true := by decide
    by_cases h : (1000000000000000000 : Int) ≤ absI n
    · have ih := great_go (ns0 := ns0) (g := g) (cs := cs) ns (acc ++ [.int (absI n / 10 ^ 18)])
      have e : greatL (n :: ns) = absI n / 10 ^ 18 :: greatL ns := by simp [greatL, h]
      have e2 : acc ++ (absI n / 10 ^ 18 :: greatL ns).map DV.int = acc ++ [.int (absI n / 10 ^ 18)] ++ (greatL ns).map DV.int := by simp
      rw [e, e2, ← ih]
      simp [lcGo, gvName, DS.wipe, wipeSl, tvB, evOp, evAbs, evCall, akCons, akNil, evVar, f1, absD, dCmp, dGe, evC, Out.bind, dBin, dPow, dDiv, hp, DS.back, backSl, DS.eat, h]
    · have ih := great_go (ns0 := ns0) (g := g) (cs := cs) ns acc
      have e : greatL (n :: ns) = greatL ns := by simp [greatL, h]
      rw [e, ← ih]
      simp [lcGo, gvName, DS.wipe, wipeSl, tvB, evOp, evAbs, evCall, akCons, akNil, evVar, f1, absD, dCmp, dGe, evC, Out.bind, dBin, dPow, dDiv, hp, DS.back, backSl, DS.eat, h]
theorem lump_go {ns0 : List Int} {g : Slot} {cs : List CellC} : ∀ (ns : List Int) (acc : List DV),
    lcGo [2] (gvName 2) tvYes (evOp (dBin .Mod) (evAbs 2) (evOp (dBin .Pow) (evC (.int 10)) (evC (.int 18)))) (ns.map .int) acc ⟨[some (.scr ns0, false), g, none], cs⟩ =
      some (acc ++ (lumpL ns).map .int, ⟨[some (.scr ns0, false), g, none], cs⟩)
  | [], acc => by simp [lcGo, lumpL]
  | n :: ns, acc => by
    have hp : powOk 10 18 = true := by decide
    have ih := lump_go (ns0 := ns0) (g := g) (cs := cs) ns (acc ++ [.int (absI n % 10 ^ 18)])
    have e : lumpL (n :: ns) = absI n % 10 ^ 18 :: lumpL ns := by simp [lumpL]
    have e2 : acc ++ (absI n % 10 ^ 18 :: lumpL ns).map DV.int = acc ++ [.int (absI n % 10 ^ 18)] ++ (lumpL ns).map DV.int := by simp
    rw [e, e2, ← ih]
    simp [lcGo, gvName, DS.wipe, wipeSl, tvYes, evOp, evAbs, evCall, akCons, akNil, evVar, f1, absD, evC, Out.bind, dBin, dPow, dMod, hp, DS.back, backSl, DS.eat]
theorem great_run {ns : List Int} {cs : List CellC} (hl : ns.length ≤ sizeLine) (hd : cs.all isDraw = true) : svSet 1 evGreat ⟨[some (.scr ns, false), none, none], cs⟩ = .ok .nx ⟨[some (.scr ns, false), some (.lst ((greatL ns).map .int), true), none], cs⟩ := by
  have h := great_go (ns0 := ns) (g := none) (cs := cs) ns []
  have e : evGreat ⟨[some (.scr ns, false), none, none], cs⟩ = .ok (.lst ((greatL ns).map .int), .new) ⟨[some (.scr ns, false), none, none], cs⟩ := by
    unfold evGreat evLc
    simp [ivE, evVar, Out.bind, itemsD, DS.eat, hl, DS.dropAll, DS.drop, dropSl]
    rw [h]
    simp
  unfold svSet
  rw [e]
  simp [Out.bind, DS.put, isCont, hd]
theorem lump_run {ns : List Int} {g : DV} {cs : List CellC} (hl : ns.length ≤ sizeLine) : evLumps ⟨[some (.scr ns, false), some (g, true), none], cs⟩ = .ok (.lst ((lumpL ns).map .int), .new) ⟨[some (.scr ns, false), some (g, true), none], cs⟩ := by
  have h := lump_go (ns0 := ns) (g := some (g, true)) (cs := cs) ns []
  unfold evLumps evLc
  simp [ivE, evVar, Out.bind, itemsD, DS.eat, hl, DS.dropAll, DS.drop, dropSl]
  rw [h]
  simp
/-- what is to be seen of _law_begun's text -/
structure BegunTxt (X : Cx) (C : RC) (W : WX) (body : List Stmt) : Prop where
  ex : ∃ (s0 : Stmt) (k1 k2 k3 k4 v1 v2 v3 v4 : Expr) (p p' : Pos), body = [s0, .Return (some (.Dict [some k1, some k2, some k3, some k4] [v1, v2, v3, v4] p)) p'] ∧
    (∀ O H0, PSD X ⟨C, O, H0⟩ W s0 (svSet 1 evGreat)) ∧ PE X k1 (tC (.str "digits")) ∧ PE X k2 (tC (.str "great")) ∧ PE X k3 (tC (.str "lumps")) ∧ PE X k4 (tC (.str "turn")) ∧
    PE X v1 (tC (.int 0)) ∧ PE X v2 (tVar 1) ∧ (∀ O H0, PD X ⟨C, O, H0⟩ W v3 evLumps) ∧ PE X v4 (tC (.int 0))
theorem Fun.okBegun {x qual : Str} {st : Stmt} {f : Addr} {fd : FuncData} {k : Nat} {n0 n1 n2 : Str} (F : Fun C.K x qual st f fd) (S : FnScope [n0, n1, n2] [n0] (defScope st))
    (hb : ∀ (cdv : Value) (A : Around) (outer : List Env) (s : Shared) (H : Hp) (E : XK), Room k (A.deeper (envOfC qual (defScope st) s.heap.objs.size f cdv)) → (cxOf (L2.CX P w) P w C.K mg base [n0, n1, n2] qual (defScope st) f cdv A outer s H E).A.guards = some [] →
      BegunTxt (cxOf (L2.CX P w) P w C.K mg base [n0, n1, n2] qual (defScope st) f cdv A outer s H E) C (fun cls d _ H' => E cls d H') (defBody st)) :
    FnG P w C.K mg base (k + 1) f fd [n0] (SpF C F_begun) := by
  obtain ⟨oc, od, kV, doc, pm, an, cdv, ct, osl, rfl, lk, hcd⟩ := F.ex
  refine fnG_of lk hcd S (fun vs H Q E h => ?_) fun A outer s H vs Q E hr hg h => ?_
  · obtain ⟨ρ, cs, ds, O, r, rl, res⟩ := h
    rw [rl.length]
    unfold F_begun at res
    split at res
    · rfl
    · exact res.elim
  obtain ⟨ρ, cs, ds, O, r, rl, res⟩ := h
  unfold F_begun at res
  split at res
  case h_2 => exact res.elim
  rename_i ns
  split at res
  case isFalse => exact res.elim
  rename_i hcond
  obtain ⟨hdr, hlen⟩ := hcond
  obtain ⟨s0, k1, k2, k3, k4, v1, v2, v3, v4, p, p', hbody, h0, hk1, hk2, hk3, hk4, hv1, hv2, hv3, hv4⟩ := (hb cdv A outer s H E hr (by first | exact (deeper_guards _ _).trans hg | exact hg)).ex
  rw [hbody]
  refine ⟨_, pss_cons (h0 O H) (pss_one (ps_ret (pe_disp (pps_cons hk1 hv1 (pps_cons hk2 hv2 (pps_cons hk3 (pdx (C := C) (W := fun cls d _ H' => E cls d H') (f := evLumps) fun B hB => by
    cases B with
    | mk C' O' H' =>
      have hB : C' = C := hB
      subst hB
      exact hv3 O' H') (pps_cons hk4 hv4 pps_nil)))) rfl rfl (by simp) (by simp)))), ?_⟩
  have r0 := Rel.start (N := [n0, n1, n2]) r rl
  have noOwn : ∀ i a, ¬ ownAt ⟨startSl 3 [.scr ns], cs⟩ (L2.start [n0, n1, n2] vs) i a := fun i a ⟨d, h, _⟩ => startSl_own h
  have est : startSl 3 [DV.scr ns] = [some (.scr ns, false), none, none] := rfl
  refine ⟨ρ, ⟨startSl 3 [.scr ns], cs⟩, r0, ?_⟩
  rw [est, great_run hlen hdr]
  intro σ1 ρ1 H1 s1
  intro q hq
  -- the dict stands empty
  have r1 := s1.rel
  have npO : ¬ O q := fun z => r1.odom q z hq
  have npC : ¬ CM ρ1 q := fun z => r1.cdom q z hq
  have rh := Rel.holdA (o := .dK []) r1 hq
  have sa := Step.alloc (o := .dK []) r1 hq
  obtain ⟨g, eg, cg, ng1, ng2, ng3⟩ := rh.own 1 _ rfl
  refine ⟨_, eg, ?_⟩
  refine ⟨⟨C, fun a => O a ∨ a = q, H⟩, rfl, ρ1, _, rh, ?_⟩
  have hl := lump_run (ns := ns) (g := .lst ((greatL ns).map .int)) (cs := cs) hlen
  rw [hl]
  intro ρ2 H2 s2 v rv fv
  obtain ⟨l, rfl⟩ := Rep.ref_of_cont (by rfl) rv.1
  have hnl : upd H1 q (.dK []) l = none := fv l rfl
  have hlq : l ≠ q := fun e => by subst e; rw [upd_same] at hnl; cases hnl
  have cl := rv.2 l rfl rfl
  -- the pair "turn", then the dict
  have nq2 : ¬ CM ρ2 q := fun z => (s2.cm q z).elim npC fun e => by rw [upd_same] at e; cases e
  have eq2 : H2 q = some (.dK []) := s2.fr q _ upd_same npC trivial
  refine ⟨eq2, [(kDigits, .int 0), (kGreat, .ref g), (kLumps, .ref l), (kTurn, .int 0)], rfl, by show 4 ≤ 15; decide, ?_⟩
  have em : mergeK [] [(kDigits, V.int 0), (kGreat, V.ref g), (kLumps, V.ref l), (kTurn, V.int 0)] = [(kDigits, .int 0), (kGreat, .ref g), (kLumps, .ref l), (kTurn, .int 0)] := rfl
  rw [em]
  have hB : (⟨C, fun a => O a ∨ a = q, H⟩ : BC) = (⟨C, O, H⟩ : BC).hold q := rfl
  have s2' : Step ((⟨C, O, H⟩ : BC).hold q) σ1 ρ1 _ (upd H1 q (.dK [])) ρ2 _ H2 := s2
  have rw7 := Rel.writeHeld (o := .dK [(kDigits, .int 0), (kGreat, .ref g), (kLumps, .ref l), (kTurn, .int 0)]) s2'.rel nq2 (fun u e => by rw [eq2] at e; cases e; trivial)
  generalize hH3 : upd H2 q (.dK [(kDigits, .int 0), (kGreat, .ref g), (kLumps, .ref l), (kTurn, .int 0)]) = H3 at rw7 ⊢
  -- what is where
  have hgq : g ≠ q := fun e => ng2 (.inr e)
  obtain ⟨xs, eg2, rg2⟩ := (cg : ∃ xs, upd H1 q (.dK []) g = some (.lst xs) ∧ _)
  have hxs := ints_rep rg2
  subst hxs
  have eg3 : H2 g = some (.lst ((greatL ns).map V.int)) := s2.fr g _ eg2 ng1 trivial
  obtain ⟨ys, el2, rl2⟩ := (cl : ∃ xs, H2 l = some (.lst xs) ∧ _)
  have hys := ints_rep rl2
  subst hys
  have hgl : g ≠ l := fun e => by subst e; rw [hnl] at eg2; cases eg2
  have ng3' : ¬ CM ρ2 g := fun z => (s2.cm g z).elim ng1 fun e => by rw [eg2] at e; cases e
  have nl2 : ¬ CM ρ2 l := nomatchCM (B := ⟨C, fun a => O a ∨ a = q, H⟩) rv.1 rfl
  have draw : DrawAt H3 ⟨q, [g, l]⟩ (begunD ns) := by
    refine ⟨g, l, rfl, Ne.symm hgq, Ne.symm hlq, hgl, ?_, ?_, ?_⟩
    · rw [← hH3, upd_same]; rfl
    · rw [← hH3, upd_ne hgq]; exact eg3
    · rw [← hH3, upd_ne hlq]; exact el2
  -- fresh at the entry
  have fq : H q = none := none_of_dm s1.dm hq
  have fl : H l = none := none_of_dm s1.dm (none_of_dm sa.dm hnl)
  have sF : SStep ⟨C, O, H⟩ (L2.start [n0, n1, n2] vs) ρ ⟨startSl 3 [.scr ns], cs⟩ H σ1 ρ2 ⟨[some (.scr ns, false), some (.lst ((greatL ns).map .int), true), none], cs⟩ H3 := by
    have sx : SStep ⟨C, O, H⟩ σ1 ρ1 ⟨[some (.scr ns, false), some (.lst ((greatL ns).map .int), true), none], cs⟩ H1 σ1 ρ2 ⟨[some (.scr ns, false), some (.lst ((greatL ns).map .int), true), none], cs⟩ H2 := SStep.of (Step.unhold sa s2')
    have sy := s1.trans sx
    refine ⟨sy.pre, rw7.unhold, fun a o e n no => ?_, sy.av, sy.cm, fun a z => ?_⟩
    · rw [← hH3, upd_ne (fun z => by subst z; rw [fq] at e; cases e)]
      exact sy.fr a o e n no
    · by_cases h : a = q
      · subst h; exact absurd fq z
      · rw [← hH3, upd_ne h]; exact sy.dm a z
  have sd := Step.done noOwn sF
  have sN := Step.newCell (c := ⟨q, [g, l]⟩) sd draw hdr fun a z => by
    rcases z with rfl | z
    · exact ⟨fq, nq2⟩
    · rcases List.mem_cons.mp z with rfl | z
      · exact ⟨ng3, ng3'⟩
      · rcases List.mem_cons.mp z with rfl | z
        · exact ⟨fl, nl2⟩
        · cases z
  have hlen2 : ρ2.length = cs.length := sd.rel.cel.len
  refine (res _ H3 sN).2 (.ref q) (.cel (c := ⟨q, [g, l]⟩) ?_) (fun e => nomatch e) trivial
  show (ρ2 ++ [_])[cs.length]? = _
  rw [← hlen2, List.getElem?_append_right (Nat.le_refl _)]
  simp
end
end D

/-! D: a draw's next number. -/
namespace D
open PySem L2 PyProof.Rows

/-- _law_next; slots: draw, many, found, turn, lump, mixed -/
def svNextW : Sv := svWhile (tvAnd (tvB (evOp (dCmp .Eq) (evCI 0 .digits) (evC (.int 0)))) (tvNE 0 .great)) (svPop0 0) 100
def svNextI : Sv := svIf (tvB (evOp (dCmp .Gt) (evCI 0 .digits) (evC (.int 0)))) (svSeq (svSet 2 (evOp (dBin .Mod) (evCI 0 .digits) (evVar 1))) (svSeq (svCSet 0 .digits (evOp (dBin .FloorDiv) (evCI 0 .digits) (evVar 1))) (svRet (evVar 2)))) svNx
def svTail : Sv := svSeq (svSet 5 (evOp (dBin .Mod) (evOp (dBin .Pow) (evOp (dBin .Add) (evOp (dBin .Mod) (evVar 4) (evC (.int 2147483629))) (evOp (dBin .Mult) (evC (.int 40009)) (evVar 3))) (evC (.int 3))) (evC (.int 2147483647))))
    (svRet (evOp (dBin .Mod) (evOp (dBin .FloorDiv) (evOp (dBin .Mod) (evOp (dBin .Pow) (evOp (dBin .Add) (evVar 5) (evOp (dBin .Mult) (evC (.int 104729)) (evVar 3))) (evC (.int 5))) (evC (.int 2147483629))) (evC (.int 11))) (evVar 1)))
def svNextT : Sv := svSeq (svCAug 0 .turn (evC (.int 1))) (svSeq (svSet 3 (evCI 0 .turn)) (svSeq (svSet 4 (evC (.int 0))) (svSeq (svIf (tvNE 0 .lumps) (svSet 4 (evCIx 0 .lumps (evOp (dBin .Mod) (evVar 3) (evCLen 0 .lumps)))) svNx)
  svTail)))
def svNext : Sv := svSeq svNextW (svSeq svNextI svNextT)
def F_next : Fn := fnSv 6 2 svNext

structure DrawOk (d : DrawSt) (n : Nat) : Prop where
  dg : 0 ≤ d.digits
  gr : ∀ z ∈ d.great, 0 ≤ z
  gl : d.great.length < 100
  lu : ∀ z ∈ d.lumps, 0 ≤ z ∧ z < 10 ^ 18
  tn : 0 ≤ d.turn
  tb : d.turn + n ≤ 2 ^ 40
theorem DrawOk.mono {d : DrawSt} {n m : Nat} (h : DrawOk d n) (hm : m ≤ n) : DrawOk d m := ⟨h.dg, h.gr, h.gl, h.lu, h.tn, by have := h.tb; omega⟩
theorem begun_ok {ns : List Int} (h : ns.length ≤ 63) : DrawOk (begunD ns) (2 ^ 40) := by
  refine ⟨Int.le_refl _, fun z hz => ?_, ?_, fun z hz => ?_, Int.le_refl _, by simp [begunD]⟩
  · simp only [begunD, greatL, List.mem_map, List.mem_filter] at hz
    obtain ⟨y, ⟨_, hy⟩, rfl⟩ := hz
    have := of_decide_eq_true hy
    exact Int.ediv_nonneg (Int.le_trans (by decide) this) (by decide)
  · simp only [begunD, greatL, List.length_map]
    exact Nat.lt_of_le_of_lt (List.length_filter_le _ _) (by omega)
  · simp only [begunD, lumpL, List.mem_map] at hz
    obtain ⟨y, _, rfl⟩ := hz
    exact ⟨Int.emod_nonneg _ (by decide), Int.emod_lt_of_pos _ (by decide)⟩
section
variable {d : DrawSt} {k n : Nat} {cs : List CellC} {many : Int}
theorem drawAt_mk {s1 s2 s3 s4 s5 : Slot} (hk : cs[k]? = some (.draw d)) : drawAt ⟨[some (.cel k, false), s1, s2, s3, s4, s5], cs⟩ 0 = some (k, d) := by
  simp [drawAt, hk]
theorem set_set (cs : List CellC) (k : Nat) (a b : CellC) : (cs.set k a).set k b = cs.set k b := by simp
theorem set_same {cs : List CellC} {k : Nat} {a : CellC} (h : cs[k]? = some a) : cs.set k a = cs := by
  refine List.ext_getElem? fun i => ?_
  by_cases hi : k = i
  · subst hi
    rw [List.getElem?_set_self (List.getElem?_eq_some_iff.mp h).1, h]
  · rw [List.getElem?_set_ne hi]
theorem get_set {cs : List CellC} {k : Nat} {a b : CellC} (h : cs[k]? = some a) : (cs.set k b)[k]? = some b := List.getElem?_set_self (List.getElem?_eq_some_iff.mp h).1
/-- the while -/
theorem nextW_run : ∀ (fuel : Nat) (d : DrawSt) (cs : List CellC) (sl : List Slot), cs[k]? = some (.draw d) → sl[0]? = some (some (.cel k, false)) → d.great.length < fuel → 0 ≤ d.digits → (∀ z ∈ d.great, 0 ≤ z) →
    ∃ d', svWhile (tvAnd (tvB (evOp (dCmp .Eq) (evCI 0 .digits) (evC (.int 0)))) (tvNE 0 .great)) (svPop0 0) fuel ⟨sl, cs⟩ = .ok .nx ⟨sl, cs.set k (.draw d')⟩ ∧ 0 ≤ d'.digits ∧ (∀ z ∈ d'.great, 0 ≤ z) ∧ d'.great.length ≤ d.great.length ∧ d'.lumps = d.lumps ∧ d'.turn = d.turn
  | 0, d, cs, sl, _, _, h, _, _ => absurd h (Nat.not_lt_zero _)
  | fuel + 1, d, cs, sl, hk, hs, h, h0, hg => by
    have hda : drawAt ⟨sl, cs⟩ 0 = some (k, d) := by simp [drawAt, hs, hk]
    by_cases hz : d.digits = 0
    · cases hgr : d.great with
      | nil =>
        refine ⟨d, ?_, h0, hg, by rw [hgr]; exact Nat.le_refl _, rfl, rfl⟩
        simp [svWhile, tvAnd, tvB, evOp, evCI, hda, dCmp, dEq, eqD, evC, Out.bind, tvNE, CK.get, CL.get, hz, hgr, set_same hk]
      | cons g r =>
        have hk' : (cs.set k (.draw { d with great := r, digits := g }))[k]? = some (.draw { d with great := r, digits := g }) := get_set hk
        obtain ⟨d', e, h1, h2, h3, h4, h5⟩ := nextW_run fuel { d with great := r, digits := g } _ sl hk' hs (by rw [hgr] at h; simpa using h) (hg g (by rw [hgr]; simp)) (fun z hz => hg z (by rw [hgr]; simp [hz]))
        refine ⟨d', ?_, h1, h2, by rw [List.length_cons]; exact Nat.le_succ_of_le h3, h4, h5⟩
        simp [svWhile, tvAnd, tvB, evOp, evCI, hda, dCmp, dEq, eqD, evC, Out.bind, tvNE, CK.get, CL.get, hz, hgr, svPop0]
        exact e.trans (by rw [set_set])
    · refine ⟨d, ?_, h0, hg, Nat.le_refl _, rfl, rfl⟩
      simp [svWhile, tvAnd, tvB, evOp, evCI, hda, dCmp, dEq, eqD, evC, Out.bind, CK.get, hz, set_same hk]
theorem pow_ok {i j : Int} (h0 : 0 ≤ i) (h : i < 2 ^ 64) (j0 : 0 ≤ j) (j1 : j ≤ 1000000) : powOk i j = true := by
  unfold powOk
  rw [Bool.and_eq_true, Bool.and_eq_true]
  exact ⟨⟨decide_eq_true j0, decide_eq_true j1⟩, decide_eq_true (by omega)⟩
theorem atI_pos {xs : List Int} {j : Int} (h0 : 0 ≤ j) (h1 : j < xs.length) : ∃ n, atI xs j = some n ∧ n ∈ xs := by
  have hj : j.toNat < xs.length := by omega
  refine ⟨xs[j.toNat], ?_, List.getElem_mem hj⟩
  have := atI_nat (xs := xs) (j := j.toNat) (List.getElem?_eq_getElem hj)
  rw [Int.toNat_of_nonneg h0] at this
  exact this
/-- the last part: a mixed turn -/
theorem tail_run {s0 s2 : Slot} {tu lump : Int} (hl : 0 ≤ lump) (h0 : 0 ≤ tu) (h1 : tu ≤ 2 ^ 40) (hm : 0 < many) : ∃ r s5, svTail ⟨[s0, some (.int many, false), s2, some (.int tu, false), some (.int lump, false), none], cs⟩ =
    .ok (.rt (.int r) .new) ⟨[s0, some (.int many, false), s2, some (.int tu, false), some (.int lump, false), s5], cs⟩ ∧ 0 ≤ r ∧ r < many := by
  have e1 : 0 ≤ lump % 2147483629 := Int.emod_nonneg _ (by decide)
  have e2 : lump % 2147483629 < 2147483629 := Int.emod_lt_of_pos _ (by decide)
  have p1 : powOk (lump % 2147483629 + 40009 * tu) 3 = true := pow_ok (by omega) (by omega) (by decide) (by decide)
  generalize hmx : (lump % 2147483629 + 40009 * tu) ^ 3 % 2147483647 = mx
  have e3 : 0 ≤ mx := by rw [← hmx]; exact Int.emod_nonneg _ (by decide)
  have e4 : mx < 2147483647 := by rw [← hmx]; exact Int.emod_lt_of_pos _ (by decide)
  have p2 : powOk (mx + 104729 * tu) 5 = true := pow_ok (by omega) (by omega) (by decide) (by decide)
  refine ⟨(mx + 104729 * tu) ^ 5 % 2147483629 / 11 % many, some (.int mx, false), ?_, Int.emod_nonneg _ (by omega), Int.emod_lt_of_pos _ hm⟩
  have f1 : fits64 40009 = true := by decide
  have f2 : fits64 104729 = true := by decide
  have t3 : (3 : Int).toNat = 3 := rfl
  have t5 : (5 : Int).toNat = 5 := rfl
  simp [svTail, svSeq, svSet, svRet, evOp, evVar, evC, Out.bind, dBin, dMod, dPow, dAdd, dMul, dDiv, p1, p2, f1, f2, hm, hmx, DS.put, isCont, t3, t5]
theorem nextT_run (ok : DrawOk d (n + 1)) (hk : cs[k]? = some (.draw d)) (hm : 0 < many) : ∃ r s3 s4 s5, svNextT ⟨[some (.cel k, false), some (.int many, false), none, none, none, none], cs⟩ =
    .ok (.rt (.int r) .new) ⟨[some (.cel k, false), some (.int many, false), none, s3, s4, s5], cs.set k (.draw { d with turn := d.turn + 1 })⟩ ∧ 0 ≤ r ∧ r < many := by
  have tn := ok.tn
  have tb := ok.tb
  have lu := ok.lu
  obtain ⟨dg, gr, ls, tu⟩ := d
  dsimp only at tn tb lu
  have hk2 : (cs.set k (.draw ⟨dg, gr, ls, tu + 1⟩))[k]? = some (.draw ⟨dg, gr, ls, tu + 1⟩) := get_set hk
  have hda : drawAt ⟨[some (.cel k, false), some (.int many, false), none, none, none, none], cs⟩ 0 = some (k, ⟨dg, gr, ls, tu⟩) := drawAt_mk hk
  have hda2 : ∀ s3 s4, drawAt ⟨[some (.cel k, false), some (.int many, false), none, s3, s4, none], cs.set k (.draw ⟨dg, gr, ls, tu + 1⟩)⟩ 0 = some (k, ⟨dg, gr, ls, tu + 1⟩) := fun s3 s4 => drawAt_mk hk2
  cases ls with
  | nil =>
    obtain ⟨r, s5, e, r0, r1⟩ := tail_run (cs := cs.set k (.draw ⟨dg, gr, [], tu + 1⟩)) (s0 := some (.cel k, false)) (s2 := none) (tu := tu + 1) (lump := 0) (by decide) (by omega) (by omega) hm
    refine ⟨r, some (.int (tu + 1), false), some (.int 0, false), s5, ?_, r0, r1⟩
    rw [← e]
    simp [svNextT, svSeq, svCAug, hda, evC, Out.bind, svSet, evCI, hda2, DS.put, isCont, CK.get, CK.put, svIf, tvNE, CL.get, svNx]
  | cons x xs =>
    have hl0 : (0 : Int) < ((x :: xs).length : Nat) := by rw [List.length_cons]; omega
    have a0 : 0 ≤ (tu + 1) % ((x :: xs).length : Nat) := Int.emod_nonneg _ (by omega)
    have a1 : (tu + 1) % ((x :: xs).length : Nat) < ((x :: xs).length : Nat) := Int.emod_lt_of_pos _ hl0
    obtain ⟨z, hz, hzm⟩ := atI_pos a0 a1
    obtain ⟨r, s5, e, r0, r1⟩ := tail_run (cs := cs.set k (.draw ⟨dg, gr, x :: xs, tu + 1⟩)) (s0 := some (.cel k, false)) (s2 := none) (tu := tu + 1) (lump := z) (lu z hzm).1 (by omega) (by omega) hm
    refine ⟨r, some (.int (tu + 1), false), some (.int z, false), s5, ?_, r0, r1⟩
    rw [← e]
    generalize hxs : x :: xs = ls at *
    have hne : ls.isEmpty = false := by rw [← hxs]; rfl
    have hln : 0 < ls.length := by omega
    simp [svNextT, svSeq, svCAug, hda, evC, Out.bind, svSet, evCI, hda2, DS.put, isCont, CK.get, CK.put, svIf, tvNE, CL.get, svNx, hne, evCIx, evOp, evVar, evCLen, dBin, dMod, hln, hz]
/-- _law_next draws from 0 to many - 1 -/
theorem next_run (ok : DrawOk d (n + 1)) (hk : cs[k]? = some (.draw d)) (hm : 0 < many) (hm2 : many < 2 ^ 64) : ∃ r d' kd, F_next [.cel k, .int many] ⟨[], cs⟩ = .ok (.int r, kd) ⟨[], cs.set k (.draw d')⟩ ∧ 0 ≤ r ∧ r < many ∧ DrawOk d' n := by
  obtain ⟨d1, e1, g1, g2, g3, g4, g5⟩ := nextW_run (k := k) 100 d cs [some (.cel k, false), some (.int many, false), none, none, none, none] hk rfl ok.gl ok.dg ok.gr
  have hk1 : (cs.set k (.draw d1))[k]? = some (.draw d1) := get_set hk
  have ok1 : DrawOk d1 (n + 1) := ⟨g1, g2, Nat.lt_of_le_of_lt g3 ok.gl, by rw [g4]; exact ok.lu, by rw [g5]; exact ok.tn, by rw [g5]; exact ok.tb⟩
  have hda : drawAt ⟨[some (.cel k, false), some (.int many, false), none, none, none, none], cs.set k (.draw d1)⟩ 0 = some (k, d1) := drawAt_mk hk1
  have e1' : svNextW ⟨[some (.cel k, false), some (.int many, false), none, none, none, none], cs⟩ = .ok .nx ⟨[some (.cel k, false), some (.int many, false), none, none, none, none], cs.set k (.draw d1)⟩ := e1
  by_cases hp : 0 < d1.digits
  · refine ⟨d1.digits % many, { d1 with digits := d1.digits / many }, .fro, ?_, Int.emod_nonneg _ (by omega), Int.emod_lt_of_pos _ hm, ⟨Int.ediv_nonneg g1 (by omega), g2, ok1.gl, ok1.lu, ok1.tn, by have := ok1.tb; dsimp only; omega⟩⟩
    have hda2 : ∀ s2, drawAt ⟨[some (.cel k, false), some (.int many, false), s2, none, none, none], cs.set k (.draw d1)⟩ 0 = some (k, d1) := fun s2 => drawAt_mk hk1
    have hm2' : many < 18446744073709551616 := hm2
    simp [F_next, fnSv, startSl, svNext, svSeq, Out.bind, e1', svNextI, svIf, tvB, evOp, evCI, hda, hda2, dCmp, dGt, evC, hp, svSet, dBin, dMod, dDiv, evVar, hm, hm2', svCSet, DS.put, isCont, svRet, outRet, CK.get, CK.put]
  · obtain ⟨r, s3, s4, s5, e2, r0, r1⟩ := nextT_run ok1 hk1 hm
    refine ⟨r, { d1 with turn := d1.turn + 1 }, .new, ?_, r0, r1, ⟨g1, g2, ok1.gl, ok1.lu, by have := ok1.tn; dsimp only; omega, by have := ok1.tb; dsimp only; omega⟩⟩
    simp [F_next, fnSv, startSl, svNext, svSeq, Out.bind, e1', svNextI, svIf, tvB, evOp, evCI, hda, dCmp, dGt, evC, hp, svNx, e2, outRet, CK.get]
end
end D

/-! D: loops and calls, told as plain laws. -/
namespace D
open PySem L2 PyProof.Rows

section
variable {vs : List Nat} {g : Gv} {tt : Tv} {fe : Ev}
end
end D

/-! E: a caught exception becomes a value: try: .. except X as e: y = e. -/
namespace D
open PySem L2 PyProof.Rows
section
variable {X : Cx} {pins : List (Addr × Obj)} {σ : L2.St} {H : Hp} {s : Shared} {a : Addr} {oe : Obj}
theorem xo_ok {P : Program} {w : World} {H : Hp} {h : Heap} {cls : Value} {d : Option Addr} {vs : Array Value} (e : h.get? a = some oe) (z : Zc cls d oe) (hd : oe.data = .fields vs) : ObjOk P w H h a (XO cls d a) :=
  ⟨⟨oe, vs, e, z, hd⟩, ⟨oe, e⟩, fun h1 h2 ⟨o, us, q, r⟩ k => ⟨o, us, k o q, r⟩⟩
end
section
variable {X : Cx} {x n y : Str} {c : Value} {i j : Nat} {body : List Stmt} {np pos pos' p1 p2 p3 : Pos} {tb : WX → TS} {Wout : WX}
end
end D

/-! E: try: .. except X as e: y = e on deep values. -/
namespace D
open PySem L2 PyProof.Rows
section
variable {X : Cx} {B : BC} {W : WX} {σ : L2.St} {ρ : List CellA} {st : DS} {H : Hp}
theorem clear_own {i j : Nat} {p : Addr} (h : ownAt ⟨st.sl.set i none, st.cs⟩ (σ.set i none) j p) : ownAt st σ j p ∧ j ≠ i := by
  obtain ⟨e, h1, h2⟩ := h
  by_cases hj : j = i
  · subst hj
    dsimp only at h1
    by_cases hl : j < st.sl.length
    · rw [List.getElem?_set_self hl] at h1; cases h1
    · rw [List.getElem?_eq_none (by rw [List.length_set]; omega)] at h1; cases h1
  · dsimp only at h1
    rw [List.getElem?_set_ne (Ne.symm hj)] at h1 h2
    exact ⟨⟨e, h1, h2⟩, hj⟩
/-- a name goes -/
theorem SStep.clear (r : Rel B ρ st σ H) (i : Nat) : SStep B σ ρ st H (σ.set i none) ρ ⟨st.sl.set i none, st.cs⟩ H := by
  have av : ∀ a, Av ρ B.O ⟨st.sl.set i none, st.cs⟩ (σ.set i none) a → Av ρ B.O st σ a := fun a z => by
    rcases z with z | z | ⟨j, z⟩
    · exact .inl z
    · exact .inr (.inl z)
    · exact .inr (.inr ⟨j, (clear_own z).1⟩)
  have mv : ∀ a, Av ρ B.O ⟨st.sl.set i none, st.cs⟩ (σ.set i none) a → Av ρ B.O st σ a ∨ H a = none := fun a z => .inl (av a z)
  have slo : ∀ (j : Nat) (z : DV × Bool), (st.sl.set i none)[j]? = some (some z) → j ≠ i ∧ st.sl[j]? = some (some z) := fun j z h => by
    by_cases hj : j = i
    · subst hj
      by_cases hl : j < st.sl.length
      · rw [List.getElem?_set_self hl] at h; cases h
      · rw [List.getElem?_eq_none (by rw [List.length_set]; omega)] at h; cases h
    · rw [List.getElem?_set_ne (Ne.symm hj)] at h
      exact ⟨hj, h⟩
  refine ⟨List.prefix_refl _, ⟨by simp [r.len], fun j e h => ?_, fun j e h => ?_, fun j k p h1 h2 => r.dis j k p (clear_own h1).1 (clear_own h2).1, r.dom, r.odom, ⟨r.cel.len, fun k c x h1 h2 => ?_, r.cel.dis⟩, r.cdom, r.tabs⟩, fun _ _ e _ _ _ => e, mv, fun _ z => .inl z, fun _ z => z⟩
  · obtain ⟨hj, h'⟩ := slo j _ h
    obtain ⟨w, e1, q⟩ := r.fro j e h'
    exact ⟨w, by rw [List.getElem?_set_ne (Ne.symm hj)]; exact e1, q.mv (List.prefix_refl _) (fun _ _ e _ _ => e) mv⟩
  · obtain ⟨hj, h'⟩ := slo j _ h
    obtain ⟨p, e1, q, n⟩ := r.own j e h'
    exact ⟨p, by rw [List.getElem?_set_ne (Ne.symm hj)]; exact e1, q.mv (List.prefix_refl _) (fun _ _ e _ _ => e) mv rfl, n⟩
  · have q := r.cel.ok k c x h1 h2
    cases x with
    | draw d => exact q
    | obj d => exact ⟨q.1, q.2.mv (List.prefix_refl _) (fun _ _ e _ _ => e) mv rfl⟩
    | dead => trivial
/-- an exception object that is new, as a value -/
theorem XRep.rep {x : DX} {cls : Value} {d : Option Addr} {a : Addr} (rel : Rel B ρ st σ H) (ha : H a = none) (r : XRep B ρ st σ H x cls d) : Rep B.C ρ (Av ρ B.O st σ) (upd H a (XO cls d a)) (.ref a) (.exc x.c x.ns x.vs) := by
  obtain ⟨rfl, r⟩ := r
  rcases r with ⟨e1, e2, rfl⟩ | ⟨dx, vs, rfl, n, e, l, r⟩
  · rw [e1, e2]
    exact .exc0 (rel.av_fresh ha) upd_same
  · exact .exc (rel.av_fresh ha) upd_same n ((upd_ne (ne_of_none e ha)).trans e) l (RepL.step (Step.alloc rel ha) r)
def svTry (f : Sv) (ca : Nat → Option Bool) (i j : Nat) : Sv := fun st => match f st with
  | .ok fl st1 => .ok fl st1
  | .exc x st1 => (match ca x.c with
    | some true => .ok .nx ⟨(st1.sl.set j (some (.exc x.c x.ns x.vs, false))).set i none, st1.cs⟩
    | some false => .exc x st1
    | none => .stuck)
  | .stuck => .stuck
variable {x n y : Str} {c : Value} {i j : Nat} {body : List Stmt} {np pos pos' p1 p2 p3 : Pos} {f : Sv} {ca : Nat → Option Bool}
end
end D

/-! E: fields read; which classes an except clause catches. -/
namespace D
open PySem L2 PyProof.Rows
section
variable {X : Cx} {C : RC} {ct : CT} {B : BC} {W : WX}
/-- e.f, e an instance or an exception that is a value -/
def tFldZ (C : RC) (ct : CT) (ta : TE) (f : Str) : TE := fun σ H Q => ta σ H fun x H1 =>
  (∃ a c dx fs v, x = .ref a ∧ H1 a = some (.ins (C.cls c) dx fs) ∧ (c, f) ∈ ct.fi ∧ fs.lookup f = some v ∧ Q v H1) ∨
  (∃ a c dd fs v, x = .ref a ∧ H1 a = some (XO (.ref (C.cls c)) (some dd) a) ∧ H1 dd = some (.xd fs) ∧ (c, f) ∈ ct.fe ∧ fs.lookup f = some v ∧ Q v H1)
theorem pe_fldZ {e : Expr} {f : Str} {pos : Pos} {ta : TE} (hC : C.K = X.K) (kc : KitC C ct) (he : PE X e ta) (hb : attributeBase e f X.env (eval e X.env) = eval e X.env) : PE X (.Attribute e f pos) (tFldZ C ct ta f) := by
  refine ⟨fun pins s σ H Q I h => attr_of hb (thn (he.run pins s σ H _ I h) fun u s1 hh => ?_)⟩
  obtain ⟨x, H1, I1, rx, q⟩ := hh
  rcases q with ⟨a, c, dx, fs, v, rfl, ea, hm, l, q⟩ | ⟨a, c, dd, fs, v, rfl, ea, ed, hm, l, q⟩
  · obtain rfl : u = Value.ref a := rx
    obtain ⟨h1, h2⟩ := kc.nf _ hm
    have k1 := kc.cls _ h1
    rw [hC] at k1 h2
    exact getattr_ok I1 ea k1 h2 l fun u' s2 I2 ru => ⟨v, H1, I2, ru, q⟩
  · obtain rfl : u = Value.ref a := rx
    obtain ⟨h1, h2⟩ := kc.nx _ hm
    have k1 := kc.xa _ h1
    have k2 := kc.xg _ h1
    have k3 := kc.xb _ h1
    have k4 := kc.xd _ h1
    rw [hC] at k1 k2 k3 k4 h2
    obtain ⟨⟨oe, vs, g1, hz, g2⟩, _, _⟩ := I1.hok a _ ea
    obtain ⟨mA, hns, hr⟩ := (show ObjOk X.prog X.w H1 s1.heap dd (.xd fs) from I1.hok dd _ ed)
    obtain ⟨od, ho, hl⟩ := lookIn_ns hns
    obtain ⟨u, hu, ru⟩ := RelO.some_of (v := v) (o := mA f) (by rw [← l]; exact hr f)
    have no : PySem.W.notCls oe = true := by unfold PySem.W.notCls; rw [g2]
    exact HandSPX.exc_get I1.kIn (⟨g1, hz.1, no, by rw [hz.2]; exact ho⟩ : PySem.W.InstAt s1.heap a oe (C.cls c) (some od)) k1 k2 k3 (PySem.W.findObj_own k4 h2 rfl (by rw [hl, hu])) (handed_of ru) ⟨v, H1, I1.tok _, ru, q⟩
/-- a field, by the tables of what is known of the classes -/
def fldD (ct : CT) (f : Str) : DV → Option DV
  | .ins c ns vs => if (c, f) ∈ ct.fi then fldGet ns vs f else none
  | .exc c ns vs => if (c, f) ∈ ct.fe then fldGet ns vs f else none
  | _ => none
def evFld (ct : CT) (f : Str) (fa : Ev) : Ev := fun st => (fa st).bind fun a st1 => match fldD ct f a.1 with
  | some d => .ok (d, if flat d = true then .new else .fro) st1
  | none => .stuck
theorem fro_or_flat {σ : L2.St} {ρ : List CellA} {st : DS} {H : Hp} {v : V} {d : DV} (r : Rep B.C ρ (Av ρ B.O st σ) H v d) : RepK B ρ st σ H (if flat d = true then .new else .fro) v d ∧ Fresh H (if flat d = true then .new else .fro) v := by
  by_cases hf : flat d = true
  · rw [if_pos hf, Rep.flat_eq hf r]
    exact ⟨RepK.mkF hf, fresh_flat hf⟩
  · rw [if_neg hf]
    exact ⟨r, trivial⟩
theorem pd_fld {e : Expr} {f : Str} {pos : Pos} {fa : Ev} (hC : B.C.K = X.K) (kc : KitC B.C ct) (he : PD X B W e fa) (hb : attributeBase e f X.env (eval e X.env) = eval e X.env) : PD X B W (.Attribute e f pos) (evFld ct f fa) := by
  refine PE.mono (pe_fldZ hC kc he hb) fun σ H Q ⟨ρ, st, rel, r⟩ => ?_
  have r1 := Res.bind (k := fun (a : DV × Kd) st1 => match fldD ct f a.1 with
    | some d => .ok (d, if flat d = true then Kd.new else Kd.fro) st1
    | none => .stuck) r
  refine RD.go rel r1 fun a st1 ρ1 H1 s1 r1 v rv fv => ?_
  obtain ⟨d, kd⟩ := a
  dsimp only at r1 rv
  cases hf : fldD ct f d with
  | none => rw [hf] at r1; exact r1.elim
  | some z =>
    rw [hf] at r1
    have fin : ∀ u, Rep B.C ρ1 (Av ρ1 B.O st1 σ) H1 u z → Q u H1 := fun u ru => by
      obtain ⟨k1, k2⟩ := fro_or_flat ru
      exact Res.now s1.rel r1 u k1 (Fresh.dm s1.dm k2)
    cases d <;> try (cases hf; done)
    · rename_i c ns vs
      simp only [fldD] at hf
      split at hf
      · rename_i hm
        obtain ⟨p, dx, xs, rfl, e1, e2, e3⟩ := rv.ins
        obtain ⟨u, h1, h2⟩ := fldGet_rep e2 e3 hf
        exact .inl ⟨p, c, dx, _, u, rfl, e1, hm, h1, fin u h2⟩
      · cases hf
    · rename_i c ns vs
      simp only [fldD] at hf
      split at hf
      · rename_i hm
        have r' : Rep B.C ρ1 (Av ρ1 B.O st1 σ) H1 v (.exc c ns vs) := by
          cases kd with
          | view i => obtain ⟨p, rfl, _, c, _⟩ := rv; cases c
          | fro => exact rv
          | new => exact rv.1
        cases r' with
        | exc n e n2 e2 l r =>
          obtain ⟨u, h1, h2⟩ := fldGet_rep l r hf
          exact .inr ⟨_, c, _, _, u, rfl, e, e2, hm, h1, fin u h2⟩
        | exc0 n e => simp [fldGet] at hf
      · cases hf
/-- except X, X an own exception class -/
def catchN (ct : CT) (k : Nat) (c : Nat) : Option Bool := if ct.ex.contains c && ct.ex.contains k then some (ct.sub c k) else none
end
end D

/-! E: x(lambda: body), x a def that calls what it gets. -/
namespace D
open PySem L2 PyProof.Rows LamX
/-- all but the tables stays, nothing goes -/
structure Grown (H H1 : Hp) : Prop where
  fr : ∀ a o, H a = some o → NT o → H1 a = some o
  dm : ∀ a, H a ≠ none → H1 a ≠ none
theorem Grown.refl (H : Hp) : Grown H H := ⟨fun _ _ e _ => e, fun _ z => z⟩
section
variable {X : Cx} {pins : List (Addr × Obj)} {σ : L2.St} {H : Hp} {s : Shared}
end
section
variable {X : Cx} {pins : List (Addr × Obj)} {σ : L2.St} {H : Hp} {s : Shared}
end
end D

/-! E: x(lambda: body) on deep values. -/
namespace D
open PySem L2 PyProof.Rows LamX
/-- every slot's own thing is shared from now on -/
def DS.frz (st : DS) : DS := ⟨st.sl.map (Option.map fun (p : DV × Bool) => (p.1, false)), st.cs⟩
section
variable {B : BC} {W : WX} {σ : L2.St} {ρ : List CellA} {st : DS} {H H1 : Hp}
theorem frz_at {i : Nat} {d : DV} {b : Bool} (h : st.frz.sl[i]? = some (some (d, b))) : b = false ∧ ∃ c, st.sl[i]? = some (some (d, c)) := by
  simp only [DS.frz, List.getElem?_map] at h
  cases e : st.sl[i]? with
  | none => rw [e] at h; cases h
  | some x =>
    rw [e] at h
    cases x with
    | none => cases h
    | some p =>
      obtain ⟨d', c⟩ := p
      cases h
      exact ⟨rfl, c, rfl⟩
theorem frz_own {i : Nat} {p : Addr} : ¬ ownAt st.frz σ i p := fun ⟨d, h, _⟩ => by cases (frz_at h).1
theorem frz_av {a : Addr} (h : Av ρ B.O st.frz σ a) : Av ρ B.O st σ a := by
  rcases h with h | h | ⟨j, h⟩
  · exact .inl h
  · exact .inr (.inl h)
  · exact absurd h frz_own
theorem Step.frz (r : Rel B ρ st σ H) : Step B σ ρ st H ρ st.frz H := by
  have mv : ∀ a, Av ρ B.O st.frz σ a → Av ρ B.O st σ a ∨ H a = none := fun a z => .inl (frz_av z)
  refine ⟨List.prefix_refl _, ⟨by rw [← r.len]; simp [DS.frz], fun j d h => ?_, fun j d h => ?_, fun j k p h1 h2 => absurd h1 frz_own, r.dom, r.odom, ⟨r.cel.len, fun k c x h1 h2 => ?_, r.cel.dis⟩, r.cdom, r.tabs⟩, fun _ _ e _ _ => e, fun _ _ z => absurd z frz_own, fun j d b z => (frz_at z).2, fun _ z => .inl z, fun _ z => z⟩
  · obtain ⟨_, c, e⟩ := frz_at h
    cases c with
    | false =>
      obtain ⟨v, e1, q⟩ := r.fro j d e
      exact ⟨v, e1, q.mv (List.prefix_refl _) (fun _ _ e _ _ => e) mv⟩
    | true =>
      obtain ⟨p, e1, q, n1, n2, n3⟩ := r.own j d e
      refine ⟨.ref p, e1, q.rep (fun a z => frz_av z) fun z => ?_⟩
      rcases z with z | z | ⟨k, z⟩
      · exact n2 z
      · exact n1 z
      · exact absurd z frz_own
  · cases (frz_at h).1
  · have q := r.cel.ok k c x h1 h2
    cases x with
    | draw d => exact q
    | obj d => exact ⟨q.1, q.2.mv (List.prefix_refl _) (fun _ _ e _ _ => e) mv rfl⟩
    | dead => trivial
/-- the tables have grown -/
theorem Step.grown (r : Rel B ρ st σ H) (g : Grown H H1) (t : Tabs B.C.T H1) : Step B σ ρ st H ρ st H1 := by
  have fr : ∀ a o, H a = some o → ¬ Av ρ B.O st σ a → NT o → H1 a = some o := fun a o e _ n => g.fr a o e n
  have mv : ∀ a, Av ρ B.O st σ a → Av ρ B.O st σ a ∨ H a = none := fun a z => .inl z
  have same : ∀ p d, Cont B.C ρ (Av ρ B.O st σ) H p d → H1 p = H p := fun p d c => by
    obtain ⟨o, e, n⟩ := c.nt
    rw [e, g.fr p o e n]
  refine ⟨List.prefix_refl _, ⟨r.len, fun j d h => ?_, fun j d h => ?_, r.dis, fun a z => g.dm a (r.dom a z), fun a z => g.dm a (r.odom a z), ⟨r.cel.len, fun k c x h1 h2 => ?_, r.cel.dis⟩, fun a z => g.dm a (r.cdom a z), t⟩, fun a o e _ n => g.fr a o e n, fun _ _ z => z, fun j d b z => ⟨b, z⟩, fun _ z => .inl z, g.dm⟩
  · obtain ⟨v, e1, q⟩ := r.fro j d h
    exact ⟨v, e1, q.mv (List.prefix_refl _) fr mv⟩
  · obtain ⟨p, e1, q, n⟩ := r.own j d h
    exact ⟨p, e1, q.mv (List.prefix_refl _) fr mv (same p d q), n⟩
  · have q := r.cel.ok k c x h1 h2
    cases x with
    | draw d =>
      obtain ⟨g', l, e, n1, n2, n3, a, b, c⟩ := q
      exact ⟨g', l, e, n1, n2, n3, g.fr _ _ a trivial, g.fr _ _ b trivial, g.fr _ _ c trivial⟩
    | obj d => exact ⟨q.1, q.2.mv (List.prefix_refl _) fr mv (same _ d q.2)⟩
    | dead => trivial
end
/-- a def «c = None; try: a() except K as e: c = e; rest», a its parameter: its slots' number, c's and e's slots, K's number, the rest -/
structure LamD where
  n : Nat
  jc : Nat
  je : Nat
  kx : Nat
  rest : Sv
def LamD.sl1 (L : LamD) : List Slot := (startSl L.n [.opq]).set L.jc (some (.non, false))
def LamD.slX (L : LamD) (x : DX) : List Slot := (L.sl1.set L.jc (some (.exc x.c x.ns x.vs, false))).set L.je none
def lamBack (sl : List Slot) : Out (DV × Kd) → Out (DV × Kd)
  | .ok a st2 => .ok (a.1, if flat a.1 = true then .new else .fro) ⟨sl, st2.cs⟩
  | _ => .stuck
def evLam (ct : CT) (L : LamD) (body : Ev) : Ev := fun st => match body st.frz with
  | .ok _ st1 => lamBack st1.sl (outRet (L.rest ⟨L.sl1, st1.cs⟩))
  | .exc x st1 => (match catchN ct L.kx x.c with
    | some true => lamBack st1.sl (outRet (L.rest ⟨L.slX x, st1.cs⟩))
    | _ => .stuck)
  | .stuck => .stuck
def LamD.σ1 (L : LamD) (N : List Str) (f : Addr) : L2.St := (L2.start N [.ref f]).set L.jc (some .non)
section
variable {X : Cx} {C : RC} {ct : CT}
end
section
variable {B : BC} {W : WX} {σ : L2.St} {ρ ρ1 : List CellA} {st st1 : DS} {H H1 H' : Hp} {C : RC}
end
end D

/-! E: a slot's own thing is written; list methods; classes as values; raise. -/
namespace D
open PySem L2 PyProof.Rows
section
variable {X : Cx} {B : BC} {W : WX} {σ : L2.St} {ρ : List CellA} {st : DS} {H : Hp} {i : Nat} {p : Addr} {d d' : DV} {o' : HO}
/-! ### xs.append(e) -/
def svApp (i : Nat) (fe : Ev) : Sv := fun st => match st.sl[i]? with
  | some (some (.lst _, true)) => (fe st).bind fun a st1 => (match (st1.eat a.2).sl[i]? with
    | some (some (.lst ds, true)) => if ds.length < sizeLine then .ok .nx ⟨(st1.eat a.2).sl.set i (some (.lst (ds ++ [a.1]), true)), (st1.eat a.2).cs⟩ else .stuck
    | _ => .stuck)
  | _ => .stuck
/-! ### xs.count(e), xs.index(e) of flat things -/
theorem RepK.flat4 {kd : Kd} {v : V} {a : DV} (h : D.flat4 a = true) (r : RepK B ρ st σ H kd v a) : v = flatV' a := RepK.flat (flat_of4 h) r
/-! ### an own class's name -/
def evCls (k : Nat) : Ev := fun st => .ok (.cls k, .fro) st
theorem pd_cls {k : Nat} {x : Str} {pos : Pos} (hm : X.mg x = some (.ref (B.C.cls k))) (hg : Gl X x) (hd : (x == ("__debug__" : Str)) = false) : PD X B W (.Name x pos) (evCls k) :=
  PE.mono (pe_glob hg hm (v := .ref (B.C.cls k)) rfl hd) fun σ H Q ⟨ρ, st, rel, r⟩ => Res.now rel r _ (.cls k) trivial
/-! ### raise K("..") -/
end
end D

/-! E: the rules in short. -/
namespace D
open PySem L2 PyProof.Rows LamX
section
variable {X : Cx} {C : RC} {ct : CT} {O : Addr → Prop} {H0 : Hp} {W : WX} {k : Nat} {a b c e : Expr} {es rest body : List Expr} {fa fb fc fe : Ev} {f g : Sv} {gk : Ak} {pos p p1 p2 p3 apos cpos tpos : Pos} {x y n m : Str} {i j kk : Nat}
theorem w_cls (j : Nat) (hm : X.mg x = some (.ref (C.cls j))) (hg : Gl X x := by rfl) (hd : (x == ("__debug__" : Str)) = false := by decide) : PD X ⟨C, O, H0⟩ W (.Name x pos) (evCls j) := pd_cls (B := ⟨C, O, H0⟩) hm hg hd
theorem w_fld (fx : Fx X C W k) (kc : KitC C ct) (he : PD X ⟨C, O, H0⟩ W e fe) (hb : attributeBase e n X.env (eval e X.env) = eval e X.env := by rfl) : PD X ⟨C, O, H0⟩ W (.Attribute e n pos) (evFld ct n fe) := pd_fld (B := ⟨C, O, H0⟩) fx.K kc he hb
/-! ### statements -/
theorem fromC {W : WX} {e : Expr} {fe : Ev} (h : ∀ O H0, PD X ⟨C, O, H0⟩ W e fe) : ∀ B' : BC, B'.C = C → PD X B' W e fe := fun B' hB => by
  cases B' with
  | mk C' O' H' =>
    have hB : C' = C := hB
    subst hB
    exact h O' H'
/-- a, b = x, y -/
theorem ws_par {px py pt pt2 : Pos} {k1 k2 : Nat} (i j : Nat) (fx : Fx X C W k) (hN : X.N.Nodup) (ha : ∀ O H0, PD X ⟨C, O, H0⟩ W a fa) (hb : ∀ O H0, PD X ⟨C, O, H0⟩ W b fb) (hi : X.N[i]? = some x := by rfl) (hj : X.N[j]? = some y := by rfl) (hij : i ≠ j := by decide)
    (hx : X.env.scope.names.lookup x = some .local := by rfl) (hy : X.env.scope.names.lookup y = some .local := by rfl) (hsa : starEach [a, b] X.env = (false, eval a X.env) :: starEach [b] X.env := by rfl) (hsb : starEach [b] X.env = (false, eval b X.env) :: starEach [] X.env := by rfl)
    (hw : swappedStores [.Tuple [.Name x px, .Name y py] k1 pt] (.Tuple [a, b] k2 pt2) X.env = pure (some [x, y]) := by rfl) (hs : swapsWithSole [.Tuple [.Name x px, .Name y py] k1 pt] (.Tuple [a, b] k2 pt2) pos.line X.env = pure false := by rfl) :
    PSD X ⟨C, O, H0⟩ W (.Assign [.Tuple [.Name x px, .Name y py] k1 pt] (.Tuple [a, b] k2 pt2) pos) (svThen (svPar i fa (svPar j fb svNx))) :=
  psd_par (B := ⟨C, O, H0⟩) fx.calm hN hi hj hij hx hy (fromC ha) (fromC hb) hsa hsb hw hs
end
end D

/-! E: what the top has written, looked at. -/
namespace D
open PySem L2 PyProof.Rows LamX
section
variable {K : PySem.W.Frag}
/-- the classes' addresses -/
def clsOf (l : List (Nat × Addr)) : Nat → Addr := fun k => (l.lookup k).getD 0
/-- one class looked at -/
def oneB (K : PySem.W.Frag) (ct : CT) (c : Nat) (C : Addr) : Bool :=
  decide (PySem.W.findIn K (.ref C) "__class__" = some (some (.builtin "object.__class__"))) && (decide (PySem.W.mroIn K C (.type "object") = some true) &&
  (kinds.all (fun T => decide (PySem.W.kitOne K (.type T) (.ref C) = some false)) && tested.all fun T => decide (PySem.W.kitOne K (.ref C) (.type T) = some (decide (T = "ValueError") && ct.ex.contains c))))
def excB (K : PySem.W.Frag) (C : Addr) : Bool :=
  (PySem.W.clsIn K C).isSome && (decide (PySem.W.findIn K (.ref C) "__getattribute__" = some (some (.builtin "BaseException.__getattribute__"))) && (decide (PySem.W.findIn K (.ref C) "__getattr__" = some none) && (decide (PySem.W.subIn K (.ref C) (.type "BaseException") = some true) &&
  (PySem.W.hasDictIn K C && (decide (PySem.W.typeIn K (.ref C) = some (.type "type")) && PySem.W.keepIn K (.ref C))))))
def kitCB (K : PySem.W.Frag) (cls : Nat → Addr) (ct : CT) : Bool :=
  decide (PySem.W.specialIn K (.builtin "object.__class__") "__get__" = some (some (.builtin "getset_descriptor.__get__"))) && (decide (PySem.W.takesIn K (.builtin "object.__class__") = some true) &&
  ((ct.ins ++ ct.ex).all (fun c => oneB K ct c (cls c)) && (ct.ex.all (fun c => excB K (cls c)) &&
  (ct.ins.all (fun c => ct.ins.all fun c' => decide (PySem.W.kitOne K (.ref (cls c)) (.ref (cls c')) = some (decide (c = c')))) && (ct.ins.all (fun c => ct.ex.all fun c' => decide (PySem.W.kitOne K (.ref (cls c)) (.ref (cls c')) = some false)) &&
  (ct.ex.all (fun c => ct.ins.all fun c' => decide (PySem.W.kitOne K (.ref (cls c)) (.ref (cls c')) = some false)) && (ct.ex.all (fun c => ct.ex.all fun c' => decide (PySem.W.kitOne K (.ref (cls c)) (.ref (cls c')) = some (ct.sub c c')) && decide (PySem.W.exmOne K (.ref (cls c)) (.ref (cls c')) = some (ct.sub c c'))) &&
  (ct.pl.all (fun c => ct.ex.contains c && PySem.W.excIn K (cls c) [.type "ValueError", .type "Exception", .type "BaseException", .type "object"] "ValueError.__new__") && ct.fe.all fun p => ct.ex.contains p.1 && decide (PySem.W.findIn K (.ref (cls p.1)) p.2 = some none)))))))))
theorem kitCB_ok {cls : Nat → Addr} {ct : CT} {T : List (Addr × Str)} (h : kitCB K cls ct = true) (hc : ∀ c ∈ ct.ins, Cls K (cls c)) (hf : ∀ p ∈ ct.fi, p.1 ∈ ct.ins ∧ NoAttr K (cls p.1) p.2) : KitC ⟨K, cls, T⟩ ct := by
  unfold kitCB oneB excB at h
  simp only [Bool.and_eq_true, List.all_eq_true, decide_eq_true_eq, List.contains_iff_mem] at h
  obtain ⟨h1, h2, h3, h4, h5, h6, h7, h8, h9, h10⟩ := h
  exact { cls := hc, nf := hf
          ha := fun c m => (h3 c m).1, hn := fun _ _ => h1, tk := fun _ _ => h2, mr := fun c m => (h3 c m).2.1, tc := fun c m => (h3 c m).2.2.1, tt := fun c m => (h3 c m).2.2.2
          cc := h5, ce := h6, ec := h7, ee := fun c m c' m' => (h8 c m c' m').1, ek := fun c m c' m' => (h8 c m c' m').2
          xs := fun c m => (h4 c m).1, xa := fun c m => (h4 c m).2.1, xg := fun c m => (h4 c m).2.2.1, xb := fun c m => (h4 c m).2.2.2.1, xd := fun c m => (h4 c m).2.2.2.2.1, xt := fun c m => (h4 c m).2.2.2.2.2.1, xk := fun c m => (h4 c m).2.2.2.2.2.2
          xq := h9, nx := h10 }
end
end D

/-! E: tuples that the top has written. -/
namespace D
open PySem L2 PyProof.Rows
def evG (d : DV) : Ev := fun st => .ok (d, .fro) st
section
variable {X : Cx} {C : RC} {W : WX} {O : Addr → Prop} {H0 : Hp} {x : Str} {pos : Pos} {ds : List DV}
end
end D

/-! E: xs[i] = v into an own list. -/
namespace D
open PySem L2 PyProof.Rows
section
variable {X : Cx} {B : BC} {W : WX} {i : Nat}
def svSetIx (i : Nat) (fi fe : Ev) : Sv := fun st => match st.sl[i]? with
  | some (some (.lst _, true)) => (fe st).bind fun a st1 => (fi (st1.eat a.2)).bind fun j st2 => (match st2.sl[i]?, j.1 with
    | some (some (.lst ds, true)), .int k => (match ixN ds.length k with | some m => .ok .nx ⟨st2.sl.set i (some (.lst (ds.set m a.1), true)), st2.cs⟩ | none => .stuck)
    | _, _ => .stuck)
  | _ => .stuck
end
section
variable {X : Cx} {C : RC} {W : WX} {O : Addr → Prop} {H0 : Hp} {x : Str} {pos p1 p2 : Pos} {e ie : Expr} {fe fi : Ev}
end
end D

/-! E: list(range(..)), methods of texts, calls by keywords. -/
namespace D
open PySem L2 PyProof.Rows
/-! ### list(range(..)) -/
instance {a b : Int} : Decidable (RgOk a b) := by unfold RgOk; infer_instance
def evLR1 (fa : Ev) : Ev := fun st => (fa st).bind fun a st1 => match a.1 with
  | .int j => if RgOk 0 j then .ok (.lst (rangeL 0 (j - 0).toNat), .new) st1 else .stuck
  | _ => .stuck
def evLR2 (fa fb : Ev) : Ev := fun st => (fa st).bind fun a st1 => (fb st1).bind fun b st2 => match a.1, b.1 with
  | .int i, .int j => if RgOk i j then .ok (.lst (rangeL i (j - i).toNat), .new) st2 else .stuck
  | _, _ => .stuck
section
variable {X : Cx} {B : BC} {W : WX} {a b : Expr} {fa fb : Ev} {p q pos pos' : Pos}
end
section
variable {X : Cx} {C : RC} {O : Addr → Prop} {H0 : Hp} {W : WX} {k : Nat} {a b : Expr} {fa fb : Ev} {p q pos pos' : Pos}
end
/-! ### texts -/
section
variable {C : RC}
end
section
variable {X : Cx} {C : RC} {O : Addr → Prop} {H0 : Hp} {W : WX} {k : Nat} {a e : Expr} {fa : Ev} {gk : Ak} {apos cpos : Pos}
end
/-! ### calls by keywords: all parameters given, nothing by position -/
def permL {α : Type} : List Nat → List α → Option (List α)
  | [], _ => some []
  | i :: π, as => match as[i]?, permL π as with
    | some a, some r => some (a :: r)
    | _, _ => none
def permK {α : Type} (π : List Nat) (as : List α) : Option (List α) := if as.length = π.length then permL π as else none
def akPerm (π : List Nat) (g : Ak) : Ak := fun st => (g st).bind fun as st1 => match permK π as with
  | some bs => .ok bs st1
  | none => .stuck
theorem PK.mono {X : Cx} {e : List Keyword} {t t' : TA} (h : PK X e t) (m : ∀ σ H Q, t' σ H Q → t σ H Q) : PK X e t' := ⟨fun pos pins s σ H Q I r => h.run pos pins s σ H Q I (m _ _ _ r)⟩
section
variable {X : Cx} {B : BC} {W : WX} {e : Expr} {kws : List Keyword} {f : Ev} {g : Ak} {pos kpos : Pos} {nm : Option Str}
end
section
variable {X : Cx} {B : BC} {W : WX} {F : Fn} {g : Ak} {k : Nat} {f : Addr} {fd : FuncData} {ps ks : List Str} {π : List Nat} {x : Str} {p pos : Pos} {kws : List Keyword} {sp : Sp} {E : L2.St → XK} {t : TA}
end
section
variable {X : Cx} {C : RC} {O : Addr → Prop} {H0 : Hp} {W : WX} {F : Fn} {gk : Ak} {k l : Nat} {fa : Addr} {fd : FuncData} {ps : List Str} {x : Str} {p pos : Pos} {kws : List Keyword}
end
end D

/-! E: enumerate of a tuple. -/
namespace D
open PySem PySem.Spec PyProof.Rows L2 Sem
open AutoSeq1 (wpAny_loadPart')
section
variable {prog : Program} {w : World} {A : Around} {E : Value → Shared → Prop} {s : Shared}
theorem nextOf_tuple_item {it t : Addr} {i : Nat} {items : Array Value} {x : Value} {Q : Value → Shared → Prop} (hit : s.heap.IsTupleIter it t i) (ht : s.heap.IsTuple t items) (hx : items[i]? = some x)
    (hQ : ∀ h', h'.IsTupleIter it t (i + 1) → Heap.SameBut it s.heap h' → Q x { s with heap := h' }) : wpAny (model prog w) A (Builtin.SmallTypes.nextOf (.ref it)) Q E s := by
  obtain ⟨o, ho, hc, hd⟩ := id hit
  obtain ⟨ol, hol, _, nl, hdl⟩ := ht
  unfold Builtin.SmallTypes.nextOf
  refine wpAny_bind (wpAny_callSpecial?_slot (name := Str.ofString "__next__") hit.typeIs F.slot_tuple_iterator_next
    (wpAny_call_entry F.slot_tuple_iterator_next hit.typeIs F.entry_tuple_iterator_next ?_ (F.args_tuple_iterator_next_1 _)))
  show wpAny _ _ (field (.ref it) 0 >>= _) _ _ s
  refine wpAny_bind (wpAny_field ho hd (x := .ref t) rfl ?_)
  show wpAny _ _ (if (Value.ref t == Value.none) = true then _ else _) _ _ s
  rw [if_neg (show ¬ ((Value.ref t == Value.none) = true) from Bool.false_ne_true)]
  show wpAny _ _ (field (.ref it) 1 >>= _) _ _ s
  refine wpAny_bind (wpAny_field ho hd (x := .int i 0) rfl ?_)
  show wpAny _ _ (seqItems? (.ref t) >>= _) _ _ s
  refine wpAny_bind (wpAny_seqItems hol hdl ?_)
  simp only [Int.toNat_natCast, hx]
  refine wpAny_bind (wpAny_setField ho hd (by simp) (wpAny_pure ⟨x, rfl, wpAny_pure (hQ _ ?_ (Heap.SameBut.update ..))⟩))
  exact ⟨_, Heap.get?_update_self _ ho (Obj.isFreed_of_fields (Obj.data_mapFields hd _)), (Obj.cls_mapFields ..).trans hc, by
    rw [Obj.data_mapFields hd]; simp [rawInt]⟩
theorem nextOf_tuple_end {it t : Addr} {i : Nat} {items : Array Value} {Q : Value → Shared → Prop} (hh : A.handled = none) (hit : s.heap.IsTupleIter it t i) (ht : s.heap.IsTuple t items) (hx : items[i]? = none)
    (hE : ∀ h' e, Heap.ExtBut it s.heap h' → (∃ o, h'.get? e = some o ∧ o.cls = .type "StopIteration") → E (.ref e) { s with heap := h' }) : wpAny (model prog w) A (Builtin.SmallTypes.nextOf (.ref it)) Q E s := by
  obtain ⟨o, ho, hc, hd⟩ := id hit
  obtain ⟨ol, hol, _, nl, hdl⟩ := ht
  unfold Builtin.SmallTypes.nextOf
  refine wpAny_bind (wpAny_callSpecial?_slot (name := Str.ofString "__next__") hit.typeIs F.slot_tuple_iterator_next
    (wpAny_call_entry F.slot_tuple_iterator_next hit.typeIs F.entry_tuple_iterator_next ?_ (F.args_tuple_iterator_next_1 _)))
  show wpAny _ _ (field (.ref it) 0 >>= _) _ _ s
  refine wpAny_bind (wpAny_field ho hd (x := .ref t) rfl ?_)
  show wpAny _ _ (if (Value.ref t == Value.none) = true then _ else _) _ _ s
  rw [if_neg (show ¬ ((Value.ref t == Value.none) = true) from Bool.false_ne_true)]
  show wpAny _ _ (field (.ref it) 1 >>= _) _ _ s
  refine wpAny_bind (wpAny_field ho hd (x := .int i 0) rfl ?_)
  show wpAny _ _ (seqItems? (.ref t) >>= _) _ _ s
  refine wpAny_bind (wpAny_seqItems hol hdl ?_)
  simp only [Int.toNat_natCast, hx]
  refine wpAny_bind (wpAny_rule (wpAny_bind (wpAny_setField ho hd (by simp) ?_)))
  show wpAny _ _ (newExc (.type "StopIteration") [] >>= _) _ _ _
  refine wpAny_bind ?_
  simp only [newExc, newTuple]
  refine wpAny_bind (wpAny_newObj_type ?_ (by size_fits))
  refine wpAny_bind (m := firstArgMember _ _) (wpAny_of_eq (a := Value.none) (by first | rfl | (simp only [firstArgMember]; rfl)) ?_)
  refine wpAny_newObj_type ?_ (by size_fits)
  simp only [raiseNew]
  refine wpAny_bind (wpAny_handled ?_)
  first | rw [show A.in1.handled = none from hh] | rw [hh]
  refine wpAny_bind (wpAny_pure (wpAny_throw ?_))
  exact hE _ _ (((Heap.SameBut.update ..).extBut.push _).push _) ⟨_, Heap.get?_push_size _ rfl, rfl⟩
theorem IsTupleIter.at' {h h' : Heap} {it t : Addr} {i : Nat} (x : h.IsTupleIter it t i) (k : ∀ o, h.get? it = some o → h'.get? it = some o) : h'.IsTupleIter it t i := let ⟨o, ho, r⟩ := x; ⟨o, k o ho, r⟩
theorem IsTuple.at' {h h' : Heap} {t : Addr} {items : Array Value} (x : h.IsTuple t items) (k : ∀ o, h.get? t = some o → h'.get? t = some o) : h'.IsTuple t items := let ⟨o, ho, r⟩ := x; ⟨o, k o ho, r⟩
theorem draws_tuple (hh : A.handled = none) (it l : Addr) (hne : l ≠ it) (items : Array Value) :
    Draws prog w A it [it, l] items.size (fun i v => items[i]? = some v) (fun i h => h.IsTupleIter it l i ∧ h.IsTuple l items) where
  live := fun _ _ st => let ⟨o, ho, _⟩ := st.1; ⟨o, ho⟩
  frame := fun _ _ _ st hk => ⟨IsTupleIter.at' st.1 fun o e => hk it (by simp) o e, IsTuple.at' st.2 fun o e => hk l (by simp) o e⟩
  item := fun i s Q E hi st hQ => by
    refine nextOf_tuple_item st.1 st.2 (x := items[i]) (by simp [hi]) fun h' hit' hs' => ?_
    exact hQ _ h' s.toks (by simp [hi]) ⟨hit', st.2.extBut hs'.extBut hne⟩ hs'
  done := fun s Q E st hE => nextOf_tuple_end hh st.1 st.2 (by simp) hE
theorem meets_enumerate_newT (l : Addr) (items : Array Value) (n : Nat) (dct : Option Addr) (sl : Array (Option Value)) :
    Meets (Builtin.«enumerate.__new__» ⟨[.type "enumerate", .ref l], []⟩) (fun _ R s => s.heap.get? l = some { cls := .type "tuple", dict := dct, data := .seq items n, slots := sl } ∧
      R (.ok (.ret (.ref (s.heap.push { cls := .type "tuple_iterator", data := .fields #[.ref l, .int 0 0] }).objs.size)))
        { s with heap := (s.heap.push { cls := .type "tuple_iterator", data := .fields #[.ref l, .int 0 0] }).push { cls := .type "enumerate", data := .fields #[.none, .bool false, .ref s.heap.objs.size, rawInt 0, .none, .none] } }) :=
  .of_wp fun prog w A R s h => by
    obtain ⟨hp, g, d, tk, os⟩ := s; obtain ⟨hl, h⟩ := h
    have hsub := sub_enumerate
    have hL : Heap.IsTuple (Shared.heap ⟨hp, g, d, tk, os⟩) l items := ⟨_, hl, rfl, n, rfl⟩
    wp_walk using wpAny_loadPart' hl
    refine wpAny_stack_any fun st => wpAny_pure ?_
    split
    · rename_i c _ _ _ _ _
      cases (c == Value.type "enumerate")
      · wp_walk using wpAny_loadPart' hl, wpAny_pyIter_tuple hL
        exact ⟨_, rfl, h⟩
      · wp_walk using wpAny_loadPart' hl, wpAny_pyIter_tuple hL
        exact ⟨_, rfl, h⟩
    · wp_walk using wpAny_loadPart' hl, wpAny_pyIter_tuple hL
      exact ⟨_, rfl, h⟩
theorem call_enumerate_tuple {l : Addr} {items : Array Value} {Q : Value → Shared → Prop} (hL : s.heap.IsTuple l items)
    (h : ∀ h', IsEnum h' (s.heap.objs.size + 1) s.heap.objs.size 0 .none → h'.IsTupleIter s.heap.objs.size l 0 → h'.objs.size = s.heap.objs.size + 2 →
      (∀ b o, s.heap.get? b = some o → h'.get? b = some o) → Q (.ref (s.heap.objs.size + 1)) { s with heap := h' }) :
    wpAny (model prog w) A (call (.type "enumerate") [.ref l]) Q E s := by
  obtain ⟨⟨c, dct, dt, sl⟩, hl, hc, n, hd⟩ := hL
  replace hc : c = .type "tuple" := hc
  replace hd : dt = .seq items n := hd
  subst hc hd
  refine callType_new F.called_enumerate (by decide) (F.typeCall_enumerate_1 _) (F.newCall_enumerate_1 _) (fun obj => F.args_object_init_2 obj _) F.entry_enumerate_new
    (meets_enumerate_newT l items n dct sl) ⟨hl, ?_⟩
  have hz : (s.heap.push { cls := .type "tuple_iterator", data := .fields #[.ref l, .int 0 0] }).objs.size = s.heap.objs.size + 1 := Heap.size_push ..
  show _ ∧ _
  rw [hz]
  have he : IsEnum ((s.heap.push { cls := .type "tuple_iterator", data := .fields #[.ref l, .int 0 0] }).push
      { cls := .type "enumerate", data := .fields #[.none, .bool false, .ref s.heap.objs.size, rawInt 0, .none, .none] }) (s.heap.objs.size + 1) s.heap.objs.size 0 .none := by
    have := Heap.get?_push_size (s.heap.push { cls := .type "tuple_iterator", data := .fields #[.ref l, .int 0 0] })
      (o := { cls := .type "enumerate", data := .fields #[.none, .bool false, .ref s.heap.objs.size, rawInt 0, .none, .none] }) rfl
    rw [hz] at this; exact this
  refine ⟨⟨_, he, rfl⟩, h _ he ⟨_, Heap.get?_push_of_some _ (Heap.get?_push_size _ rfl), rfl, rfl⟩ (by rw [Heap.size_push, hz]) fun b o x => Heap.get?_push_of_some _ (Heap.get?_push_of_some _ x)⟩
end
/-- the tuple at a, each item in a new pair -/
def IteT (K : PySem.W.Frag) (a : Addr) : It :=
  ⟨fun i H => ∃ (xs : List V) (x : V), SqT K H a xs ∧ xs[i]? = some x, fun i H v H' => ∃ T x, v = .ref T ∧ H T = none ∧ H' = upd H T (.tup [.int (i : Nat), x]) ∧ ∀ xs, SqT K H a xs → xs[i]? = some x, fun i H => ∃ xs : List V, SqT K H a xs ∧ xs.length ≤ i⟩
theorem turn_enumT {P : Program} {w : World} {K : PySem.W.Frag} {elts : List Expr} {kk : Nat} {tpos : Pos} (a e it : Addr) :
    Turn P w K (.Tuple elts kk tpos) (IteT K a) [e, it] e (fun i h => (∃ old, IsEnum h e it ((i : Nat) : Int) old) ∧ h.IsTupleIter it a i ∧ e ≠ it ∧ a ≠ it ∧ e ≠ a) where
  mem := by simp
  obj := fun i h st b hb => by
    obtain ⟨⟨old, he⟩, ⟨o, ho, hc, hd⟩, _⟩ := st
    have e' : b = e ∨ b = it := by simpa using hb
    rcases e' with z | z
    · rw [z]; exact ⟨_, he, fun v q => nomatch q⟩
    · rw [z]; exact ⟨o, ho, fun v q => by rw [hd] at q; cases q⟩
  keep := fun i h h' st k => let ⟨⟨old, he⟩, hi, hne⟩ := st; ⟨⟨old, k e (by simp) _ he⟩, IsTupleIter.at' hi fun o q => k it (by simp) o q, hne⟩
  item := by
    intro X hP hw hK hc i pins s σ H E I hf st hg
    subst hP hw hK
    obtain ⟨⟨old, he⟩, hit, hne, hai, hea⟩ := st
    obtain ⟨xs, x, hq, hx⟩ := hg
    obtain ⟨its, rv, p, hz⟩ := I.tuple hq
    obtain ⟨u, hu, ru⟩ := rv.get hx
    have hel : e < s.heap.objs.size := Heap.lt_size he
    have hil : it < s.heap.objs.size := by obtain ⟨_, q, _⟩ := hit; exact Heap.lt_size q
    have hlt : i < its.toArray.size := by
      have := (List.getElem?_eq_some_iff.mp hu).1
      simpa using this
    refine wpAny_pyNext_enum_itemD (draws_tuple (A := X.A.in1) (show X.A.in1.handled = none from I.ok.hd hc) it a hai its.toArray) he ⟨hit, show s.heap.IsTuple a its.toArray from p⟩ hlt hne (by simp [hne, hea]) fun x' h' tk hx' ho hst' hT hsz hk => ?_
    have ex : x' = u := by
      have : its[i]? = some x' := by simpa using hx'
      rw [hu] at this
      exact (Option.some.inj this).symm
    subst ex
    obtain ⟨hit', _⟩ := hst'
    refine ⟨_, rfl, wpAny_letOwnedTupleGo_enum (s := { s with heap := h', toks := tk + 1 }) ho fun h'' he' sb => ?_⟩
    have hT2 : h''.get? s.heap.objs.size = some { cls := .type "tuple", data := .seq #[.int i tk, x'] } := (sb.2 _ (Nat.ne_of_gt hel)).trans hT
    have new : ObjOk X.prog X.w (upd H s.heap.objs.size (.tup [.int (i : Nat), x])) h'' s.heap.objs.size (.tup [.int (i : Nat), x]) :=
      ⟨by show 2 ≤ sizeLine; decide, [.int i tk, x'], .cons ⟨_, rfl⟩ (.cons ru .nil), ⟨_, hT2, rfl, _, rfl⟩⟩
    have I1 : Inv X pins σ (upd H s.heap.objs.size (.tup [.int (i : Nat), x])) { s with heap := h'', toks := tk + 1 } :=
      I.turnedNew (ch := [e, it]) (fun b ob hb q => (sb.2 b (fun z => hb (by simp [z]))).trans (hk b ob (fun z => hb (by simp [z])) (fun z => hb (by simp [z])) q)) hf (Nat.le_refl _) new
    refine ⟨.ref s.heap.objs.size, _, I1, rfl, ⟨_, x, rfl, I.hok.fresh (Nat.le_refl _), rfl, fun ys hy => by rw [I.tuple_inj hy hq]; exact hx⟩, ⟨⟨x', ?_⟩, IsTupleIter.at' hit' fun o q => (sb.2 it (Ne.symm hne)).trans q, hne, hai, hea⟩, fun b hb => ?_⟩
    · have e1 : ((i + 1 : Nat) : Int) = (i : Int) + 1 := by omega
      rw [e1]; exact he'
    · have hb' : b < s.heap.objs.size := by
        have e' : b = e ∨ b = it := by simpa using hb
        rcases e' with z | z
        · rw [z]; exact hel
        · rw [z]; exact hil
      rw [upd_ne (Nat.ne_of_lt hb')]
      exact (hf b hb).1
  done := by
    intro X hP hw hK hc i pins s σ H E I hf st hg
    subst hP hw hK
    obtain ⟨⟨old, he⟩, hit, hne, hai, hea⟩ := st
    obtain ⟨xs, hq, hx⟩ := hg
    obtain ⟨its, rv, p, hz⟩ := I.tuple hq
    obtain ⟨f0, f1, f2, f3, f4, f5⟩ := hf it (by simp)
    have hl := rv.length
    have hT : s.TypeIs (.ref e) "enumerate" := ⟨_, he, rfl⟩
    unfold pyNext
    refine wpAny_bind (wpAny_attempt (wpAny_callSpecial?_slot (name := Str.ofString "__next__") hT F.slot_enumerate_next
      (wpAny_call_entry F.slot_enumerate_next hT F.entry_enumerate_next ?_ (F.args_enumerate_next_1 _))))
    show wpAny _ _ (field (.ref e) 2 >>= _) _ _ _
    refine wpAny_bind (wpAny_field he rfl (x := .ref it) rfl ?_)
    refine wpAny_bind (nextOf_tuple_end (I.ok.hd hc) hit (show s.heap.IsTuple a its.toArray from p) (by simp; omega) fun h' x eb hx' => ?_)
    obtain ⟨o, ho, hc'⟩ := hx'
    refine wpAny_bind (wpAny_isInstance (T := "StopIteration") (b := true) ⟨o, ho, hc'⟩ isSubtype_stop ?_)
    exact wpAny_pure ⟨rfl, I.turned (t' := s.toks) (fun b o hb q => eb b o hb q) f0 f1 f3 f4 f5⟩
  self := fun A i s Q E st h => let ⟨⟨_, he⟩, _⟩ := st; wpAny_pyIter_enum he h
def iEnumT (K : PySem.W.Frag) (ta : TA) : TI := fun σ H R => ta σ H fun vs H1 => ∃ a xs, vs = [.ref a] ∧ SqT K H1 a xs ∧ R (IteT K a) H1
theorem pi_enumT {X : Cx} {e : Expr} {ta : TA} {p pos tpos : Pos} {elts : List Expr} {kk : Nat} (hg : Gl X "enumerate") (hm : X.mg "enumerate" = none) (ha : PA X [e] ta) (hs : starEach [e] X.env = [(false, eval e X.env)]) :
    PI X (.Tuple elts kk tpos) (.Call (.Name "enumerate" p) [e] [] pos) (iEnumT X.K ta) := by
  refine ⟨fun pins s σ H R I h => ?_⟩
  refine Call_ (ld_blt I hg hm boot_enumerate (PyProof.Rows.callWith_type1 (thn (ha.run pos pins s σ H _ I h) fun us s1 ⟨vs, H1, I1, r1, q1⟩ => ?_) hs rfl))
  obtain ⟨a, xs, ex, hq, q⟩ := q1
  subst ex
  cases r1 with
  | cons r rr =>
    cases rr
    cases r
    obtain ⟨its, rv, p', hz⟩ := I1.tuple hq
    have hT : s1.heap.IsTuple a its.toArray := p'
    have hal : a < s1.heap.objs.size := by obtain ⟨o, ho, _⟩ := hT; exact Heap.lt_size ho
    refine call_enumerate_tuple hT fun h' he hit hsz hk => wpAny_pyIter_enum he ?_
    have I2 : Inv X pins σ H1 { s1 with heap := h' } := I1.kept (t' := s1.toks) hk
    refine ⟨s1.heap.objs.size + 1, [s1.heap.objs.size + 1, s1.heap.objs.size], _, _, H1, rfl, I2, turn_enumT a (s1.heap.objs.size + 1) s1.heap.objs.size, ⟨⟨.none, he⟩, hit, Nat.succ_ne_self _, Nat.ne_of_lt hal, Nat.ne_of_gt (Nat.lt_succ_of_lt hal)⟩, fun b hb => ?_, q⟩
    have e' : b = s1.heap.objs.size + 1 ∨ b = s1.heap.objs.size := by simpa using hb
    have hle : s1.heap.objs.size ≤ b := by
      rcases e' with z | z
      · rw [z]; exact Nat.le_add_right _ _
      · rw [z]; exact Nat.le_refl _
    exact I1.fpOk hle (I1.hok.fresh hle)
theorem PI.or {X : Cx} {tg e : Expr} {t t' : TI} (h : PI X tg e t) (h' : PI X tg e t') : PI X tg e (fun σ H R => t σ H R ∨ t' σ H R) := ⟨fun pins s σ H R I r => r.elim (h.run pins s σ H R I) (h'.run pins s σ H R I)⟩
section
variable {C : RC} {ρ : List CellA} {H : Hp}
theorem src_enumT {A : Addr → Prop} {a : Addr} {ds : List DV} (h : ∀ ρ' A' H', Later ρ A H ρ' A' H' → ∃ xs, SqT C.K H' a xs ∧ RepL C ρ' A' H' xs ds) : Src C (IteT C.K a) (enumL ds) ρ A H := by
  intro ρ' A' H' l dom
  obtain ⟨xs, hq, r⟩ := h ρ' A' H' l
  refine ⟨fun i d hd => ?_, fun i hi => ⟨xs, hq, by rw [r.length]; simpa [enumL] using hi⟩⟩
  simp only [enumL, List.getElem?_map, List.getElem?_zipIdx, Option.map_eq_some_iff] at hd
  obtain ⟨p, ⟨d0, hd0, rfl⟩, rfl⟩ := hd
  obtain ⟨v, hv, rv⟩ := r.get hd0
  refine ⟨⟨xs, v, hq, hv⟩, fun x H2 ⟨T, x', ex, hT, eH, y⟩ => ⟨.inr ⟨T, _, hT, eH⟩, ?_⟩⟩
  subst ex eH
  have := y xs hq
  rw [hv] at this
  cases this
  refine .tup (fun z => dom T z hT) upd_same (.cons ?_ (.cons (rv.later (Later.alloc hT)) .nil))
  have e0 : (i : Int) = ((0 + i : Nat) : Int) := by simp
  rw [e0]
  exact .int _
end
def ivEnumX (g : Ak) : Iv := fun st => (g st).bind fun (as : List (DV × Kd)) st1 => match as with
  | [a] => (match a.1 with
    | .lst ds => .ok (enumL ds) (st1.eat a.2)
    | .tup ds => .ok (enumL ds) (st1.eat a.2)
    | _ => .stuck)
  | _ => .stuck
section
variable {X : Cx} {B : BC} {W : WX} {g : Ak} {a : Expr} {p pos : Pos}
theorem pid_enumX {elts : List Expr} {kk : Nat} {tpos : Pos} (hK : B.C.K = X.K) (hg : Gl X "enumerate") (hm : X.mg "enumerate" = none) (ha : PKD X B W [a] g) (hs : starEach [a] X.env = [(false, eval a X.env)]) :
    PID X B W (.Tuple elts kk tpos) (.Call (.Name "enumerate" p) [a] [] pos) (ivEnumX g) := by
  refine PI.mono (PI.or (pi_enum hg hm ha hs) (pi_enumT hg hm ha hs)) fun σ H R ⟨ρ, st, rel, res⟩ => ?_
  have res2 := Res.bind res
  cases e : g st with
  | stuck => rw [e] at res2; exact res2.elim
  | exc x st1 =>
    rw [e] at res2
    refine .inl ⟨ρ, st, rel, ?_⟩
    rw [e]
    exact res2
  | ok as st1 =>
    rw [e] at res2
    have go : ∀ Q : List V → Hp → Prop, (∀ ρ1 H1, Step B σ ρ st H ρ1 st1 H1 → ∀ vs, RepKs B ρ1 st1 σ H1 vs as → Q vs H1) → RK B W g σ H Q := fun Q h => ⟨ρ, st, rel, by rw [e]; exact fun ρ1 H1 s1 vs rv => h ρ1 H1 s1 vs rv⟩
    by_cases ht : ∃ ds kd, as = [(.tup ds, kd)]
    · obtain ⟨ds, kd, rfl⟩ := ht
      refine .inr (go _ fun ρ1 H1 s1 vs rv => ?_)
      have r1 := res2 ρ1 H1 s1
      cases rv with
      | cons r t =>
        cases t with
        | nil =>
          obtain ⟨q, rfl, h⟩ := tup_later r.eat
          obtain ⟨xs, h1, _⟩ := h _ _ _ .refl
          rw [← hK]
          exact ⟨q, xs, rfl, h1, r1 _ _ (Step.eat s1.rel kd) _ (src_enumT h)⟩
    · refine .inl (go _ fun ρ1 H1 s1 vs rv => ?_)
      have r1 := res2 ρ1 H1 s1
      cases rv with
      | nil => exact r1.elim
      | @cons v vs a as r t =>
        cases t with
        | cons _ _ => exact r1.elim
        | nil =>
          obtain ⟨d, kd⟩ := a
          cases d with
          | lst ds =>
            obtain ⟨q, rfl, h⟩ := lst_later r.eat
            obtain ⟨xs, h1, _⟩ := h _ _ _ .refl
            rw [← hK]
            exact ⟨q, xs, rfl, h1, r1 _ _ (Step.eat s1.rel kd) _ (src_enum h)⟩
          | tup ds => exact absurd ⟨ds, kd, rfl⟩ ht
          | _ => exact r1.elim
end
section
variable {X : Cx} {C : RC} {O : Addr → Prop} {H0 : Hp} {W : WX} {k : Nat} {a : Expr} {p pos : Pos} {gk : Ak}
theorem wi_enumX {elts : List Expr} {kk : Nat} {tpos : Pos} (fx : Fx X C W k) (hm : X.mg "enumerate" = none) (ha : PKD X ⟨C, O, H0⟩ W [a] gk) (hg : Gl X "enumerate" := by rfl) (hs : starEach [a] X.env = [(false, eval a X.env)] := by rfl) :
    PID X ⟨C, O, H0⟩ W (.Tuple elts kk tpos) (.Call (.Name "enumerate" p) [a] [] pos) (ivEnumX gk) := pid_enumX (B := ⟨C, O, H0⟩) fx.K hg hm ha hs
end
/-! ### a, b = x, y by a tuple: what is new stays held alone -/
section
variable {X : Cx} {B : BC} {W : WX}
end
section
variable {X : Cx} {C : RC} {O : Addr → Prop} {H0 : Hp} {W : WX} {k : Nat} {a b : Expr} {fa fb : Ev} {x y : Str} {pos px py pt pt2 : Pos} {k1 k2 : Nat}
end
end D

/-! G: things of own classes: an object's cell, its fields stored and read; what a class call makes. -/
namespace D
open PySem L2 PyProof.Rows
mutual
/-- no shared thing in it -/
def noCel : DV → Bool
  | .cel _ => false
  | .lst ds => noCels ds
  | .tup ds => noCels ds
  | .dct _ ds => noCels ds
  | .ins _ _ ds => noCels ds
  | .exc _ _ ds => noCels ds
  | _ => true
def noCels : List DV → Bool
  | [] => true
  | d :: ds => noCel d && noCels ds
end
section
variable {C : RC} {ρ ρ' : List CellA} {A A' : Addr → Prop} {H H' : Hp}
mutual
theorem Rep.nocel (hk : ∀ a o, H a = some o → ¬ A a → NT o → H' a = some o) (ha : ∀ a, A' a → A a ∨ H a = none) : ∀ {v : V} {d : DV}, noCel d = true → Rep C ρ A H v d → Rep C ρ' A' H' v d
  | _, _, _, .non => .non
  | _, _, _, .bl b => .bl b
  | _, _, _, .int i => .int i
  | _, _, _, .str s => .str s
  | _, _, _, .ty n => .ty n
  | _, _, _, .cls c => .cls c
  | _, _, h, .lst n e r => .lst (fun z => (ha _ z).elim n fun q => by rw [e] at q; cases q) (hk _ _ e n trivial) (RepL.nocel hk ha (by simpa only [noCel] using h) r)
  | _, _, h, .tup n e r => .tup (fun z => (ha _ z).elim n fun q => by rw [e] at q; cases q) (hk _ _ e n trivial) (RepL.nocel hk ha (by simpa only [noCel] using h) r)
  | _, _, h, .ktup k r => .ktup k (RepL.nocel hk ha (by simpa only [noCel] using h) r)
  | _, _, h, .dct n e l r => .dct (fun z => (ha _ z).elim n fun q => by rw [e] at q; cases q) (hk _ _ e n trivial) l (RepL.nocel hk ha (by simpa only [noCel] using h) r)
  | _, _, h, .ins n e l r => .ins (fun z => (ha _ z).elim n fun q => by rw [e] at q; cases q) (hk _ _ e n trivial) l (RepL.nocel hk ha (by simpa only [noCel] using h) r)
  | _, _, _, .scr n e => .scr (fun z => (ha _ z).elim n fun q => by rw [e] at q; cases q) (hk _ _ e n trivial)
  | _, _, _, .kscr k => .kscr k
  | _, _, h, .cel e => by simp [noCel] at h
  | _, _, _, .opq a => .opq a
  | _, _, h, .exc n e n2 e2 l r => .exc (fun z => (ha _ z).elim n fun q => by rw [e] at q; cases q) (hk _ _ e n trivial) (fun z => (ha _ z).elim n2 fun q => by rw [e2] at q; cases q) (hk _ _ e2 n2 trivial) l (RepL.nocel hk ha (by simpa only [noCel] using h) r)
  | _, _, _, .exc0 n e => .exc0 (fun z => (ha _ z).elim n fun q => by rw [e] at q; cases q) (hk _ _ e n trivial)
theorem RepL.nocel (hk : ∀ a o, H a = some o → ¬ A a → NT o → H' a = some o) (ha : ∀ a, A' a → A a ∨ H a = none) : ∀ {vs : List V} {ds : List DV}, noCels ds = true → RepL C ρ A H vs ds → RepL C ρ' A' H' vs ds
  | _, _, _, .nil => .nil
  | _, _, h, .cons r t => by
    simp only [noCels, Bool.and_eq_true] at h
    exact .cons (Rep.nocel hk ha h.1 r) (RepL.nocel hk ha h.2 t)
end
theorem Cont.nocel {p : Addr} (hk : ∀ a o, H a = Option.some o → ¬ A a → NT o → H' a = Option.some o) (ha : ∀ a, A' a → A a ∨ H a = none) (hpp : H' p = H p) : ∀ {d : DV}, noCel d = true → Cont C ρ A H p d → Cont C ρ' A' H' p d
  | .lst _, h, ⟨xs, e, r⟩ => ⟨xs, hpp.trans e, r.nocel hk ha (by simpa only [noCel] using h)⟩
  | .dct _ _, h, ⟨xs, e, l, r⟩ => ⟨xs, hpp.trans e, l, r.nocel hk ha (by simpa only [noCel] using h)⟩
  | .ins _ _ _, h, ⟨dx, xs, e, l, r⟩ => ⟨dx, xs, hpp.trans e, l, r.nocel hk ha (by simpa only [noCel] using h)⟩
end
/-! ### an object's fields -/
def putFD (f : Str) (a : DV) : List Str → List DV → List Str × List DV
  | k :: ks, d :: ds => if k = f then (k :: ks, a :: ds) else ((k :: (putFD f a ks ds).1, d :: (putFD f a ks ds).2))
  | _, _ => ([f], [a])
section
variable {B : BC} {σ : L2.St} {ρ : List CellA} {st : DS} {H : Hp} {X : Cx} {W : WX} {ct : CT}
/-- an object's cell is written -/
theorem Step.obj {k : Nat} {c : CellA} {d d' : DV} {o : HO} (rel : Rel B ρ st σ H) (hc : ρ[k]? = some c) (hs : st.cs[k]? = some (.obj d)) (hw : WR o) (hd : Cont B.C ρ (Av ρ B.O st σ) (upd H c.main o) c.main d') :
    Step B σ ρ st H ρ ⟨st.sl, st.cs.set k (.obj d')⟩ (upd H c.main o) := by
  have inC : CM ρ c.main := ⟨c, List.mem_of_getElem? hc, .inl rfl⟩
  have q0 := rel.cel.ok k c _ hc hs
  have fr : ∀ a o', H a = some o' → ¬ CM ρ a → NT o' → upd H c.main o a = some o' := fun a o' e n _ => by
    rw [upd_ne (fun (z : a = c.main) => n (z ▸ inC))]; exact e
  have dm : ∀ a, H a ≠ none → upd H c.main o a ≠ none := fun a z => by
    by_cases h : a = c.main
    · rw [h, upd_same]; exact fun z => nomatch z
    · rw [upd_ne h]; exact z
  have mv : ∀ a, Av ρ B.O ⟨st.sl, st.cs.set k (.obj d')⟩ σ a → Av ρ B.O st σ a ∨ H a = none := fun a z => .inl z
  have fr' : ∀ a o', H a = some o' → ¬ Av ρ B.O st σ a → NT o' → upd H c.main o a = some o' := fun a o' e n => fr a o' e fun z => n (.inr (.inl z))
  have hkl : k < st.cs.length := (List.getElem?_eq_some_iff.mp hs).1
  refine ⟨List.prefix_refl _, ⟨rel.len, fun i d h => ?_, fun i d h => ?_, rel.dis, fun a z => dm a (rel.dom a z), fun a z => dm a (rel.odom a z), ⟨by rw [rel.cel.len]; simp, fun j cj x h1 h2 => ?_, rel.cel.dis⟩, fun a z => dm a (rel.cdom a z), tabs_but rel.tabs fun a o' e nw => ?_⟩, fr, fun _ _ z => z, fun _ _ b z => ⟨b, z⟩, fun _ z => .inl z, dm⟩
  · obtain ⟨v, e, q⟩ := rel.fro i d h
    exact ⟨v, e, q.mv (List.prefix_refl _) fr' mv⟩
  · obtain ⟨q, e, cc, n1, n2, n3⟩ := rel.own i d h
    exact ⟨q, e, cc.mv (List.prefix_refl _) fr' mv (upd_ne fun (z : q = c.main) => n1 (z ▸ inC)), n1, n2, n3⟩
  · by_cases hj : j = k
    · subst hj
      rw [hc] at h1
      cases h1
      have h2 : (st.cs.set j (.obj d'))[j]? = some x := h2
      rw [List.getElem?_set_self hkl] at h2
      cases h2
      exact ⟨q0.1, hd⟩
    · have h2 : (st.cs.set k (.obj d'))[j]? = some x := h2
      rw [List.getElem?_set_ne (Ne.symm hj)] at h2
      have q := rel.cel.ok j cj x h1 h2
      have keep : ∀ a, (a = cj.main ∨ a ∈ cj.more) → upd H c.main o a = H a := fun a z => upd_ne fun z' => rel.cel.dis j k cj c h1 hc hj a z (.inl z')
      cases x with
      | draw dd =>
        obtain ⟨g, l, e1, n1, n2, n3, e3, e4, e5⟩ := q
        exact ⟨g, l, e1, n1, n2, n3, (keep _ (.inl rfl)).trans e3, (keep g (.inr (by rw [e1]; simp))).trans e4, (keep l (.inr (by rw [e1]; simp))).trans e5⟩
      | obj dd => exact ⟨q.1, q.2.mv (List.prefix_refl _) fr' mv (keep _ (.inl rfl))⟩
      | dead => trivial
  · by_cases h : a = c.main
    · subst h
      refine absurd ?_ nw
      cases d with
      | lst => obtain ⟨xs, e2, _⟩ := q0.2; rw [e2] at e; cases e; trivial
      | dct => obtain ⟨xs, e2, _⟩ := q0.2; rw [e2] at e; cases e; trivial
      | ins => obtain ⟨dx, xs, e2, _⟩ := q0.2; rw [e2] at e; cases e; trivial
      | _ => exact q0.2.elim
    · rw [upd_ne h]; exact e
/-- o.f = e, o an object's cell -/
def svSetF (ct : CT) (f : Str) (fo fe : Ev) : Sv := fun st => (fe st).bind fun a st1 => (fo (st1.eat a.2)).bind fun o st2 => match o.1 with
  | .cel k => (match st2.cs[k]? with
    | some (.obj (.ins c ns vs)) => if (c, f) ∈ ct.fi ∧ ns.length < 1000 then .ok .nx ⟨st2.sl, st2.cs.set k (.obj (.ins c (putFD f a.1 ns vs).1 (putFD f a.1 ns vs).2))⟩ else .stuck
    | _ => .stuck)
  | _ => .stuck
/-- a field, of a value or of an object's cell -/
def fldC (C : CT) (f : Str) (st : DS) : DV → Option DV
  | .cel k => match st.cs[k]? with
    | some (.obj d) => fldD C f d
    | _ => none
  | d => fldD C f d
/-- e.f, where e may be an object's cell -/
def evFldC (ct : CT) (f : Str) (fa : Ev) : Ev := fun st => (fa st).bind fun a st1 => match fldC ct f st1 a.1 with
  | some d => .ok (d, if flat d = true then .new else .fro) st1
  | none => .stuck
end
end D

/-! G: __init__ by its body: self is an object's cell, then a value. -/
namespace D
open PySem L2 PyProof.Rows
section
variable {B : BC} {ρ : List CellA} {H : Hp} {cs : List CellC}
end
section
variable {C : RC} {O : Addr → Prop} {ρ ρ' : List CellA} {H0 H' : Hp} {cs : List CellC} {x dx : Addr} {c : Nat}
/-- a new object without fields -/
abbrev mkH (C : RC) (H0 : Hp) (x dx : Addr) (c : Nat) : Hp := upd (upd H0 dx (.own x)) x (.ins (C.cls c) dx [])
end
/-- the cell becomes a value -/
def iniBack (m : Nat) (st' : DS) : Out (DV × Kd) := if st'.cs.length = m + 1 ∧ (st'.cs.take m).all isDraw = true then (match st'.cs[m]? with
  | some (.obj d) => if noCel d = true then .ok (d, .new) ⟨[], st'.cs.take m⟩ else .stuck
  | _ => .stuck) else .stuck
def iniOut (m : Nat) : Out Fl → Out (DV × Kd)
  | .ok .nx st' => iniBack m st'
  | .ok (.rt .non _) st' => iniBack m st'
  | .ok _ _ => .stuck
  | .exc x st' => if st'.cs.length = m + 1 ∧ (st'.cs.take m).all isDraw = true ∧ noCels x.vs = true then .exc x ⟨[], st'.cs.take m⟩ else .stuck
  | .stuck => .stuck
/-- what __init__ with n slots and p parameters, self one of them, makes of an object of class c -/
def fnIni (n p c : Nat) (sv : Sv) : Fn := fun ds st => if ds.length + 1 = p then iniOut st.cs.length (sv ⟨startSl n (.cel st.cs.length :: ds), st.cs ++ [.obj (.ins c [] [])]⟩) else .stuck
/-- __init__'s promise: F makes the object -/
def SpI (C : RC) (c : Nat) (F : Fn) : Sp := fun vs H Q E => ∃ x dx H0 vs' Q0, vs = V.ref x :: vs' ∧ H0 x = none ∧ H0 dx = none ∧ dx ≠ x ∧ H = mkH C H0 x dx c ∧ SpF C F vs' H0 Q0 E ∧ ∀ H', Q0 (.ref x) H' → Q .non H'
section
variable {P : Program} {w : World} {mg : Str → Option Value} {base : Heap} {C : RC}
theorem SpI.len {n p c : Nat} {sv : Sv} {vs : List V} {H : Hp} {Q : VK} {E : XK} (h : SpI C c (fnIni n p c sv) vs H Q E) : vs.length = p := by
  obtain ⟨x, dx, H0, vs', Q0, rfl, hx, hdx, hne, rfl, ⟨ρ, cs, ds, O, r, rl, res⟩, hq⟩ := h
  unfold fnIni at res
  split at res
  · rename_i hl
    rw [List.length_cons, rl.length]
    exact hl
  · exact res.elim
theorem okG_raw {x qual : Str} {st : Stmt} {f : Addr} {N ps : List Str} {k : Nat} {sv : Sv} {oc dV kV doc pm cdv ct : Value} {od an : Option Addr} {osl : Array (Option Value)}
    (lk : C.K.lookup f = some ⟨oc, od, .func (PySem.W.fnOf x qual (defArgs st) (defBody st) (defScope st) dV kV doc pm an cdv ct), osl⟩) (hcd : PySem.W.codeIn C.K cdv qual = true) (S : FnScope N ps (defScope st))
    (hb : ∀ (cdv' : Value) (A : Around) (outer : List Env) (s : Shared) (H : Hp) (E : XK), (PySem.W.fnOf x qual (defArgs st) (defBody st) (defScope st) dV kV doc pm an cdv ct).code = cdv' → Room k (A.deeper (envOfC qual (defScope st) s.heap.objs.size f cdv')) → (cxOf (L2.CX P w) P w C.K mg base N qual (defScope st) f cdv' A outer s H E).A.guards = some [] →
      ∀ O, PSsD (cxOf (L2.CX P w) P w C.K mg base N qual (defScope st) f cdv' A outer s H E) ⟨C, O, H⟩ (fun cls d _ H' => E cls d H') (defBody st) sv) :
    FnG P w C.K mg base (k + 1) f (PySem.W.fnOf x qual (defArgs st) (defBody st) (defScope st) dV kV doc pm an cdv ct) ps (SpF C (fnSv N.length ps.length sv)) := by
  refine fnG_of lk hcd S (fun vs H Q E h => h.len) fun A outer s H vs Q E hr hg h => ?_
  obtain ⟨ρ, cs, ds, O, r, rl, res⟩ := h
  refine ⟨_, hb cdv A outer s H E rfl hr (by first | exact (deeper_guards _ _).trans hg | exact hg) O, ρ, ⟨startSl N.length ds, cs⟩, Rel.start r rl, ?_⟩
  have noOwn : ∀ i a, ¬ ownAt ⟨startSl N.length ds, cs⟩ (L2.start N vs) i a := fun i a ⟨d, h, _⟩ => startSl_own h
  unfold fnSv at res
  split at res
  case isFalse => exact res.elim
  cases e : sv ⟨startSl N.length ds, cs⟩ with
  | stuck => rw [e] at res; exact res
  | exc x st' =>
    rw [e] at res
    intro σ' ρ' H' cls d s1 xr
    refine res ρ' H' cls d (Step.done noOwn s1) ?_
    obtain ⟨e1, xr⟩ := xr
    refine ⟨e1, ?_⟩
    rcases xr with xr | ⟨a, vs, h1, h2, h3, h4, h5⟩
    · exact .inl xr
    · exact .inr ⟨a, vs, h1, fun z => h2 (av_done z), h3, h4, h5.mv (List.prefix_refl _) (fun _ _ e _ _ => e) fun a z => .inl (av_done z)⟩
  | ok fl st' =>
    rw [e] at res
    intro σ' ρ' H' s1
    have sd := Step.done noOwn s1
    cases fl with
    | bk => exact res.elim
    | ct => exact res.elim
    | nx => exact (res ρ' H' sd).2 .non .non (fun _ p e => nomatch e) fun p e => nomatch e
    | rt d kd =>
      intro v rv fv
      have mv : ∀ a, Av ρ' O ⟨[], st'.cs⟩ [] a → Av ρ' O st' σ' a ∨ H' a = none := fun a z => .inl (av_done z)
      cases kd with
      | fro => exact (res ρ' H' sd).2 v (Rep.mv (List.prefix_refl _) (fun _ _ e _ _ => e) mv rv) (fun z => nomatch z) trivial
      | new =>
        refine (res ρ' H' sd).2 v (Rep.mv (List.prefix_refl _) (fun _ _ e _ _ => e) mv rv.1) (fun _ p ep hc => ?_) fun p ep => fv rfl p ep
        exact (rv.2 p ep hc).mv (List.prefix_refl _) (fun _ _ e _ _ => e) (fun a z => z.elim (fun z => .inl (.inl (av_done z))) fun z => .inl (.inr z)) rfl
      | view i =>
        obtain ⟨p, rfl, es, c, n1, n2, u, n3⟩ := rv
        have npa : ¬ Av ρ' O ⟨[], st'.cs⟩ [] p := fun z => by
          rcases z with z | z | ⟨i, d, z, _⟩
          · exact n2 z
          · exact n1 z
          · simp at z
        have rp : Rep C ρ' (Av ρ' O ⟨[], st'.cs⟩ []) H' (.ref p) d := Cont.rep (A' := Av ρ' O ⟨[], st'.cs⟩ []) (fun a z => av_done z) npa c
        refine (res ρ' H' sd).2 _ rp (fun hk q eq hc => ?_) ?_
        · cases eq
          dsimp only at hk
          split at hk
          · rename_i d' hs
            have ow : ownAt st' σ' i p := ⟨d', hs, es⟩
            exact c.mv (List.prefix_refl _) (fun _ _ e _ _ => e) (fun a z => .inl (z.elim (fun z => av_done z) fun z => by subst z; exact .inr (.inr ⟨i, ow⟩))) rfl
          · cases hk
        · dsimp only
          split
          · exact fun q eq => by cases eq; exact n3
          · trivial
end
end D

/-! G: defs with defaults; calls by position and by keywords; class calls, methods, properties. -/
namespace D
open PySem L2 PyProof.Rows
abbrev FunX (K : PySem.W.Frag) (x qual : Str) (st : Stmt) (dvs : List V) (kws : List (Str × V)) (f : Addr) (fd : FuncData) : Prop := FunD K x qual (defArgs st) (defBody st) (defScope st) dvs kws f fd
theorem FunX.of {K : PySem.W.Frag} {x qual : Str} {st : Stmt} {f : Addr} {fd : FuncData} (F : Fun K x qual st f fd) : FunX K x qual st [] [] f fd := by
  obtain ⟨oc, od, kV, doc, pm, an, cdv, ct, osl, h1, lk, hcd⟩ := F.ex
  exact ⟨⟨oc, od, .none, kV, doc, pm, an, cdv, ct, osl, h1, lk, hcd, .inl ⟨rfl, rfl⟩, .inl rfl⟩, F.kp⟩
section
variable {P : Program} {w : World} {mg : Str → Option Value} {base : Heap} {C : RC} {x qual : Str} {st : Stmt} {f : Addr} {fd : FuncData} {N ps : List Str} {k c : Nat} {sv : Sv} {dvs : List V} {kws : List (Str × V)}
theorem FunX.okG (F : FunX C.K x qual st dvs kws f fd) (S : FnScope N ps (defScope st))
    (hb : ∀ (cdv : Value) (A : Around) (outer : List Env) (s : Shared) (H : Hp) (E : XK), fd.code = cdv → Room k (A.deeper (envOfC qual (defScope st) s.heap.objs.size f cdv)) → (cxOf (L2.CX P w) P w C.K mg base N qual (defScope st) f cdv A outer s H E).A.guards = some [] →
      ∀ O, PSsD (cxOf (L2.CX P w) P w C.K mg base N qual (defScope st) f cdv A outer s H E) ⟨C, O, H⟩ (fun cls d _ H' => E cls d H') (defBody st) sv) :
    FnG P w C.K mg base (k + 1) f fd ps (SpF C (fnSv N.length ps.length sv)) := by
  obtain ⟨oc, od, dV, kV, doc, pm, an, cdv, ct, osl, rfl, lk, hcd, _, _⟩ := F.ex
  exact okG_raw lk hcd S hb
end
/-! ### binding -/
section
variable {K : PySem.W.Frag} {x qual : Str} {params : Arguments} {body : List Stmt} {scope : Scope} {dvs : List V} {kws : List (Str × V)} {f : Addr} {fd : FuncData} {ps : List Str}
end
/-! ### the written arguments -/
section
variable {X : Cx} {e : Expr} {es : List Expr} {kws : List Keyword} {pos : Pos} {ks : List Str} {t tk : TA}
end
/-- the written ones, arranged -/
def akArr (π : List Nat) (n m : Nat) (dds : List DV) (ge gk : Ak) : Ak := fun st => (ge st).bind fun as st1 => (gk st1).bind fun bs st2 => if as.length = n ∧ bs.length = m then (match permL π (as ++ (bs ++ dds.map fun d => (d, Kd.fro))) with
  | some cs => .ok cs st2
  | none => .stuck) else .stuck
theorem RepKs.len {B : BC} {ρ : List CellA} {st : DS} {σ : L2.St} {H : Hp} {xs : List V} {as : List (DV × Kd)} (r : RepKs B ρ st σ H xs as) : xs.length = as.length := by
  induction r with
  | nil => rfl
  | cons _ _ ih => simp [ih]
section
variable {B : BC} {W : WX} {σ : L2.St} {H : Hp} {π : List Nat} {n m : Nat} {dds : List DV} {dvs : List V} {ge gk : Ak}
end
section
variable {X : Cx} {k : Nat} {f : Addr} {fd : FuncData} {ps ks : List Str} {π : List Nat} {sp : Sp} {dvs : List V} {ds : List Value} {E : L2.St → XK} {x : Str} {p pos : Pos} {es : List Expr} {kws : List Keyword} {t tk : TA} {n : Nat}
end
end D

/-! G: D's rules for calls with arranged arguments, class calls, methods, properties. -/
namespace D
open PySem L2 PyProof.Rows
section
variable {X : Cx} {B : BC} {W : WX} {σ : L2.St} {H : Hp} {Q : VK} {F : Fn} {π : List Nat} {n m : Nat} {dds : List DV} {dvs : List V} {ge gk : Ak}
end
section
variable {X : Cx} {k : Nat} {f : Addr} {fd : FuncData} {ps ks : List Str} {π : List Nat} {sp : Sp} {dvs : List V} {ds : List Value} {E : L2.St → XK} {x : Str} {p pos : Pos} {es : List Expr} {kws : List Keyword} {t tk : TA} {n : Nat}
end
/-! ### methods -/
/-- the class of an object, its fields' names -/
def insOf (st : DS) : DV → Option (Nat × List Str)
  | .ins c ns _ => some (c, ns)
  | .cel k => match st.cs[k]? with
    | some (.obj (.ins c ns _)) => some (c, ns)
    | _ => none
  | _ => none
abbrev MTab (α : Type) := Nat → Option (List Nat × List α × Fn)
/-- the arranged ones behind an object -/
def akArrO (a : DV × Kd) (π : List Nat) (n m : Nat) (dds : List DV) (ge gk : Ak) : Ak := fun st => (ge st).bind fun as st1 => (gk st1).bind fun bs st2 => if as.length = n ∧ bs.length = m then (match permL π ((a :: as) ++ (bs ++ dds.map fun d => (d, Kd.fro))) with
  | some cs => .ok cs st2
  | none => .stuck) else .stuck
def evMth (L : MTab DV) (mn : Str) (n m : Nat) (fo : Ev) (ge gk : Ak) : Ev := fun st => (fo st).bind fun a st1 => match insOf st1 a.1 with
  | some (c, ns) => if ns.contains mn = true then .stuck else (match L c with
    | some (π, dds, F) => (akArrO a π n m dds ge gk st1).bind fun as st2 => backTo' st2.sl as (F (as.map (·.1)) ⟨[], st2.cs⟩)
    | none => .stuck)
  | none => .stuck
section
variable {X : Cx} {C : RC} {k n : Nat} {ks : List Str} {E : L2.St → XK} {mn : Str} {apos pos : Pos} {o : Expr} {es : List Expr} {kws : List Keyword} {to : TE} {t tk : TA} {L : MTab DV}
end
section
variable {B : BC} {W : WX} {σ : L2.St} {H : Hp} {Q : VK} {n m : Nat} {ge gk : Ak} {fo : Ev} {L : MTab DV} {mn : Str}
end
/-! ### properties -/
abbrev PTab := Nat → Option Fn
def evPrp (L : PTab) (fo : Ev) : Ev := fun st => (fo st).bind fun a st1 => match insOf st1 a.1 with
  | some (c, ns) => (match L c with
    | some F => (match F [a.1] ⟨[], st1.cs⟩ with
      | .ok r st2 => backTo' st1.sl [a] (.ok r st2)
      | _ => .stuck)
    | none => .stuck)
  | none => .stuck
section
variable {X : Cx} {C : RC} {k : Nat} {pn : Str} {pos : Pos} {o : Expr} {to : TE} {L : PTab}
variable {B : BC} {W : WX} {σ : L2.St} {H : Hp} {Q : VK} {fo : Ev}
end
end D

/-! G: own == and != (a def without memory). -/
namespace GNe
open PySem PySem.Spec PyProof.Rows PySem.SeqAt
section
variable {M : Model} {prog : Program} {w : World} {A : Around} {E : Value → Shared → Prop} {s : Shared} {K : PySem.W.Frag} {x C f h0 : Addr} {ox : Obj} {od : Option Obj} {b tb : Value}
end
end GNe
namespace D
open PySem L2 PyProof.Rows
/-- things are only added -/
structure Grow (T : List (Addr × Str)) (H H' : Hp) : Prop where
  fr : ∀ a o, H a = some o → NT o → H' a = some o
  dm : ∀ a, H a ≠ none → H' a ≠ none
  tabs : LamX.Tabs T H'
theorem Grow.refl {T : List (Addr × Str)} {H : Hp} (t : LamX.Tabs T H) : Grow T H H := ⟨fun _ _ e _ => e, fun _ z => z, t⟩
theorem Grow.trans {T : List (Addr × Str)} {H H1 H2 : Hp} (a : Grow T H H1) (b : Grow T H1 H2) : Grow T H H2 := ⟨fun x o e n => b.fr x o (a.fr x o e n) n, fun x z => b.dm x (a.dm x z), b.tabs⟩
section
variable {B : BC} {σ : L2.St} {ρ : List CellA} {st : DS} {H H' : Hp}
/-- nothing is held, nothing is shared, all that is is kept away -/
theorem Rel.bare (rel : Rel B ρ st σ H) : Rel ⟨B.C, Av ρ B.O st σ, H⟩ [] ⟨[], []⟩ [] H := by
  refine ⟨rfl, fun i d h => by simp at h, fun i d h => by simp at h, fun i j p h => by obtain ⟨d, h, _⟩ := h; simp at h, fun a z => z, fun a z => ?_, ⟨rfl, fun k c x h1 => by simp at h1, fun i j c c' h1 => by simp at h1⟩, fun a z => by obtain ⟨c, hc, _⟩ := z; simp at hc, rel.tabs⟩
  rcases z with z | z | ⟨i, d, h1, h2⟩
  · exact rel.odom a z
  · exact rel.cdom a z
  · obtain ⟨p, e, c, _⟩ := rel.own i d h1
    rw [h2] at e
    cases e
    exact c.some
theorem av_bare {O : Addr → Prop} {a : Addr} (z : Av [] O ⟨[], []⟩ [] a) : O a := by
  rcases z with z | z | ⟨i, d, h1, _⟩
  · exact z
  · obtain ⟨c, hc, _⟩ := z; simp at hc
  · simp at h1
theorem Rep.bare {C : RC} {A : Addr → Prop} {v : V} {d : DV} (h : noCel d = true) (r : Rep C ρ A H v d) : Rep C [] (Av [] A ⟨[], []⟩ []) H v d := r.nocel (fun _ _ e _ _ => e) (fun a z => .inl (av_bare z)) h
end
structure Two (C : RC) (O : Addr → Prop) (H : Hp) (x y : V) (a b : DV) : Prop where
  rel : Rel ⟨C, O, H⟩ [] ⟨[], []⟩ [] H
  rx : Rep C [] (Av [] O ⟨[], []⟩ []) H x a
  ry : Rep C [] (Av [] O ⟨[], []⟩ []) H y b
section
variable {X : Cx} {C : RC} {ct : CT} {k : Nat} {L : PTab}
theorem Two.ins {O : Addr → Prop} {H : Hp} {x y : V} {c : Nat} {ns : List Str} {ds : List DV} {b : DV} (t : Two C O H x y (.ins c ns ds) b) : ∃ p dx xs, x = .ref p ∧ H p = some (.ins (C.cls c) dx (ns.zip xs)) := by
  have r := t.rx
  cases r with
  | ins n e l q => exact ⟨_, _, _, rfl, e⟩
end
end D

/-! G: dicts written, dict(d), xs.append(ys.pop(i)). -/
namespace D
open PySem L2 PyProof.Rows
/-! ### d[k] = v -/
def putDK (k : Key) (a : DV) : List Key → List DV → List Key × List DV
  | j :: ks, d :: ds => if j = k then (j :: ks, a :: ds) else (j :: (putDK k a ks ds).1, d :: (putDK k a ks ds).2)
  | _, _ => ([k], [a])
section
variable {X : Cx} {B : BC} {W : WX} {i : Nat}
def svSetD (i : Nat) (fi fe : Ev) : Sv := fun st => match st.sl[i]? with
  | some (some (.dct _ _, true)) => (fe st).bind fun a st1 => (fi (st1.eat a.2)).bind fun j st2 => (match st2.sl[i]?, keyD j.1 with
    | some (some (.dct ks ds, true)), some k => if ks.Nodup ∧ ks.length < sizeLine then .ok .nx ⟨st2.sl.set i (some (.dct (putDK k a.1 ks ds).1 (putDK k a.1 ks ds).2, true)), st2.cs⟩ else .stuck
    | _, _ => .stuck)
  | _ => .stuck
end
section
variable {X : Cx} {C : RC} {W : WX} {O : Addr → Prop} {H0 : Hp} {x : Str} {pos p1 p2 : Pos} {e ie : Expr} {fe fi : Ev} {k : Nat}
end
/-! ### dict(d) -/
section
variable {X : Cx} {C : RC} {W : WX} {O : Addr → Prop} {H0 : Hp} {pos p : Pos} {e : Expr} {gk : Ak} {k : Nat}
end
/-! ### xs.append(ys.pop(i)), both own -/
def svAppPop (i j : Nat) (fe : Ev) : Sv := fun st => match st.sl[i]?, st.sl[j]? with
  | some (some (.lst _, true)), some (some (.lst _, true)) => if i = j then .stuck else (fe st).bind fun a st1 => (match st1.sl[i]?, st1.sl[j]?, a.1 with
    | some (some (.lst ds, true)), some (some (.lst es, true)), .int z => if -(2 ^ 63) ≤ z ∧ z < 2 ^ 63 ∧ ds.length < sizeLine then (match seqIndex? z es.length with
      | some n => (match es[n]? with
        | some d => .ok .nx ⟨(st1.sl.set j (some (.lst (es.eraseIdx n), true))).set i (some (.lst (ds ++ [d]), true)), st1.cs⟩
        | none => .stuck)
      | none => .stuck) else .stuck
    | _, _, _ => .stuck)
  | _, _ => .stuck
section
variable {X : Cx} {B : BC} {W : WX} {i j : Nat}
end
section
variable {X : Cx} {C : RC} {W : WX} {O : Addr → Prop} {H0 : Hp} {x y : Str} {p1 p3 apos cpos apos2 cpos2 pos : Pos} {e : Expr} {fe : Ev} {k : Nat}
end
end D

/-! G: a new list of values without containers does not hold what was looked at: own lists stay own. -/
namespace D
open PySem L2 PyProof.Rows
section
variable {C : RC} {ρ : List CellA} {A A' : Addr → Prop} {H : Hp}
end
section
variable {X : Cx} {B : BC} {W : WX} {e : Expr} {f : Ev}
end
end D

/-! G: own errors with an own __init__: the call of the base class's __init__, an own class without one. -/
namespace D
open PySem L2 PyProof.Rows ClX
section
variable {X : Cx} {x : Str} {C : Addr} {mc : Value} {e : Expr} {es : List Expr} {ta : TA} {p1 p2 pos : Pos}
theorem pe_aini {pl : Sem Bool} (hg : Gl X x) (hm : X.mg x = some (.ref C)) (r : CRead X.K C mc) (vV : PySem.W.findCls X.K (.ref C) mc "__init__" = some (.val (.builtin "ValueError.__init__"))) (ha : PA X (e :: es) ta)
    (hdb : (x == ("__debug__" : Str)) = false := by decide)
    (hc : eval (.Call (.Attribute (.Name x p1) "__init__" p2) (e :: es) [] pos) X.env = (do
      let ov ← eval (.Name x p1) X.env
      standAt p2.atName
      let (f, first) ← holding [ov] (getMethod ov "__init__" pl)
      callWith pos f first (backTo pos (starEach (e :: es) X.env)) (backToKw pos (keywordEach [] X.env))) := by rfl)
    (he : starEach (e :: es) X.env = (false, eval e X.env) :: starEach es X.env := by rfl) (hpl : (backTo pos (starEach es X.env)).any (·.1) = false := by rfl) :
    PE X (.Call (.Attribute (.Name x p1) "__init__" p2) (e :: es) [] pos) (tVeI X.K ta) := by
  refine ⟨fun pins s σ H Q I h => ?_⟩
  refine PySem.W.methodCall_KW (ld_glob I hg hm ?_ hdb) hc
  refine PySem.W.method_cls I.kIn r.ga (PySem.W.cls_value I.kIn r.rd vV (by decide +kernel) ?_)
  show wpAny _ _ (callWith pos (Value.builtin "ValueError.__init__") [] (backTo pos (starEach (e :: es) X.env)) []) _ _ _
  refine PyProof.Rows.callWith_method1 (thn (ha.run pos pins _ σ H _ ((I.tok _).tok _) h) fun us s1 ⟨vs, H1, I1, r1, a, C, ws, ev, hl, T, ea, q⟩ => ?_) he hpl
  subst ev
  cases r1 with
  | @cons _ u0 _ ur ra rw' =>
    obtain rfl : u0 = Value.ref a := ra
    have hlen : ur.length ≤ sizeLine := by
      rw [← Paired.length rw', sizeLine_eq]
      omega
    exact oinit_ok T I1 ea hlen fun s' J => ⟨.non, H1, J, rfl, q⟩
end
/-! ### raise C(e, ..), C with an own __init__ that keeps its arguments in fields -/
/-- what such an __init__ promises: the fields fs hold the arguments, in order -/
def SpX (K : PySem.W.Frag) (C : Addr) (fs : List Str) : Sp := fun vs H Q _ => ∃ a ws, vs = V.ref a :: ws ∧ ws.length = fs.length ∧ OexC K C ∧ H a = some (exo a C none) ∧
  ∀ H2 d, H d = none → d ≠ a → (∀ b, b ≠ a → b ≠ d → H2 b = H b) → H2 a = some (exo a C (some d)) → H2 d = some (exd d (fs.zip ws).reverse) → Q .non H2
def svRaiseX (c : Nat) (fs : List Str) (g : Ak) : Sv := fun st => (g st).bind fun as st1 => if as.length = fs.length then .exc ⟨c, fs.reverse, (as.map (·.1)).reverse⟩ (eatAll st1 as) else .stuck
section
variable {X : Cx} {B : BC} {W : WX} {c k : Nat} {x : Str} {fI : Addr} {fd : FuncData} {ps : List Str} {ds : List Value} {fs : List Str} {e : Expr} {es : List Expr} {g : Ak} {p p2 pos : Pos}
theorem repL_rev {C : RC} {ρ : List CellA} {A : Addr → Prop} {H : Hp} : ∀ {vs : List V} {ds : List DV}, RepL C ρ A H vs ds → RepL C ρ A H vs.reverse ds.reverse
  | _, _, .nil => .nil
  | _, _, .cons r t => by
    rw [List.reverse_cons, List.reverse_cons]
    exact (repL_rev t).append (.cons r .nil)
theorem zip_rev {α β : Type} : ∀ (as : List α) (bs : List β), as.length = bs.length → (as.zip bs).reverse = as.reverse.zip bs.reverse
  | [], [], _ => rfl
  | a :: as, b :: bs, h => by
    rw [List.zip_cons_cons, List.reverse_cons, List.reverse_cons, List.reverse_cons, zip_rev as bs (by simpa using h), List.zip_append (by simpa using h)]
    rfl
  | [], _ :: _, h => by simp at h
  | _ :: _, [], h => by simp at h
end
/-! ### the walk of such an __init__: one field, two fields -/
def tX1 (K : PySem.W.Frag) (m : Str) (f : Str) : TS := tSeq (tDrop (tVeI K (tCons (tVar 0) (tCons (tC (.str m)) tNil)))) (tSeq (tOst K f (tVar 0) (tVar 1)) tNext)
def tX2 (K : PySem.W.Frag) (m : Str) (f g : Str) : TS := tSeq (tDrop (tVeI K (tCons (tVar 0) (tCons (tC (.str m)) tNil)))) (tSeq (tOst K f (tVar 0) (tVar 1)) (tSeq (tOst K g (tVar 0) (tVar 2)) tNext))
section
variable {P : Program} {w : World} {K : PySem.W.Frag} {mg : Str → Option Value} {base : Heap} {k : Nat} {f : Addr} {qual name : Str} {params : Arguments} {body : List Stmt} {scope : Scope} {dV kV doc pm cdv ct oc : Value} {an od : Option Addr}
  {osl : Array (Option Value)} {N ps : List Str} {C : Addr} {m fa fb : Str}
theorem SpX.len {fs : List Str} {vs : List V} {H : Hp} {Q : VK} {E : XK} (h : SpX K C fs vs H Q E) : vs.length = fs.length + 1 := by
  obtain ⟨a, ws, rfl, h1, _⟩ := h
  rw [List.length_cons, h1]
theorem tX1_ok {N : List Str} {vs : List V} {H : Hp} {Q : VK} {E : XK} (hno : PySem.W.findIn K (.ref C) fa = some none) (h : SpX K C [fa] vs H Q E) : tX1 K m fa { nx := fun _ H' => Q .non H', rt := Q } (start N vs) H := by
  obtain ⟨a, ws, rfl, h1, T, ha, hq⟩ := h
  cases ws with
  | nil => cases h1
  | cons y r =>
    cases r with
    | cons _ _ => simp at h1
    | nil =>
      refine ⟨.ref a, rfl, a, C, [.str m], rfl, by simp, T, ha, ?_⟩
      refine ⟨y, rfl, .ref a, rfl, a, C, rfl, T, hno, .inl ⟨ha, fun d hd hne => ?_⟩⟩
      refine hq _ d hd hne (fun b h1 h2 => by rw [upd_ne h1, upd_ne h2]) upd_same ?_
      rw [upd_ne hne, upd_same]
      rfl
theorem tX2_ok {N : List Str} {vs : List V} {H : Hp} {Q : VK} {E : XK} (hno : PySem.W.findIn K (.ref C) fa = some none) (hno2 : PySem.W.findIn K (.ref C) fb = some none) (h : SpX K C [fa, fb] vs H Q E) : tX2 K m fa fb { nx := fun _ H' => Q .non H', rt := Q } (start N vs) H := by
  obtain ⟨a, ws, rfl, h1, T, ha, hq⟩ := h
  match ws, h1 with
  | [y, z], _ =>
    refine ⟨.ref a, rfl, a, C, [.str m], rfl, by simp, T, ha, ?_⟩
    refine ⟨y, rfl, .ref a, rfl, a, C, rfl, T, hno, .inl ⟨ha, fun d hd hne => ?_⟩⟩
    refine ⟨z, rfl, .ref a, rfl, a, C, rfl, T, hno2, .inr ⟨d, [(fa, y)], upd_same, by rw [upd_ne hne, upd_same], by simp, ?_⟩⟩
    refine hq _ d hd hne (fun b h1 h2 => by rw [upd_ne h2, upd_ne h1, upd_ne h2]) (by rw [upd_ne (Ne.symm hne), upd_same]) ?_
    rw [upd_same]
    rfl
theorem okX1 (lk : K.lookup f = some ⟨oc, od, .func (PySem.W.fnOf name qual params body scope dV kV doc pm an cdv ct), osl⟩) (hcd : PySem.W.codeIn K cdv qual = true) (S : FnScope N ps scope) (hp : ps.length = 2) (hno : PySem.W.findIn K (.ref C) fa = some none)
    (hb : ∀ (A : Around) (outer : List Env) (s : Shared) (H : Hp) (E : XK), PSs (cxOf (L2.CX P w) P w K mg base N qual scope f cdv A outer s H E) body (tX1 K m fa)) :
    FnOk P w K mg base (L2.CX P w) (k + 1) f (PySem.W.fnOf name qual params body scope dV kV doc pm an cdv ct) ps (SpX K C [fa]) :=
  fn_of lk hcd S (fun vs H Q E h => by rw [h.len, hp]; rfl) fun A outer s H vs Q E hr h => ⟨_, hb A outer s H E, tX1_ok hno h⟩
theorem okX2 (lk : K.lookup f = some ⟨oc, od, .func (PySem.W.fnOf name qual params body scope dV kV doc pm an cdv ct), osl⟩) (hcd : PySem.W.codeIn K cdv qual = true) (S : FnScope N ps scope) (hp : ps.length = 3) (hno : PySem.W.findIn K (.ref C) fa = some none) (hno2 : PySem.W.findIn K (.ref C) fb = some none)
    (hb : ∀ (A : Around) (outer : List Env) (s : Shared) (H : Hp) (E : XK), PSs (cxOf (L2.CX P w) P w K mg base N qual scope f cdv A outer s H E) body (tX2 K m fa fb)) :
    FnOk P w K mg base (L2.CX P w) (k + 1) f (PySem.W.fnOf name qual params body scope dV kV doc pm an cdv ct) ps (SpX K C [fa, fb]) :=
  fn_of lk hcd S (fun vs H Q E h => by rw [h.len, hp]; rfl) fun A outer s H vs Q E hr h => ⟨_, hb A outer s H E, tX2_ok hno hno2 h⟩
end
/-! ### the rule in short -/
theorem passesF {X : Cx} : Passes (L2.CX X.prog X.w) X (fun _ _ _ => False) := fun _ _ _ _ _ _ _ z => by
  obtain ⟨_, _, _, _, _, _, _, _, _, _, _, _, z⟩ := z
  exact z.elim
/-- what is known of an own error's class at index c whose __init__ keeps its arguments in the fields fs -/
structure XK1 (P : Program) (w : World) (K : PySem.W.Frag) (mg : Str → Option Value) (base : Heap) (k : Nat) (C : Addr) (fs : List Str) : Prop where
  T : OexC K C
  ex : ∃ fI fd ps, PySem.W.findIn K (.ref C) "__init__" = some (some (.ref fI)) ∧ PySem.W.typeIn K (.ref fI) = some (.type "function") ∧ FnOk P w K mg base (L2.CX P w) k fI fd ps (SpX K C fs) ∧ Binds K fd ps []
theorem XK1.mono {P : Program} {w : World} {K : PySem.W.Frag} {mg : Str → Option Value} {base : Heap} {j k : Nat} {C : Addr} {fs : List Str} (h : XK1 P w K mg base j C fs) (hj : j ≤ k) : XK1 P w K mg base k C fs := by
  obtain ⟨T, fI, fd, ps, h1, h2, F, hb⟩ := h
  exact ⟨T, fI, fd, ps, h1, h2, F.mono hj, hb⟩
end D

/-! G: own classes, the rules in short: class calls, methods, properties, own == and != beside the plain ones. -/
namespace D
open PySem L2 PyProof.Rows
section
variable {X : Cx} {B : BC} {W : WX} {e : Expr} {es : List Expr} {kws : List Keyword} {pos : Pos} {ks : List Str} {ge gk : Ak} {σ : L2.St} {H : Hp}
theorem RK.mono {g : Ak} {Q Q' : List V → Hp → Prop} (h : RK B W g σ H Q) (m : ∀ vs H, Q vs H → Q' vs H) : RK B W g σ H Q' := by
  obtain ⟨ρ, st, rel, r⟩ := h
  exact ⟨ρ, st, rel, r.imp fun _ _ _ _ _ g vs rv => m _ _ (g vs rv)⟩
theorem RK.nil {Q : List V → Hp → Prop} (h : RK B W akNil σ H Q) : Q [] H := by
  obtain ⟨ρ, st, rel, r⟩ := h
  exact Res.now rel r [] .nil
end
section
variable {X : Cx} {C : RC} {O : Addr → Prop} {H0 : Hp} {W : WX} {k l n : Nat} {o : Expr} {es : List Expr} {kws : List Keyword} {pos p apos : Pos} {x mn pn : Str} {ks : List Str} {ge gk : Ak} {fo : Ev} {F : Fn} {f : Addr} {fd : FuncData} {ps : List Str} {π : List Nat} {dds : List DV}
end
/-- a def with defaults -/
def FunY (K : PySem.W.Frag) (x qual : Str) (st : Stmt) (f : Addr) (fd : FuncData) : Prop := ∃ dvs kws, FunX K x qual st dvs kws f fd
section
variable {P : Program} {w : World} {mg : Str → Option Value} {base : Heap} {C : RC} {x qual : Str} {st : Stmt} {f : Addr} {fd : FuncData} {N ps : List Str} {k c : Nat} {sv : Sv}
theorem FunY.kp {K : PySem.W.Frag} (F : FunY K x qual st f fd) : PySem.W.keepIn K (.ref f) = true := by
  obtain ⟨_, _, F⟩ := F
  exact F.kp
theorem FunY.okG (F : FunY C.K x qual st f fd) (S : FnScope N ps (defScope st))
    (hb : ∀ (cdv : Value) (A : Around) (outer : List Env) (s : Shared) (H : Hp) (E : XK), fd.code = cdv → Room k (A.deeper (envOfC qual (defScope st) s.heap.objs.size f cdv)) → (cxOf (L2.CX P w) P w C.K mg base N qual (defScope st) f cdv A outer s H E).A.guards = some [] →
      ∀ O, PSsD (cxOf (L2.CX P w) P w C.K mg base N qual (defScope st) f cdv A outer s H E) ⟨C, O, H⟩ (fun cls d _ H' => E cls d H') (defBody st) sv) :
    FnG P w C.K mg base (k + 1) f fd ps (SpF C (fnSv N.length ps.length sv)) := by
  obtain ⟨_, _, F⟩ := F
  exact FunX.okG F S hb
/-- an own error's __init__ -/
theorem xk_of1 {K : PySem.W.Frag} {Ca : Addr} {m fa : Str} (hno : PySem.W.findIn K (.ref Ca) fa = some none) (F : Fun K x qual st f fd) (S : FnScope N ps (defScope st)) (hp : ps.length = 2) (T : OexC K Ca)
    (i : PySem.W.findIn K (.ref Ca) "__init__" = some (some (.ref f))) (t : PySem.W.typeIn K (.ref f) = some (.type "function")) (b : Binds K fd ps [])
    (hb : ∀ (cdv : Value) (A : Around) (outer : List Env) (s : Shared) (H : Hp) (E : XK), PSs (cxOf (L2.CX P w) P w K mg base N qual (defScope st) f cdv A outer s H E) (defBody st) (tX1 K m fa)) : XK1 P w K mg base 1 Ca [fa] := by
  obtain ⟨oc, od, kV, doc, pm, an, cdv, ct, osl, rfl, lk, hcd⟩ := F.ex
  exact ⟨T, f, _, ps, i, t, okX1 lk hcd S hp hno fun A outer s H E => hb _ A outer s H E, b⟩
theorem xk_of2 {K : PySem.W.Frag} {Ca : Addr} {m fa fb : Str} (hno : PySem.W.findIn K (.ref Ca) fa = some none) (hno2 : PySem.W.findIn K (.ref Ca) fb = some none) (F : Fun K x qual st f fd) (S : FnScope N ps (defScope st)) (hp : ps.length = 3) (T : OexC K Ca)
    (i : PySem.W.findIn K (.ref Ca) "__init__" = some (some (.ref f))) (t : PySem.W.typeIn K (.ref f) = some (.type "function")) (b : Binds K fd ps [])
    (hb : ∀ (cdv : Value) (A : Around) (outer : List Env) (s : Shared) (H : Hp) (E : XK), PSs (cxOf (L2.CX P w) P w K mg base N qual (defScope st) f cdv A outer s H E) (defBody st) (tX2 K m fa fb)) : XK1 P w K mg base 1 Ca [fa, fb] := by
  obtain ⟨oc, od, kV, doc, pm, an, cdv, ct, osl, rfl, lk, hcd⟩ := F.ex
  exact ⟨T, f, _, ps, i, t, okX2 lk hcd S hp hno hno2 fun A outer s H E => hb _ A outer s H E, b⟩
end
section
variable {X : Cx} {C : RC} {O : Addr → Prop} {H0 : Hp} {W : WX} {k : Nat} {a b : Expr} {fa fb : Ev} {pos : Pos} {ct : CT}
end
end D

/-! G: x in o, o of an own class with a __contains__. -/
namespace GIn
open PySem PySem.Spec PyProof.Rows PySem.SeqAt
section
variable {M : Model} {A : Around} {E : Value → Shared → Prop} {s : Shared} {K : PySem.W.Frag} {x C f : Addr} {ox : Obj} {od : Option Obj}
end
end GIn
namespace D
open PySem L2 PyProof.Rows
section
variable {X : Cx} {C : RC} {k : Nat} {L : PTab}
end
section
variable {X : Cx} {C : RC} {O : Addr → Prop} {H0 : Hp} {W : WX} {k : Nat} {a b : Expr} {fa fb : Ev} {pos : Pos}
end
end D

/-! G: len({elt for target in iter}), the elements numbers and texts. -/
namespace D
open PySem L2 PyProof.Rows
def memK (ks : List Key) (k : Key) : Bool := ks.any fun j => decide (j = k)
def insK (ks : List Key) (k : Key) : List Key := if memK ks k = true then ks else ks ++ [k]
section
variable {X : Cx} {pins : List (Addr × Obj)} {σ : L2.St} {elt tg iter : Expr} {scope : Scope} {own : List (Str × Nat)} {pos : Pos} {g : TG} {te : TE}
end
end D

/-! G: len({elt for target in iter}) in D. -/
namespace D
open PySem L2 PyProof.Rows
def setL (ds : List DV) : List Key := (ds.filterMap keyD).foldl insK []
/-- a key or nothing -/
def evKey (fe : Ev) : Ev := fun st => (fe st).bind fun a st1 => if (keyD a.1).isSome = true then .ok a st1 else .stuck
def evLenSc (vs : List Nat) (fi : Iv) (g : Gv) (fe : Ev) : Ev := fun st => (fi st).bind fun ds st1 => if ds.length + 1 < scanBound then (match lcGo vs g tvYes (evKey fe) ds [] (st1.dropAll vs) with
  | some r => .ok (.int (setL r.1).length, .new) r.2
  | none => .stuck) else .stuck
section
variable {B : BC} {σ : L2.St} {ρ : List CellA} {st : DS} {H : Hp} {p : Addr}
end
section
variable {B : BC} {σ : L2.St} {W : WX} {H : Hp} {vs : List Nat} {P : Program} {w : World}
end
section
variable {X : Cx} {C : RC} {O : Addr → Prop} {H0 : Hp} {W : WX} {k : Nat} {elt tg iter : Expr} {scope : Scope} {pos lpos np : Pos}
end
end D

/-! G: == of two lists of own things that are equal. -/
namespace D
open PySem L2 PyProof.Rows
section
variable {C : RC} {O : Addr → Prop} {H H' : Hp} {x y : V} {a b : DV}
end
section
variable {X : Cx} {C : RC} {ct : CT} {k : Nat} {L : PTab}
end
section
variable {X : Cx} {C : RC} {O : Addr → Prop} {H0 : Hp} {W : WX} {k : Nat} {a b : Expr} {fa fb : Ev} {pos : Pos} {ct : CT}
end
end D

/-! G: o[i] and len(o), o of an own class with __getitem__, __len__. -/
namespace GGet
open PySem PySem.Spec PyProof.Rows PySem.SeqAt PySem.Calls Builtin
section
variable {prog : Program} {w : World} {A : Around} {E : Value → Shared → Prop} {s : Shared} {K : PySem.W.Frag} {x C f : Addr} {ox : Obj} {od : Option Obj}
end
end GGet
namespace D
open PySem L2 PyProof.Rows
/-! ### o[i] -/
def evGet (L : PTab) (fo fi : Ev) : Ev := fun st => (fo st).bind fun a st1 => (fi st1).bind fun b st2 => match insOf st2 a.1 with
  | some (c, ns) => (match L c with
    | some F => backTo' st2.sl [a, b] (F [a.1, b.1] ⟨[], st2.cs⟩)
    | none => .stuck)
  | none => .stuck
section
variable {X : Cx} {C : RC} {k : Nat} {L : PTab} {o i : Expr} {pos : Pos} {to ti : TE} {E : L2.St → XK}
variable {B : BC} {W : WX} {σ : L2.St} {H : Hp} {Q : VK} {fo fi : Ev}
end
section
variable {X : Cx} {C : RC} {O : Addr → Prop} {H0 : Hp} {W : WX} {k : Nat} {a b : Expr} {fa fb : Ev} {pos : Pos}
end
/-! ### len(o) -/
structure One (C : RC) (O : Addr → Prop) (H : Hp) (x : V) (a : DV) : Prop where
  rel : Rel ⟨C, O, H⟩ [] ⟨[], []⟩ [] H
  rx : Rep C [] (Av [] O ⟨[], []⟩ []) H x a
theorem One.ins {C : RC} {O : Addr → Prop} {H : Hp} {x : V} {c : Nat} {ns : List Str} {ds : List DV} (t : One C O H x (.ins c ns ds)) : ∃ p dx xs, x = .ref p ∧ H p = some (.ins (C.cls c) dx (ns.zip xs)) := by
  have r := t.rx
  cases r with
  | ins n e l q => exact ⟨_, _, _, rfl, e⟩
section
variable {X : Cx} {C : RC} {k : Nat} {L : PTab}
end
section
variable {X : Cx} {C : RC} {O : Addr → Prop} {H0 : Hp} {W : WX} {k : Nat} {e : Expr} {gk : Ak} {pos p : Pos}
end
end D

/-! G: tables of what the top has written. -/
namespace D
open PySem L2 PyProof.Rows
def fdOf {K : PySem.W.Frag} {x qual : Str} {st : Stmt} {f : Addr} {fd : FuncData} (_ : Fun K x qual st f fd) : FuncData := fd
def ixA : List Addr → Nat → Addr
  | [], _ => 0
  | a :: _, 0 => a
  | _ :: l, n + 1 => ixA l n
def ixF (z : FuncData) : List FuncData → Nat → FuncData
  | [], _ => z
  | a :: _, 0 => a
  | _ :: l, n + 1 => ixF z l n
structure Dt where
  cls : Nat → Addr
  T : List (Addr × Str)
  a : Nat → Addr
  f : Nat → FuncData
end D

/-! G: dict(list of pairs). -/
namespace D
open PySem L2 PyProof.Rows
section
variable {C : RC} {ρ : List CellA} {A : Addr → Prop} {H : Hp}
end
section
variable {X : Cx} {C : RC} {W : WX} {O : Addr → Prop} {H0 : Hp} {pos p : Pos} {e : Expr} {gk : Ak} {k : Nat}
end
/-! ### list(d) -/
section
variable {X : Cx} {C : RC} {W : WX} {O : Addr → Prop} {H0 : Hp} {pos p : Pos} {e : Expr} {gk : Ak} {k : Nat}
end
/-! ### x, y, z = a, b, c by a tuple -/
section
variable {X : Cx} {B : BC} {W : WX}
end
section
variable {X : Cx} {C : RC} {O : Addr → Prop} {H0 : Hp} {W : WX} {k : Nat} {a b c : Expr} {fa fb fc : Ev} {x y z : Str} {pos px py pz pt pt2 : Pos} {kt k2 : Nat}
end
section
variable {X : Cx} {B : BC} {W : WX}
end
section
variable {X : Cx} {C : RC} {O : Addr → Prop} {H0 : Hp} {W : WX} {k : Nat} {a b c e : Expr} {fa fb fc fe : Ev} {x y z u : Str} {pos px py pz pu pt pt2 : Pos} {kt k2 : Nat}
end
end D

/-! G: f(xs), xs own, a list of numbers: an answer that holds no such list leaves it own. -/
namespace D
open PySem L2 PyProof.Rows
section
variable {C : RC} {ρ : List CellA} {H : Hp}
end
section
variable {C : RC} {X : Cx} {B : BC} {W : WX} {F : Fn} {g : Ak}
end
section
variable {X : Cx} {k : Nat} {f : Addr} {fd : FuncData} {ps : List Str} {sp : Sp} {dvs : List V} {ds : List Value} {x : Str} {p pos : Pos} {e : Expr} {es : List Expr} {B : BC} {W : WX} {F : Fn} {g : Ak}
end
section
variable {X : Cx} {C : RC} {O : Addr → Prop} {H0 : Hp} {W : WX} {k : Nat} {e : Expr} {es : List Expr} {gk : Ak} {pos p : Pos} {x : Str}
end
/-! ### lists of different lengths are unequal -/
section
variable {X : Cx} {C : RC}
end
section
variable {X : Cx} {C : RC} {O : Addr → Prop} {H0 : Hp} {W : WX} {k : Nat} {a b : Expr} {fa fb : Ev} {pos : Pos}
end
end D

/-! G: a new list that is held nowhere, appended to or cleared, and left. -/
namespace D
open PySem L2 PyProof.Rows
section
variable {X : Cx} {B : BC} {W : WX} {σ : L2.St} {ρ ρ1 : List CellA} {st st1 : DS} {H H1 : Hp} {o e : Expr} {fo fe : Ev} {p : Addr}
variable {C : RC} {O : Addr → Prop} {H0 : Hp} {k : Nat} {apos cpos pos : Pos}
end
end D

/-! G: lists cleared: an own one, and a new one that is held nowhere. -/
namespace D
open PySem L2 PyProof.Rows
section
variable {X : Cx} {B : BC} {W : WX} {σ : L2.St} {ρ ρ1 : List CellA} {st st1 : DS} {H H1 : Hp} {o e : Expr} {fo fe : Ev} {p : Addr} {i : Nat}
variable {C : RC} {O : Addr → Prop} {H0 : Hp} {k : Nat} {apos cpos pos : Pos}
end
end D

/-! G: bool(o), o of an own class with __bool__. -/
namespace GGet
open PySem PySem.Spec PyProof.Rows PySem.SeqAt PySem.Calls Builtin
section
variable {prog : Program} {w : World} {A : Around} {E : Value → Shared → Prop} {s : Shared} {K : PySem.W.Frag} {x C f : Addr} {ox : Obj} {od : Option Obj}
end
end GGet
namespace D
open PySem L2 PyProof.Rows
/-! ### bool(o) -/
section
variable {X : Cx} {C : RC} {k : Nat} {L : PTab}
end
section
variable {X : Cx} {C : RC} {O : Addr → Prop} {H0 : Hp} {W : WX} {k : Nat} {e : Expr} {gk : Ak} {pos p : Pos}
end
end D

/-! G: == of two lists of own things, equal or not. -/
namespace GQ
open PySem PySem.SeqAt PySem.Spec
open AutoSeq1 (wpAny_loadPart')
open MeetsSeq MeetsSeq2 MeetsSeq3 SeqRoads2
section
variable {prog : Program} {w : World} {A : Around} {R : Result → Shared → Prop} {E : Value → Shared → Prop}
end
end GQ
namespace D
open PySem L2 PyProof.Rows
/-! ### a value that an address bears is one -/
section
variable {C : RC} {ρ : List CellA} {A : Addr → Prop} {H : Hp}
end
/-! ### == of two lists of own things -/
section
variable {X : Cx} {C : RC} {ct : CT} {k : Nat} {L : PTab}
end
section
variable {X : Cx} {C : RC} {O : Addr → Prop} {H0 : Hp} {W : WX} {k : Nat} {a b : Expr} {fa fb : Ev} {pos : Pos} {ct : CT}
end
end D

/-! G: own errors made, as values. -/
namespace D
open PySem L2 PyProof.Rows ClX
section
variable {X : Cx} {pins : List (Addr × Obj)} {σ : L2.St} {H : Hp} {s : Shared} {a : Addr} {o : HO} {φ : Heap → Prop}
/-- what is seen of an object is told otherwise -/
theorem Inv.retag (I : L2.Inv X pins σ H s) (ha : H a = some (.ext φ)) (new : ObjOk X.prog X.w (upd H a o) s.heap a o) : L2.Inv X pins σ (upd H a o) s := by
  have ne : ∀ {b : Addr} {u : HO}, H b = some u → u ≠ .ext φ → b ≠ a := fun {b u} e n z => by
    rw [z, ha] at e
    exact n (Option.some.inj e).symm
  have neN : ∀ {b : Addr}, H b = none → b ≠ a := fun {b} e z => by rw [z, ha] at e; cases e
  have U : Un X.fs [] H (upd H a o) s.heap s.heap := {
    keep := fun b o z n hf hx => z
    slot := fun b o z n hf hx => ⟨o.slots, z⟩
    free := fun b o z n hx => by rw [upd_ne (neN n)]; exact n
    there := fun b o z hx => ⟨o, z⟩
    tups := fun b xs z => by rw [upd_ne (ne z fun q => nomatch q)]; exact z
    frzs := fun b o u z => by rw [upd_ne (ne z fun q => nomatch q)]; exact z
    tbls := fun b ps z => ⟨[].toArray, by rw [upd_ne (ne z fun q => nomatch q)]; simpa using z⟩ }
  have hok : HOk X.prog X.w (upd H a o) s.heap := fun b u e => by
    by_cases hb : b = a
    · subst hb
      rw [upd_same] at e
      cases e
      exact new
    · rw [upd_ne hb] at e
      exact (I.hok b u e).stay (fun c v _ q => q) (fun c q => by rw [upd_ne (ne q fun z => nomatch z)]; exact q) fun c xs q => by rw [upd_ne (ne q fun z => nomatch z)]; exact q
  exact I.un (h' := s.heap) (t' := s.toks) U hok
end
section
variable {X : Cx} {k : Nat} {x : Str} {C fI : Addr} {fd : FuncData} {ps : List Str} {fs : List Str} {e : Expr} {es : List Expr} {ta : TA} {p pos : Pos}
def tMkV (C : Addr) (fs : List Str) (ta : TA) : TE := fun σ H Q => ta σ H fun vs H1 => vs.length = fs.length ∧ ∀ a d, H1 a = none → H1 d = none → d ≠ a → Q (.ref a) (upd (upd H1 d (.xd (fs.zip vs).reverse)) a (XO (.ref C) (some d) a))
theorem pe_oexV (T : OexC X.K C) (iC : PySem.W.findIn X.K (.ref C) "__init__" = some (some (.ref fI))) (tI : PySem.W.typeIn X.K (.ref fI) = some (.type "function"))
    (F1 : FnOk X.prog X.w X.K X.mg X.base (L2.CX X.prog X.w) k fI fd ps (SpX X.K C fs)) (hr : Room (k + 1) X.A) (hb : Binds X.K fd ps []) (hx : Passes (L2.CX X.prog X.w) X (fun _ _ _ => False)) (hg : Gl X x) (hm : X.mg x = some (.ref C)) (hfl : fs.length ≤ 900) (ha : PA X (e :: es) ta)
    (hdb : (x == ("__debug__" : Str)) = false := by decide) (he : starEach (e :: es) X.env = (false, eval e X.env) :: starEach es X.env := by rfl) (hpl : (backTo pos (starEach es X.env)).any (·.1) = false := by rfl) :
    PE X (.Call (.Name x p) (e :: es) [] pos) (tMkV C fs ta) := by
  refine ⟨fun pins s σ H Q I h => ?_⟩
  obtain ⟨nm, q, N, bs, bm, sn, sub, ab, col, dd, k0, k1, k2, k3, k5, hC, hbm⟩ := T.cls
  refine wpAny_Call_Name_kw (ld_glob I hg hm ?_ hdb)
  refine PySem.W.callWith_K (h₀ := X.base) I.ok.mod.kin T.kC (thn (ha.run pos pins s σ H _ I h) fun us s1 ⟨vs, H1, I1, r1, hz, q1⟩ => ⟨I1.kIn, ?_⟩) he hpl
  show wpAny _ _ (call (.ref C) us) _ _ _
  obtain ⟨hp, g, dr, tk, os⟩ := s1
  have hsz : hp.objs.size ≤ hp.objs.size + 1 := Nat.le_succ _
  have hn : H1 (hp.objs.size + 1) = none := I1.hok.fresh hsz
  have hq : SpX X.K C fs (V.ref (hp.objs.size + 1) :: (vs ++ [])) (upd H1 (hp.objs.size + 1) (exo (hp.objs.size + 1) C none)) (fun z H2 => z = .non ∧ ∃ d, H2 (hp.objs.size + 1) = some (exo (hp.objs.size + 1) C (some d)) ∧ H2 d = some (exd d (fs.zip vs).reverse) ∧ H1 d = none ∧ d ≠ hp.objs.size + 1 ∧ ∀ b, b ≠ hp.objs.size + 1 → b ≠ d → H2 b = H1 b) (fun _ _ _ => False) := by
    refine ⟨_, vs, by rw [List.append_nil], hz, T, upd_same, fun H2 d hd hne hfr h2a h2d => ⟨rfl, d, h2a, h2d, ?_, hne, fun b h1 h2 => ?_⟩⟩
    · rw [upd_ne hne] at hd
      exact hd
    · rw [hfr b h1 h2, upd_ne h1]
  have kk : ∀ b o, hp.get? b = some o → ((hp.push (PySem.W.kdv_tup us)).push (PySem.HandSPX.excO C hp.objs.size)).get? b = some o := fun b o e => Heap.get?_push_of_some _ (Heap.get?_push_of_some _ e)
  have hget : ((hp.push (PySem.W.kdv_tup us)).push (PySem.HandSPX.excO C hp.objs.size)).get? (hp.objs.size + 1) = some (PySem.HandSPX.excO C hp.objs.size) := by heap_get
  have I2 : L2.Inv X pins σ (upd H1 (hp.objs.size + 1) (exo (hp.objs.size + 1) C none)) ⟨(hp.push (PySem.W.kdv_tup us)).push (PySem.HandSPX.excO C hp.objs.size), g, dr, tk, os⟩ :=
    I1.laid (t' := tk) (a := hp.objs.size + 1) (o := exo (hp.objs.size + 1) C none) (h' := (hp.push (PySem.W.kdv_tup us)).push (PySem.HandSPX.excO C hp.objs.size)) kk hsz (exo_ok hget)
  have r2 : Vals (V.ref (hp.objs.size + 1) :: (vs ++ [])) (Value.ref (hp.objs.size + 1) :: (us ++ [])) := .cons rfl (r1.append .nil)
  have hl : (Value.ref (hp.objs.size + 1) :: us ++ []).length = ps.length := by
    have e := r2.length
    rw [F1.len _ _ _ _ hq] at e
    exact e.symm
  have hus : us.length ≤ sizeLine := by
    rw [← Paired.length r1, hz, sizeLine_eq]
    omega
  refine wpAny_call (PySem.HandSPX.call_own F.excBase_ValueError (fun Y => PySem.HandSPX.refsVE_contains Y bm hbm) (I1.kIn _ _ hC) (PySem.W.looks_findIn I1.kIn iC) (fun self => PySem.W.bind_fn I1.kIn self tI) hus
    (codeAny_mono (F1.run _ X.stack _ _ ⟨Value.ref (hp.objs.size + 1) :: us, []⟩ (Value.ref (hp.objs.size + 1) :: (us ++ [])) _ _ (fun _ _ _ => False) (hr.make C us []) (I2.env0.make C us []) (by have z := hb ⟨(hp.push (PySem.W.kdv_tup us)).push (PySem.HandSPX.excO C hp.objs.size), g, dr, tk, os⟩ (Value.ref (hp.objs.size + 1) :: us) I2.kIn hl; rw [List.append_nil] at z ⊢; exact z) r2 hq) fun r s' hq' => ?_))
  cases r with
  | error er => exact hx pins σ _ _ er s' I2 hq'
  | ok fl =>
    cases fl with
    | ret u =>
      obtain ⟨z, H2, I3, rz, ez, d, ea, ed, hd1, hne, hfr⟩ := I2.after hq'
      subst ez
      refine ⟨rz, ?_⟩
      obtain ⟨t1, he1⟩ := exo_at I3.hok ea
      obtain ⟨mA, hns, rel⟩ := exd_at I3.hok ed
      have I4 := Inv.retag (o := .xd (fs.zip vs).reverse) I3 (show H2 d = some (.ext _) from ed) ⟨mA, hns, rel⟩
      have ea4 : upd H2 d (.xd (fs.zip vs).reverse) (hp.objs.size + 1) = some (.ext _) := (upd_ne (Ne.symm hne)).trans ea
      have I5 := Inv.retag (o := XO (.ref C) (some d) (hp.objs.size + 1)) I4 ea4 (xo_ok he1 ⟨rfl, rfl⟩ rfl)
      have hH : upd (upd H2 d (.xd (fs.zip vs).reverse)) (hp.objs.size + 1) (XO (.ref C) (some d) (hp.objs.size + 1)) = upd (upd H1 d (.xd (fs.zip vs).reverse)) (hp.objs.size + 1) (XO (.ref C) (some d) (hp.objs.size + 1)) := by
        funext b
        by_cases hba : b = hp.objs.size + 1
        · subst hba
          rw [upd_same, upd_same]
        · rw [upd_ne hba, upd_ne hba]
          by_cases hbd : b = d
          · subst hbd
            rw [upd_same, upd_same]
          · rw [upd_ne hbd, upd_ne hbd, hfr b hba hbd]
      rw [hH] at I5
      exact ⟨V.ref (hp.objs.size + 1), _, I5, rfl, q1 _ d hn hd1 hne⟩
    | next => exact False.elim hq'
    | brk => exact False.elim hq'
    | cont => exact False.elim hq'
/-- an own error without an own __init__ -/
theorem pe_excV {bmB : List Value} {Bs newId initId : String} (F : ExcBaseFacts Bs newId initId bmB) (q : PySem.W.excIn X.K C bmB newId = true) (gC : X.mg x = some (.ref C)) (kC : PySem.W.keepIn X.K (.ref C) = true) (hg : Gl X x) {te : TE}
    (he : PE X e te) (hs : starEach [e] X.env = (false, eval e X.env) :: starEach [] X.env := by rfl) (hdb : (x == ("__debug__" : Str)) = false := by decide) :
    PE X (.Call (.Name x p) [e] [] pos) (fun σ H Q => te σ H fun _ H1 => ∀ a, H1 a = none → Q (.ref a) (upd H1 a (XO (.ref C) none a))) := by
  refine ⟨fun pins s σ H Q I h => ?_⟩
  refine wpAny_Call_Name_kw (ld_glob I hg gC ?_ hdb)
  refine PySem.W.callWith_K (h₀ := X.base) I.ok.mod.kin kC ?_ hs (by rfl)
  rw [hs]
  show wpAny _ _ (spliced ((false, eval e X.env) :: backTo pos (starEach [] X.env))) _ _ s
  refine Calls.spliced_cons (thn (he.run pins s σ H _ I h) fun u s1 ⟨v, H1, I1, r1, q1⟩ => ?_)
  refine Calls.spliced_nil ⟨I1.kIn, ?_⟩
  obtain ⟨bm, N, nm, qn, bs, hdct, sn, sub, ab, col, dd, k0, k1, k2, k3, k5, mN, hC, hN, hni, T⟩ := exc_obj I1.kIn q
  refine wpAny_call_exc_subT F T hC hN hni (fun h' a hm => ?_) (by show 1 ≤ sizeLine; rw [sizeLine_eq]; omega)
  have hn : H1 a = none := I1.hok.gone hm.new
  obtain ⟨t, ht, _, _⟩ := hm.there
  exact ⟨.ref a, upd H1 a (XO (.ref C) none a), I1.laidN hm.keeps hm.new hn (xo_ok ht ⟨rfl, rfl⟩ rfl), rfl, q1 a hn⟩
end
/-! ### in D -/
def evMkP (c : Nat) (f : Ev) : Ev := fun st => (f st).bind fun a st1 => .ok (.exc c [] [], .new) (st1.eat a.2)
def evMkX (c : Nat) (fs : List Str) (g : Ak) : Ev := fun st => (g st).bind fun as st1 => if as.length = fs.length then .ok (.exc c fs.reverse (as.map (·.1)).reverse, .new) (eatAll st1 as) else .stuck
section
variable {X : Cx} {B : BC} {W : WX} {σ : L2.St} {H : Hp} {Q : VK} {f : Ev} {g : Ak} {c : Nat} {fs : List Str}
theorem tMkP_of (h : RD B W (evMkP c f) σ H Q) : (fun σ H Q => RD B W f σ H fun _ H1 => ∀ a, H1 a = none → Q (.ref a) (upd H1 a (XO (.ref (B.C.cls c)) none a))) σ H Q := by
  obtain ⟨ρ, st, rel, res⟩ := h
  refine RD.go rel (Res.bind res) fun a st1 ρ1 H1 s1 r1 v rv fv => fun p hp => ?_
  obtain ⟨s2, _⟩ := eatAll_ok (as := [a]) s1.rel (.cons rv .nil)
  have s3 := s2.trans (Step.alloc (o := XO (.ref (B.C.cls c)) none p) s2.rel hp)
  refine r1 _ _ s3 (.ref p) ⟨.exc0 (s2.rel.av_fresh hp) upd_same, fun q e hc => (by cases hc)⟩ fun q e => ?_
  cases e
  cases eH : H p with
  | none => rfl
  | some u => exact absurd hp (s1.dm p (by rw [eH]; exact fun z => nomatch z))
theorem tMkX_of (h : RD B W (evMkX c fs g) σ H Q) : tMkV (B.C.cls c) fs (RK B W g) σ H Q := by
  obtain ⟨ρ, st, rel, res⟩ := h
  refine RK.go rel (Res.bind res) fun as st1 ρ1 H1 s1 r1 vs rv => ?_
  by_cases hlen : as.length = fs.length
  · rw [if_pos hlen] at r1
    have hv : vs.length = as.length := RepKs.len rv
    have hz : vs.length = fs.length := hv.trans hlen
    refine ⟨hz, fun p d hp hd hne => ?_⟩
    obtain ⟨s2, rl⟩ := eatAll_ok s1.rel rv
    have s3 := s2.trans (Step.alloc (o := .xd (fs.zip vs).reverse) s2.rel hd)
    have hp2 : upd H1 d (.xd (fs.zip vs).reverse) p = none := by rw [upd_ne (Ne.symm hne)]; exact hp
    have s4 := s3.trans (Step.alloc (o := XO (.ref (B.C.cls c)) (some d) p) s3.rel hp2)
    refine r1 _ _ s4 (.ref p) ⟨.exc (dx := d) (xs := vs.reverse) (s3.rel.av_fresh hp2) upd_same (s2.rel.av_fresh hd) ?_ ?_ ?_, fun q e hc => (by cases hc)⟩ fun q e => ?_
    · rw [upd_ne hne, upd_same]
      exact congrArg (fun z => some (HO.xd z)) (zip_rev fs vs hz.symm)
    · rw [List.length_reverse, List.length_reverse, hz]
    · exact RepL.step ((Step.alloc (o := .xd (fs.zip vs).reverse) s2.rel hd).trans (Step.alloc (o := XO (.ref (B.C.cls c)) (some d) p) s3.rel hp2)) (repL_rev rl)
    · cases e
      cases eH : H p with
      | none => rfl
      | some u => exact absurd hp (s1.dm p (by rw [eH]; exact fun z => nomatch z))
  · rw [if_neg hlen] at r1
    exact r1.elim
end
section
variable {X : Cx} {C : RC} {O : Addr → Prop} {H0 : Hp} {W : WX} {k : Nat} {x : Str} {fs : List Str} {e : Expr} {es : List Expr} {f : Ev} {g : Ak} {p pos : Pos} {ct : CT}
theorem w_mkP (c : Nat) (fx : Fx X C W k) (kc : KitC C ct) (hm : X.mg x = some (.ref (C.cls c))) (he : PD X ⟨C, O, H0⟩ W e f) (hk : c ∈ ct.pl := by decide) (hg : Gl X x := by rfl) (hs : starEach [e] X.env = (false, eval e X.env) :: starEach [] X.env := by rfl) (hdb : (x == ("__debug__" : Str)) = false := by decide) :
    PD X ⟨C, O, H0⟩ W (.Call (.Name x p) [e] [] pos) (evMkP c f) := by
  obtain ⟨h1, h2⟩ := kc.xq c hk
  have h3 := kc.xk c h1
  rw [fx.K] at h2 h3
  exact PE.mono (pe_excV PySem.F.excBase_ValueError h2 hm h3 hg he hs hdb) fun _ _ _ h => tMkP_of (B := ⟨C, O, H0⟩) h
theorem w_mkX (c : Nat) (fx : Fx X C W (k + 1)) (XK : XK1 X.prog X.w X.K X.mg X.base k (C.cls c) fs) (hm : X.mg x = some (.ref (C.cls c))) (ha : PKD X ⟨C, O, H0⟩ W (e :: es) g) (hl : fs.length ≤ 900 := by decide) (hg : Gl X x := by rfl)
    (hdb : (x == ("__debug__" : Str)) = false := by decide) (he : starEach (e :: es) X.env = (false, eval e X.env) :: starEach es X.env := by rfl) (hpl : (backTo pos (starEach es X.env)).any (·.1) = false := by rfl) :
    PD X ⟨C, O, H0⟩ W (.Call (.Name x p) (e :: es) [] pos) (evMkX c fs g) := by
  obtain ⟨T, fI, fd, ps, h1, h2, F, hb⟩ := XK
  exact PE.mono (pe_oexV T h1 h2 F fx.room hb passesF hg hm hl ha hdb he hpl) fun _ _ _ h => tMkX_of (B := ⟨C, O, H0⟩) h
end
end D

/-! F: what D's functions answer, told forward: goals «from this state on, .. holds». -/
namespace D
open PySem L2 PyProof.Rows
abbrev EK := DX → List CellC → Prop
abbrev QE := DV → Kd → DS → Prop
def noX : EK := fun _ _ => False
def W {α : Type} (o : Out α) (q : α → DS → Prop) (E : EK) : Prop := match o with | .ok a st => q a st | .exc x st => E x st.cs | .stuck => False
theorem W.bind {α β : Type} {o : Out α} {k : α → DS → Out β} {q : β → DS → Prop} {E : EK} (h : W o (fun a st => W (k a st) q E) E) : W (o.bind k) q E := by cases o <;> exact h
theorem W.imp {α : Type} {o : Out α} {q q' : α → DS → Prop} {E : EK} (h : W o q E) (hq : ∀ a st, q a st → q' a st) : W o q' E := by
  cases o with
  | ok a st => exact hq _ _ h
  | exc x st => exact h
  | stuck => exact h
theorem W.impE {α : Type} {o : Out α} {q : α → DS → Prop} {E E' : EK} (h : W o q E) (hE : ∀ x cs, E x cs → E' x cs) : W o q E' := by
  cases o with
  | ok a st => exact h
  | exc x st => exact hE _ _ h
  | stuck => exact h
/-- an expression, a test, several results, several things, a slice's part, pairs -/
def WE' (o : Out (DV × Kd)) (q : QE) (E : EK) : Prop := W o (fun a st => q a.1 a.2 st) E
def WT (o : Out Bool) (q : Bool → DS → Prop) (E : EK) : Prop := W o q E
def WA (o : Out (List (DV × Kd))) (q : List (DV × Kd) → DS → Prop) (E : EK) : Prop := W o q E
def WV (o : Out (List DV)) (q : List DV → DS → Prop) (E : EK) : Prop := W o q E
def WP (o : Out (Option Int)) (q : Option Int → DS → Prop) (E : EK) : Prop := W o q E
def WDp (o : Out (List Key × List DV)) (q : List Key → List DV → DS → Prop) (E : EK) : Prop := W o (fun a st => q a.1 a.2 st) E
/-- behind a statement -/
structure KS where
  nx : DS → Prop
  bk : DS → Prop
  ct : DS → Prop
  rt : QE
def KS.of (k : KS) : Fl → DS → Prop
  | .nx, st => k.nx st
  | .bk, st => k.bk st
  | .ct, st => k.ct st
  | .rt d kd, st => k.rt d kd st
def WS (o : Out Fl) (k : KS) (E : EK) : Prop := W o k.of E
/-- an operation's answer -/
def WO (o : Option (DV × Kd)) (q : DV → Kd → Prop) : Prop := match o with | some c => q c.1 c.2 | none => False
theorem W.opt {o : Option (DV × Kd)} {st : DS} {q : QE} {E : EK} (h : WO o fun c kd => q c kd st) : W (match o with | some c => Out.ok c st | none => Out.stuck) (fun a st => q a.1 a.2 st) E := by cases o <;> exact h
/-- a def's answer -/
def WF' (F : Fn) (ds : List DV) (cs : List CellC) (q : DV → Kd → List CellC → Prop) (E : EK) : Prop := W (F ds ⟨[], cs⟩) (fun a st => q a.1 a.2 st.cs) E
/-- a target -/
def WG (o : Option DS) (q : DS → Prop) : Prop := match o with | some st => q st | none => False
def IfK (k : Bool) (A B : Prop) : Prop := match k with | true => A | false => B
theorem IfK.imp {k : Bool} {A B A' B' : Prop} (h : IfK k A B) (h1 : A → A') (h2 : B → B') : IfK k A' B' := by cases k; exact h2 h; exact h1 h
def nk (d : DV) (kd : Kd) : Kd := if flat d = true then .new else kd
def kdO : Kd → Kd
  | .new => .new
  | _ => .fro
theorem IfK.yes {A B : Prop} (h : A) : IfK true A B := h
theorem IfK.no {A B : Prop} (h : B) : IfK false A B := h
theorem IfK.bool {A B : Prop} {c : Bool} (h1 : c = true → A) (h2 : c = false → B) : IfK c A B := by
  cases c
  · exact h2 rfl
  · exact h1 rfl
theorem IfK.to {A B : Prop} {c : Bool} (h : c = true) (h1 : A) : IfK c A B := by rw [h]; exact h1
theorem IfK.fo {A B : Prop} {c : Bool} (h : c = false) (h1 : B) : IfK c A B := by rw [h]; exact h1
section
variable {q : QE} {qb : Bool → DS → Prop} {qa : List (DV × Kd) → DS → Prop} {qv : List DV → DS → Prop} {qp : Option Int → DS → Prop} {qd : List Key → List DV → DS → Prop} {E : EK} {k : KS} {st st1 : DS} {sl : List Slot} {cs : List CellC} {fa fb fc fe : Ev} {f g : Sv} {ta tb t : Tv} {ga gb : Ak} {ge : Av'} {d a b : DV} {kd : Kd} {i j : Nat} {o : Option (DV × Kd)} {p : DV → Kd → Prop} {A B : Prop}
/-! ### monotone -/
theorem WE'.mono {o : Out (DV × Kd)} {q' : QE} {E' : EK} (h : WE' o q E) (hq : ∀ a kd st, q a kd st → q' a kd st) (hE : ∀ x cs, E x cs → E' x cs) : WE' o q' E' :=
  W.impE (W.imp h fun a st h => hq _ _ _ h) hE
theorem WS.mono {o : Out Fl} {k' : KS} {E' : EK} (h : WS o k E) (h1 : ∀ st, k.nx st → k'.nx st) (h2 : ∀ st, k.bk st → k'.bk st) (h3 : ∀ st, k.ct st → k'.ct st) (h4 : ∀ a kd st, k.rt a kd st → k'.rt a kd st) (hE : ∀ x cs, E x cs → E' x cs) : WS o k' E' := by
  cases o with
  | ok a st =>
    cases a with
    | nx => exact h1 _ h
    | bk => exact h2 _ h
    | ct => exact h3 _ h
    | rt d kd => exact h4 _ _ _ h
  | exc x st => exact hE _ _ h
  | stuck => exact h
theorem WF'.mono {F : Fn} {ds : List DV} {q q' : DV → Kd → List CellC → Prop} {E' : EK} (h : WF' F ds cs q E) (hq : ∀ a kd cs, q a kd cs → q' a kd cs) (hE : ∀ x cs, E x cs → E' x cs) : WF' F ds cs q' E' :=
  W.impE (W.imp h fun a st h => hq _ _ _ h) hE
theorem WF'.eq {F : Fn} {ds : List DV} {q : DV → Kd → List CellC → Prop} {cs' : List CellC} {sl' : List Slot} (e : F ds ⟨[], cs⟩ = .ok (a, kd) ⟨sl', cs'⟩) (h : q a kd cs') : WF' F ds cs q E :=
  by unfold WF'; rw [e]; exact h
theorem WF'.ex {F : Fn} {ds : List DV} {q : DV → Kd → List CellC → Prop} {x : DX} {cs' : List CellC} {sl' : List Slot} (e : F ds ⟨[], cs⟩ = .exc x ⟨sl', cs'⟩) (h : E x cs') : WF' F ds cs q E :=
  by unfold WF'; rw [e]; exact h
/-! ### expressions -/
theorem we_c (h : q d .new st) : WE' (evC d st) q E := h
theorem we_var (e : sl[i]? = some (some (d, false))) (h : q d .fro ⟨sl, cs⟩) : WE' (evVar i ⟨sl, cs⟩) q E := by unfold evVar; rw [show (⟨sl, cs⟩ : DS).sl[i]? = _ from e]; exact h
theorem we_varO (e : sl[i]? = some (some (d, true))) (h : q d (.view i) ⟨sl, cs⟩) : WE' (evVar i ⟨sl, cs⟩) q E := by unfold evVar; rw [show (⟨sl, cs⟩ : DS).sl[i]? = _ from e]; exact h
theorem we_cls (h : q (.cls i) .fro st) : WE' (evCls i st) q E := h
theorem we_g (h : q d .fro st) : WE' (evG d st) q E := h
theorem we_n (h : WE' (fe st) (fun a kd st1 => q a (nk a kd) st1) E) : WE' (evN fe st) q E :=
  W.bind h
theorem we_op {g : Op2} (h : WE' (fa st) (fun a _ st1 => WE' (fb st1) (fun b _ st2 => WO (g a b) fun c kd => q c kd st2) E) E) : WE' (evOp g fa fb st) q E :=
  W.bind (W.imp h fun a st1 h => W.bind (W.imp h fun b st2 h => W.opt h))
theorem we_call {g : OpN} (h : WA (ga st) (fun as st1 => WO (g (as.map (·.1))) fun c kd => q c kd st1) E) : WE' (evCall g ga st) q E :=
  W.bind (W.imp h fun a st1 h => W.opt h)
theorem we_meth {isT : DV → Bool} {g : OpN} (h : WE' (fa st) (fun a _ st1 => isT a = true ∧ WA (ga st1) (fun as st2 => WO (g (a :: as.map (·.1))) fun c kd => q c kd st2) E) E) : WE' (evMeth isT g fa ga st) q E :=
  W.bind (W.imp h fun a st1 h => by
    obtain ⟨h1, h2⟩ := h
    rw [if_pos h1]
    exact W.bind (W.imp h2 fun a st1 h => W.opt h))
theorem we_not (h : WE' (fa st) (fun a _ st1 => ∃ k, truD a = some k ∧ q (.bl (!k)) .new st1) E) : WE' (evNot fa st) q E :=
  W.bind (W.imp h fun a st1 h => by obtain ⟨k, h1, h2⟩ := h; rw [h1]; exact h2)
theorem we_and (h : WE' (fa st) (fun a kd st1 => ∃ k, truD a = some k ∧ IfK k (WE' (fb st1) q E) (q a kd st1)) E) : WE' (evAnd fa fb st) q E :=
  W.bind (W.imp h fun a st1 h => by obtain ⟨k, h1, h2⟩ := h; rw [h1]; cases k <;> exact h2)
theorem we_or (h : WE' (fa st) (fun a kd st1 => ∃ k, truD a = some k ∧ IfK k (q a kd st1) (WE' (fb st1) q E)) E) : WE' (evOr fa fb st) q E :=
  W.bind (W.imp h fun a st1 h => by obtain ⟨k, h1, h2⟩ := h; rw [h1]; cases k <;> exact h2)
theorem we_if (h : WT (t st) (fun k st1 => IfK k (WE' (fa st1) q E) (WE' (fb st1) q E)) E) : WE' (evIf t fa fb st) q E :=
  W.bind (W.imp h fun a st1 h => by cases a <;> exact h)
theorem we_neg (h : WE' (fa st) (fun a _ st1 => ∃ i, a = .int i ∧ q (.int (-i)) .new st1) E) : WE' (evNeg fa st) q E :=
  W.bind (W.imp h fun a st1 h => by obtain ⟨i, h1, h2⟩ := h; rw [h1]; exact h2)
theorem we_chain {g g' : Op2} (h : WE' (fa st) (fun a _ st1 => WE' (fb st1) (fun b _ st2 => ∃ r, g a b = some (.bl r, .new) ∧ IfK r (WE' (fc st2) (fun c _ st3 => WO (g' b c) fun z kd => q z kd st3) E) (q (.bl false) .new st2)) E) E) : WE' (evChain g g' fa fb fc st) q E :=
  W.bind (W.imp h fun a st1 h => W.bind (W.imp h fun b st2 h => by
    obtain ⟨r, h1, h2⟩ := h
    rw [h1]
    cases r with
    | false => exact h2
    | true => exact W.bind (W.imp h2 fun c st3 h => W.opt h)))
theorem we_rev (h : WE' (fa st) (fun a _ st1 => (∃ ds, a = .lst ds ∧ q (.lst ds.reverse) .new st1) ∨ ∃ ds, a = .tup ds ∧ q (.tup ds.reverse) .fro st1) E) : WE' (evRev fa st) q E :=
  W.bind (W.imp h fun a st1 h => by rcases h with ⟨ds, h1, h2⟩ | ⟨ds, h1, h2⟩ <;> (rw [h1]; exact h2))
theorem we_fld {ct : CT} {n : Str} (h : WE' (fa st) (fun a _ st1 => ∃ d, fldD ct n a = some d ∧ q d (nk d .fro) st1) E) : WE' (evFld ct n fa st) q E :=
  W.bind (W.imp h fun a st1 h => by obtain ⟨d, h1, h2⟩ := h; rw [h1]; exact h2)
/-! slices -/
theorem wp_none (h : qp none st) : WP (pvNone st) qp E := h
theorem wp_some (h : WE' (fa st) (fun a _ st1 => ∃ i, a = .int i ∧ qp (some i) st1) E) : WP (pvSome fa st) qp E :=
  W.bind (W.imp h fun a st1 h => by obtain ⟨i, h1, h2⟩ := h; rw [h1]; exact h2)
theorem we_sl {lo hi : Pv} (h : WE' (fa st) (fun a _ st1 => WP (lo st1) (fun l st2 => WP (hi st2) (fun u st3 => WO (dSl a l u) fun c kd => q c kd st3) E) E) E) : WE' (evSl fa lo hi st) q E :=
  W.bind (W.imp h fun a st1 h => W.bind (W.imp h fun l st2 h => W.bind (W.imp h fun u st3 h => W.opt h)))
/-! displays, arguments -/
theorem wv_nil (h : qv [] st) : WV (evNil st) qv E := h
theorem wv_cons (h : WE' (fe st) (fun a kd st1 => WV (ge (st1.eat kd)) (fun ds st2 => qv (a :: ds) st2) E) E) : WV (evCons fe ge st) qv E :=
  W.bind (W.imp h fun a st1 h => W.bind h)
theorem we_lst (h : WV (ge st) (fun ds st1 => ds.length ≤ sizeLine ∧ q (.lst ds) .new st1) E) : WE' (evLst ge st) q E :=
  W.bind (W.imp h fun ds st1 h => by rw [if_pos h.1]; exact h.2)
theorem we_tup (h : WV (ge st) (fun ds st1 => ds.length ≤ sizeLine ∧ q (.tup ds) .new st1) E) : WE' (evTup ge st) q E :=
  W.bind (W.imp h fun ds st1 h => by rw [if_pos h.1]; exact h.2)
theorem wd_nil (h : qd [] [] st) : WDp (dvNil st) qd E := h
theorem wd_cons {r : Dv'} (h : WE' (fa st) (fun ka _ st1 => WE' (fb st1) (fun v kd st2 => WDp (r (st2.eat kd)) (fun ks vs st3 => ∃ kk, keyD ka = some kk ∧ (ks.any fun j => decide (j = kk)) = false ∧ qd (kk :: ks) (v :: vs) st3) E) E) E) : WDp (dvCons fa fb r st) qd E :=
  W.bind (W.imp h fun a st1 h => W.bind (W.imp h fun v st2 h => W.bind (W.imp h fun p st3 h => by
    obtain ⟨kk, h1, h2, h3⟩ := h
    rw [h1]
    dsimp only
    rw [if_neg (by rw [h2]; exact Bool.false_ne_true)]
    exact h3)))
theorem we_dct {r : Dv'} (h : WDp (r st) (fun ks vs st1 => ks.length ≤ 15 ∧ q (.dct ks vs) .new st1) E) : WE' (evDct r st) q E :=
  W.bind (W.imp h fun p st1 h => by rw [if_pos h.1]; exact h.2)
theorem wa_nil (h : qa [] st) : WA (akNil st) qa E := h
theorem wa_cons (h : WE' (fe st) (fun a kd st1 => WA (ga st1) (fun as st2 => qa ((a, kd) :: as) st2) E) E) : WA (akCons fe ga st) qa E :=
  W.bind (W.imp h fun a st1 h => W.bind h)
/-! ### a def's call -/
/-- behind a call: the caller's slots, the arguments -/
def BkT (sl : List Slot) (as : List (DV × Kd)) (a : DV) (kd : Kd) (cs : List CellC) (q : QE) : Prop := q a (kdO kd) (if safeR (a, kd) && cs.all isDraw then ⟨sl, cs⟩ else eatAll ⟨sl, cs⟩ as)
theorem we_fn {F : Fn} (h : WA (ga st) (fun as st1 => WF' F (as.map (·.1)) st1.cs (fun a kd cs' => BkT st1.sl as a kd cs' q) E) E) : WE' (evFn F ga st) q E :=
  W.bind (W.imp h fun as st1 h => by
    unfold WF' at h
    revert h
    generalize F (as.map (·.1)) ⟨[], st1.cs⟩ = o
    intro h
    cases o with
    | stuck => exact h
    | exc x st2 => exact (show E x (eatAll ⟨st1.sl, st2.cs⟩ as).cs from by rw [eatAll_cs]; exact h)
    | ok a st2 => obtain ⟨a, kd⟩ := a; cases kd <;> exact h)
/-- no argument is a slot's own -/
def noView : List (DV × Kd) → Bool
  | [] => true
  | (_, .view _) :: _ => false
  | _ :: as => noView as
theorem eatAll_noView : ∀ {as : List (DV × Kd)} {st : DS}, noView as = true → eatAll st as = st
  | [], _, _ => rfl
  | (d, .fro) :: as, st, h => eatAll_noView (as := as) (st := st) h
  | (d, .new) :: as, st, h => eatAll_noView (as := as) (st := st) h
  | (d, .view _) :: as, st, h => by cases h
theorem bk_plain {as : List (DV × Kd)} (hv : noView as = true) (h : q a (kdO kd) ⟨sl, cs⟩) : BkT sl as a kd cs q := by
  unfold BkT
  rw [eatAll_noView hv, ite_self]
  exact h
theorem bk_safe {as : List (DV × Kd)} (hs : safeR (a, kd) = true) (hd : cs.all isDraw = true) (h : q a (kdO kd) ⟨sl, cs⟩) : BkT sl as a kd cs q := by
  unfold BkT
  rw [hs, hd]
  exact h
/-! ### tests -/
theorem wt_b (h : WE' (fe st) (fun a _ st1 => ∃ k, a = .bl k ∧ qb k st1) E) : WT (tvB fe st) qb E :=
  W.bind (W.imp h fun a st1 h => by obtain ⟨k, h1, h2⟩ := h; rw [h1]; exact h2)
theorem wt_e' (h : WE' (fe st) (fun a _ st1 => ∃ k, truD a = some k ∧ qb k st1) E) : WT (tvE fe st) qb E :=
  W.bind (W.imp h fun a st1 h => by obtain ⟨k, h1, h2⟩ := h; rw [h1]; exact h2)
theorem wt_and (h : WT (ta st) (fun k st1 => IfK k (WT (tb st1) qb E) (qb false st1)) E) : WT (tvAnd ta tb st) qb E :=
  W.bind (W.imp h fun a st1 h => by cases a <;> exact h)
theorem wt_or (h : WT (ta st) (fun k st1 => IfK k (qb true st1) (WT (tb st1) qb E)) E) : WT (tvOr ta tb st) qb E :=
  W.bind (W.imp h fun a st1 h => by cases a <;> exact h)
theorem wt_not (h : WT (ta st) (fun k st1 => qb (!k) st1) E) : WT (tvNot ta st) qb E :=
  W.bind h
theorem wt_yes (h : qb true st) : WT (tvYes st) qb E := h
/-! ### statements -/
theorem ws_seq (h : WS (f st) ⟨fun st1 => WS (g st1) k E, k.bk, k.ct, k.rt⟩ E) : WS (svSeq f g st) k E :=
  W.bind (W.imp h fun fl st1 h => by cases fl <;> exact h)
theorem ws_expr' (h : WE' (fe st) (fun _ _ st1 => k.nx st1) E) : WS (svExpr fe st) k E :=
  W.bind h
theorem ws_ret' (h : WE' (fe st) k.rt E) : WS (svRet fe st) k E :=
  W.bind h
theorem ws_if' (h : WT (t st) (fun c st1 => IfK c (WS (f st1) k E) (WS (g st1) k E)) E) : WS (svIf t f g st) k E :=
  W.bind (W.imp h fun a st1 h => by cases a <;> exact h)
/-- a name is stored -/
def PutT (i : Nat) (a : DV) (kd : Kd) (st : DS) (n : DS → Prop) : Prop := n (st.put i (a, kd))
theorem ws_set' (h : WE' (fe st) (fun a kd st1 => PutT i a kd st1 k.nx) E) : WS (svSet i fe st) k E :=
  W.bind h
theorem putT_fro {n : DS → Prop} (h : n ⟨sl.set i (some (a, false)), cs⟩) : PutT i a .fro ⟨sl, cs⟩ n := h
theorem putT_view {n : DS → Prop} (h : n ⟨(dropSl sl j).set i (some (a, false)), cs⟩) : PutT i a (.view j) ⟨sl, cs⟩ n := h
theorem putT_flat {n : DS → Prop} (hc : isCont a = false) (h : n ⟨sl.set i (some (a, false)), cs⟩) : PutT i a .new ⟨sl, cs⟩ n := by
  unfold PutT DS.put
  rw [hc]
  exact h
theorem putT_own {n : DS → Prop} (hc : isCont a = true) (hd : cs.all isDraw = true) (h : n ⟨sl.set i (some (a, true)), cs⟩) : PutT i a .new ⟨sl, cs⟩ n := by
  unfold PutT DS.put
  dsimp only
  rw [hc, hd]
  exact h
theorem putT_nk {n : DS → Prop} (h : n ⟨sl.set i (some (a, false)), cs⟩) : PutT i a (nk a .fro) ⟨sl, cs⟩ n := by
  unfold nk
  by_cases hf : flat a = true
  · rw [if_pos hf]
    exact putT_flat (by cases a <;> first | rfl | cases hf) h
  · rw [if_neg hf]
    exact h
/-- a, b = .. -/
theorem ws_then (h : WS (f st) ⟨k.nx, k.nx, k.nx, fun _ _ st1 => k.nx st1⟩ E) : WS (svThen f st) k E :=
  W.bind (W.imp h fun fl st1 h => by cases fl <;> exact h)
def ParT (i : Nat) (a : DV) (kd : Kd) (st : DS) (g : Sv) (n : DS → Prop) (E : EK) : Prop := match kd with
  | .new => WS (g st) ⟨fun st2 => n ⟨st2.sl.set i (some (a, isCont a && st.cs.all isDraw)), st2.cs⟩, fun st2 => n ⟨st2.sl.set i (some (a, isCont a && st.cs.all isDraw)), st2.cs⟩, fun st2 => n ⟨st2.sl.set i (some (a, isCont a && st.cs.all isDraw)), st2.cs⟩, fun _ _ st2 => n ⟨st2.sl.set i (some (a, isCont a && st.cs.all isDraw)), st2.cs⟩⟩ E
  | kd => WS (g (st.eat kd)) ⟨fun st2 => n ⟨st2.sl.set i (some (a, false)), st2.cs⟩, fun st2 => n ⟨st2.sl.set i (some (a, false)), st2.cs⟩, fun st2 => n ⟨st2.sl.set i (some (a, false)), st2.cs⟩, fun _ _ st2 => n ⟨st2.sl.set i (some (a, false)), st2.cs⟩⟩ E
theorem ws_par' (h : WE' (fe st) (fun a kd st1 => ParT i a kd st1 g k.nx E) E) : WS (svPar i fe g st) k E :=
  W.bind (W.imp h fun a st1 h => by
    obtain ⟨d, kd⟩ := a
    have fin : ∀ {o : Out Fl} {bb : Bool}, WS o ⟨fun st2 => k.nx ⟨st2.sl.set i (some (d, bb)), st2.cs⟩, fun st2 => k.nx ⟨st2.sl.set i (some (d, bb)), st2.cs⟩, fun st2 => k.nx ⟨st2.sl.set i (some (d, bb)), st2.cs⟩, fun _ _ st2 => k.nx ⟨st2.sl.set i (some (d, bb)), st2.cs⟩⟩ E → W (o.bind fun _ st2 => .ok .nx ⟨st2.sl.set i (some (d, bb)), st2.cs⟩) k.of E := fun h => W.bind (W.imp h fun fl st2 h => by cases fl <;> exact h)
    cases kd with
    | new =>
      unfold ParT at h
      dsimp only at h ⊢
      cases hb : isCont d && st1.cs.all isDraw <;> (rw [hb] at h; exact fin h)
    | fro => exact fin h
    | view j => exact fin h)
theorem par_new {n : DS → Prop} {b : Bool} (hb : (isCont a && cs.all isDraw) = b) (h : WS (g ⟨sl, cs⟩) ⟨fun st2 => n ⟨st2.sl.set i (some (a, b)), st2.cs⟩, fun st2 => n ⟨st2.sl.set i (some (a, b)), st2.cs⟩, fun st2 => n ⟨st2.sl.set i (some (a, b)), st2.cs⟩, fun _ _ st2 => n ⟨st2.sl.set i (some (a, b)), st2.cs⟩⟩ E) : ParT i a .new ⟨sl, cs⟩ g n E := by
  unfold ParT
  dsimp only
  rw [hb]
  exact h
theorem par_fro {n : DS → Prop} (h : WS (g ⟨sl, cs⟩) ⟨fun st2 => n ⟨st2.sl.set i (some (a, false)), st2.cs⟩, fun st2 => n ⟨st2.sl.set i (some (a, false)), st2.cs⟩, fun st2 => n ⟨st2.sl.set i (some (a, false)), st2.cs⟩, fun _ _ st2 => n ⟨st2.sl.set i (some (a, false)), st2.cs⟩⟩ E) : ParT i a .fro ⟨sl, cs⟩ g n E := h
theorem ws_aug' {n : Int} (e : sl[i]? = some (some (.int n, false))) (h : WE' (fe ⟨sl, cs⟩) (fun a _ st1 => ∃ z, a = .int z ∧ k.nx ⟨st1.sl.set i (some (.int (n + z), false)), st1.cs⟩) E) : WS (svAug i fe ⟨sl, cs⟩) k E := by
  unfold svAug
  rw [show (⟨sl, cs⟩ : DS).sl[i]? = _ from e]
  dsimp only
  refine ws_set' (we_op (we_c (h.mono (fun a kd st1 ⟨z, h1, h2⟩ => ?_) fun _ _ h => h)))
  subst h1
  exact putT_flat rfl h2
theorem ws_asg' {gv : Gv} (h : WE' (fe st) (fun a kd st1 => WG (gv a (st1.eat kd)) k.nx) E) : WS (svAsg fe gv st) k E :=
  W.bind (W.imp h fun a st1 h => by
    dsimp only at h
    cases e2 : gv a.1 (st1.eat a.2) with
    | none => rw [e2] at h; exact h
    | some s => rw [e2] at h; exact h)
theorem ws_app {ds0 : List DV} (e : sl[i]? = some (some (.lst ds0, true))) (h : WE' (fe ⟨sl, cs⟩) (fun a kd st1 => ∃ ds, (st1.eat kd).sl[i]? = some (some (.lst ds, true)) ∧ ds.length < sizeLine ∧ k.nx ⟨(st1.eat kd).sl.set i (some (.lst (ds ++ [a]), true)), (st1.eat kd).cs⟩) E) : WS (svApp i fe ⟨sl, cs⟩) k E := by
  unfold svApp
  rw [show (⟨sl, cs⟩ : DS).sl[i]? = _ from e]
  dsimp only
  cases e2 : fe ⟨sl, cs⟩ with
  | stuck => rw [e2] at h; exact h
  | exc x st1 => rw [e2] at h; exact h
  | ok a st1 =>
    rw [e2] at h
    obtain ⟨ds, h1, h2, h3⟩ := (h : ∃ ds, (st1.eat a.2).sl[i]? = some (some (.lst ds, true)) ∧ _)
    show WS (match (st1.eat a.2).sl[i]? with | some (some (.lst ds, true)) => _ | _ => _) k E
    rw [h1]
    dsimp only
    rw [if_pos h2]
    exact h3
/-- try -/
theorem ws_try' {ca : Nat → Option Bool} {F : DX → List CellC → Prop} (h : match f st with | .ok fl st1 => k.of fl st1 | .exc x st1 => (match ca x.c with | some true => k.nx ⟨(st1.sl.set j (some (.exc x.c x.ns x.vs, false))).set i none, st1.cs⟩ | some false => E x st1.cs | none => False) | .stuck => False) : WS (svTry f ca i j st) k E := by
  unfold svTry
  cases e : f st with
  | stuck => rw [e] at h; exact h
  | ok fl st1 => rw [e] at h; exact h
  | exc x st1 =>
    rw [e] at h
    dsimp only at h ⊢
    cases hc : ca x.c with
    | none => rw [hc] at h; exact h
    | some b => rw [hc] at h; cases b <;> exact h
/-! ### targets -/
theorem wg_name' {n : DS → Prop} (h : n ⟨sl.set i (some (d, false)), cs⟩) : WG (gvName i d ⟨sl, cs⟩) n := h
theorem wg_tup' {n : DS → Prop} {m : Nat} {gg : List DV → DS → Option DS} {ds : List DV} (hl : ds.length = m) (h : WG (gg ds st) n) : WG (gvTup m gg (.tup ds) st) n := by
  unfold gvTup
  dsimp only
  rw [if_pos hl]
  exact h
theorem wg_nil {n : DS → Prop} (h : n st) : WG (gvNil [] st) n := h
theorem wg_cons {n : DS → Prop} {g1 : Gv} {gg : List DV → DS → Option DS} {ds : List DV} (h : WG (g1 d st) fun st1 => WG (gg ds st1) n) : WG (gvCons g1 gg (d :: ds) st) n := by
  unfold gvCons
  dsimp only
  cases e : g1 d st with
  | none => rw [e] at h; exact h
  | some s => rw [e] at h; exact h
/-! ### loops -/
theorem wi_e' (h : WE' (fe st) (fun a kd st1 => ∃ ds, itemsD a = some ds ∧ qv ds (st1.eat kd)) E) : WV (ivE fe st) qv E :=
  W.bind (W.imp h fun a st1 h => by obtain ⟨ds, h1, h2⟩ := h; rw [h1]; exact h2)
theorem wi_r1' (h : WA (ga st) (fun as st1 => ∃ j, as.map (·.1) = [DV.int j] ∧ (-(2 ^ 62) ≤ j ∧ j < 2 ^ 62) ∧ qv (rangeL 0 j.toNat) st1) E) : WV (ivR1 ga st) qv E :=
  W.bind (W.imp h fun as st1 h => by
    obtain ⟨j, h1, h2, h3⟩ := h
    rw [h1]
    dsimp only
    rw [if_pos h2]
    exact h3)
theorem wi_r2' (h : WA (ga st) (fun as st1 => ∃ i j, as.map (·.1) = [DV.int i, DV.int j] ∧ ((-(2 ^ 62) ≤ i ∧ i < 2 ^ 62) ∧ (-(2 ^ 62) ≤ j ∧ j < 2 ^ 62)) ∧ qv (rangeL i (j - i).toNat) st1) E) : WV (ivR2 ga st) qv E :=
  W.bind (W.imp h fun as st1 h => by
    obtain ⟨i, j, h1, h2, h3⟩ := h
    rw [h1]
    dsimp only
    rw [if_pos h2]
    exact h3)
theorem wi_enum' (h : WA (ga st) (fun as st1 => ∃ ds kd, as = [(.lst ds, kd)] ∧ qv (enumL ds) (st1.eat kd)) E) : WV (ivEnum ga st) qv E :=
  W.bind (W.imp h fun as st1 h => by obtain ⟨ds, kd, h1, h2⟩ := h; subst h1; exact h2)
/-- for: by what holds ahead of each turn, of the items that are left -/
theorem wfor {gv : Gv} (I : List DV → DS → Prop) : ∀ (ds : List DV) (st : DS), I ds st → (∀ d r st, I (d :: r) st → WG (gv d st) fun st1 => WS (f st1) ⟨I r, k.nx, I r, k.rt⟩ E) → (∀ st, I [] st → k.nx st) → WS (forGo gv f ds st) k E
  | [], st, hi, _, he => he st hi
  | d :: r, st, hi, hb, he => by
    have h := hb d r st hi
    unfold forGo
    cases e : gv d st with
    | none => rw [e] at h; exact h
    | some st1 =>
      rw [e] at h
      have h : WS (f st1) _ E := h
      show WS ((f st1).bind _) k E
      cases e2 : f st1 with
      | stuck => rw [e2] at h; exact h
      | exc x st2 => rw [e2] at h; exact h
      | ok fl st2 =>
        rw [e2] at h
        cases fl with
        | nx => exact wfor I r st2 h hb he
        | ct => exact wfor I r st2 h hb he
        | bk => exact h
        | rt d kd => exact h
theorem ws_for' {fi : Iv} {gv : Gv} (h : WV (fi st) (fun ds st1 => WS (forGo gv f ds st1) k E) E) : WS (svFor fi gv f st) k E :=
  W.bind h
/-! ### comprehensions -/
def WL (o : Option (List DV × DS)) (q : List DV → DS → Prop) : Prop := match o with | some r => q r.1 r.2 | none => False
/-! ### a def -/
def RetT (k : Kd) (st : DS) : Kd := match k with | .fro => .fro | .new => .new | .view i => (match st.sl[i]? with | some (some (_, true)) => .new | _ => .fro)
theorem wf_sv {n p : Nat} {sv : Sv} {ds : List DV} {q : DV → Kd → List CellC → Prop} (hl : ds.length = p) (h : WS (sv ⟨startSl n ds, cs⟩) ⟨fun st => q .non .new st.cs, fun _ => False, fun _ => False, fun a kd st => q a (RetT kd st) st.cs⟩ E) : WF' (fnSv n p sv) ds cs q E := by
  unfold WF' fnSv
  rw [if_pos hl]
  show W (outRet (sv ⟨startSl n ds, cs⟩)) (fun a st => q a.1 a.2 st.cs) E
  cases e : sv ⟨startSl n ds, cs⟩ with
  | stuck => rw [e] at h; exact h
  | exc x st1 => rw [e] at h; exact h
  | ok fl st1 => rw [e] at h; cases fl <;> exact h
end
end D

/-! F: plain data: repr, ==; operations' answers. -/
namespace D
open PySem L2 PyProof.Rows
mutual
/-- data without dicts, with ints of at most 36 digits -/
def dOk : DV → Bool
  | .non => true
  | .bl _ => true
  | .int i => decide (i.natAbs < 10 ^ 36)
  | .str s => s.cps.all (· < 0x110000)
  | .lst ds => dOks ds
  | .tup ds => dOks ds
  | _ => false
def dOks : List DV → Bool
  | [] => true
  | d :: ds => dOk d && dOks ds
end
mutual
def dW : DV → Nat
  | .int _ => 128
  | .str s => s.cps.size
  | .lst ds => dWs ds
  | .tup ds => dWs ds
  | _ => 0
def dWs : List DV → Nat
  | [] => 0
  | d :: ds => dW d + 1 + dWs ds
end
mutual
def dDp : DV → Nat
  | .lst ds => dDps ds + 1
  | .tup ds => dDps ds + 1
  | _ => 0
def dDps : List DV → Nat
  | [] => 0
  | d :: ds => max (dDp d) (dDps ds)
end
structure PData (d : DV) (p : PyData) : Prop where
  eq : toP d = some p
  lay : p.canLay0 = true
  shrt : p.leavesShort 40 = true
  sho : p.showable = true
  wt : p.weight ≤ dW d
  dp : p.depth = dDp d
structure PDatas (ds : List DV) (ps : List PyData) : Prop where
  eq : toPs ds = some ps
  lay : PyData.canLayAll0 ps = true
  shrt : PyData.leavesShortAll 40 ps = true
  sho : PyData.showableAll ps = true
  wt : PyData.weightAll ps ≤ dWs ds
  dp : PyData.depthAll ps = dDps ds
theorem log2_lt {n : Nat} (h : n < 10 ^ 36) : n.log2 + 1 ≤ 128 ∧ n.log2 < 1920 := by
  by_cases h0 : n = 0
  · subst h0; decide
  · have : n.log2 < 127 := (Nat.log2_lt h0).mpr (Nat.lt_trans h (by decide))
    omega
mutual
theorem toP_ok : ∀ (d : DV), dOk d = true → ∃ p, PData d p
  | .non, _ => ⟨_, rfl, rfl, rfl, rfl, Nat.le_refl _, rfl⟩
  | .bl b, _ => ⟨_, rfl, rfl, rfl, rfl, Nat.le_refl _, rfl⟩
  | .int i, h => by
    have h' : i.natAbs < 10 ^ 36 := of_decide_eq_true h
    obtain ⟨h1, h2⟩ := log2_lt h'
    refine ⟨.int i, rfl, rfl, ?_, decide_eq_true h2, ?_, rfl⟩
    · have e := int_text_length_le10 (k := 36) (by decide) h'
      refine decide_eq_true ?_
      show (Str.ofString (toString i)).length ≤ 40
      rw [PySem.ofString_length]; omega
    · show (if i == 0 then 0 else i.natAbs.log2 + 1) ≤ 128
      split <;> omega
  | .str s, h => by
    have h' : s.cps.all (· < 0x110000) = true := h
    refine ⟨.str s, rfl, h', ?_, rfl, Nat.le_refl _, rfl⟩
    simp only [PyData.leavesShort, List.all_eq_true, decide_eq_true_eq]
    intro c hc
    have := (Array.all_eq_true_iff_forall_mem.mp h') c (Array.mem_toList_iff.mp hc)
    have h3 : c < 0x110000 := by simpa using this
    exact Nat.lt_trans h3 (by decide)
  | .lst ds, h => by
    obtain ⟨ps, q⟩ := toPs_ok ds h
    exact ⟨.list ps, by simp only [toP, q.eq]; rfl, q.lay, by simpa only [PyData.leavesShort] using q.shrt, by simpa only [PyData.showable] using q.sho, by simpa only [PyData.weight, dW] using q.wt, by simp only [PyData.depth, dDp, q.dp]⟩
  | .tup ds, h => by
    obtain ⟨ps, q⟩ := toPs_ok ds h
    exact ⟨.tuple ps, by simp only [toP, q.eq]; rfl, q.lay, by simpa only [PyData.leavesShort] using q.shrt, by simpa only [PyData.showable] using q.sho, by simpa only [PyData.weight, dW] using q.wt, by simp only [PyData.depth, dDp, q.dp]⟩
theorem toPs_ok : ∀ (ds : List DV), dOks ds = true → ∃ ps, PDatas ds ps
  | [], _ => ⟨[], rfl, rfl, rfl, rfl, Nat.le_refl _, rfl⟩
  | d :: ds, h => by
    have h' : dOk d = true ∧ dOks ds = true := by simpa only [dOks, Bool.and_eq_true] using h
    obtain ⟨p, q⟩ := toP_ok d h'.1
    obtain ⟨ps, r⟩ := toPs_ok ds h'.2
    refine ⟨p :: ps, by simp only [toPs, q.eq, r.eq], ?_, ?_, ?_, ?_, ?_⟩
    · simp only [PyData.canLayAll0, q.lay, r.lay, Bool.and_self]
    · simp only [PyData.leavesShortAll, q.shrt, r.shrt, Bool.and_self]
    · simp only [PyData.showableAll, q.sho, r.sho, Bool.and_self]
    · have h1 := q.wt
      have h2 := r.wt
      simp only [PyData.weightAll, dWs]
      omega
    · simp only [PyData.depthAll, dDps, q.dp, r.dp]
end
/-- what repr answers -/
@[irreducible] def reprS (d : DV) : Str := match toP d with | some p => p.shown | none => ""
theorem repr_ok {d : DV} (h : dOk d = true) (hw : dW d ≤ 300000) (hd : dDp d ≤ 64) : reprD d = some (.str (reprS d), .new) := by
  obtain ⟨p, q⟩ := toP_ok d h
  have h1 := PyData.shown_le 40 (by decide) p q.shrt
  have h2 := q.wt
  have h3 : p.shown.length ≤ sizeLine := by rw [sizeLine_eq]; omega
  have h4 : p.depth ≤ 64 := by rw [q.dp]; exact hd
  rw [reprD_eq (by rw [q.eq]; exact fun z => nomatch z)]
  unfold reprS
  rw [q.eq]
  simp only [q.sho, h3, h4, decide_true, Bool.and_self, if_true]
/-! ### == -/
/-! ### lists of ints -/
abbrev iL (xs : List Int) : DV := .lst (xs.map .int)
theorem dOks_ints : ∀ {xs : List Int}, (∀ x ∈ xs, x.natAbs < 10 ^ 36) → dOks (xs.map .int) = true
  | [], _ => rfl
  | x :: xs, h => by
    simp only [List.map_cons, dOks, dOk, Bool.and_eq_true, decide_eq_true_eq]
    exact ⟨h x (by simp), dOks_ints fun y hy => h y (by simp [hy])⟩
theorem dDps_ints : ∀ {xs : List Int}, dDps (xs.map .int) = 0
  | [] => rfl
  | x :: xs => by simp only [List.map_cons, dDps, dDp, dDps_ints, Nat.max_self]
theorem dWs_ints : ∀ {xs : List Int}, dWs (xs.map .int) = 129 * xs.length
  | [] => rfl
  | x :: xs => by simp only [List.map_cons, dWs, dW, dWs_ints, List.length_cons]; omega
/-! ### operations -/
section
variable {p : DV → Kd → Prop} {a : DV} {kd : Kd} {o : Option (DV × Kd)} {i j : Int} {xs ys : List DV} {x y : Str} {ct : CT}
theorem wo (h : o = some (a, kd)) (hp : p a kd) : WO o p := by rw [h]; exact hp
theorem wo_mul (h : (fits64 i || fits64 j) = true) (hp : p (.int (i * j)) .new) : WO (dBin .Mult (.int i) (.int j)) p := wo (by show dMul (.int i) (.int j) = _; simp only [dMul, h, if_true]) hp
theorem wo_div (h : 0 < j ∧ j < 2 ^ 64) (hp : p (.int (i / j)) .new) : WO (dBin .FloorDiv (.int i) (.int j)) p := wo (by show dDiv (.int i) (.int j) = _; simp only [dDiv, h, and_self, if_true]) hp
theorem wo_mod (h : 0 < j) (hp : p (.int (i % j)) .new) : WO (dBin .Mod (.int i) (.int j)) p := wo (by show dMod (.int i) (.int j) = _; simp only [dMod, h, if_true]) hp
theorem wo_pow (h : powOk i j = true) (hp : p (.int (i ^ j.toNat)) .new) : WO (dBin .Pow (.int i) (.int j)) p := wo (by show dPow (.int i) (.int j) = _; simp only [dPow, h, if_true]) hp
theorem wo_addL (h : xs.length + ys.length ≤ sizeLine) (hp : p (.lst (xs ++ ys)) .new) : WO (dBin .Add (.lst xs) (.lst ys)) p := wo (by show dAdd (.lst xs) (.lst ys) = _; simp only [dAdd, h, if_true]) hp
theorem wo_addT (h : xs.length + ys.length ≤ sizeLine) (hp : p (.tup (xs ++ ys)) .fro) : WO (dBin .Add (.tup xs) (.tup ys)) p := wo (by show dAdd (.tup xs) (.tup ys) = _; simp only [dAdd, h, if_true]) hp
theorem wo_addS (h : x.length + y.length ≤ sizeLine) (hp : p (.str (x ++ y)) .new) : WO (dBin .Add (.str x) (.str y)) p := wo (by show dAdd (.str x) (.str y) = _; simp only [dAdd, h, if_true]) hp
theorem wo_mulL (h : -(2 ^ 63) ≤ i ∧ i < 2 ^ 63 ∧ xs.length * i.toNat ≤ sizeLine) (hp : p (.lst (List.replicate i.toNat xs).flatten) .new) : WO (dBin .Mult (.lst xs) (.int i)) p := wo (by show dMul (.lst xs) (.int i) = _; simp only [dMul]; rw [if_pos h]) hp
theorem wo_repr {d : DV} (hd : dOk d = true) (hw : dW d ≤ 300000) (pd : dDp d ≤ 64) (hp : p (.str (reprS d)) .new) : WO (Blt.run ct .repr [d]) p := wo (by show reprD d = _; exact repr_ok hd hw pd) hp
theorem atI_in {α : Type} {xs : List α} {j : Int} (h0 : 0 ≤ j) (h1 : j < xs.length) : ∃ x, atI xs j = some x ∧ xs[j.toNat]? = some x ∧ x ∈ xs := by
  have hj : j.toNat < xs.length := by omega
  refine ⟨xs[j.toNat], ?_, by simp [hj], List.getElem_mem hj⟩
  have := atI_nat (xs := xs) (j := j.toNat) (List.getElem?_eq_getElem hj)
  rw [Int.toNat_of_nonneg h0] at this
  exact this
/-- xs[i], i within -/
theorem wo_ix (h0 : 0 ≤ i) (h1 : i < xs.length) (hp : ∀ d, xs[i.toNat]? = some d → d ∈ xs → p d .fro) : WO (dIx (.lst xs) (.int i)) p := by
  obtain ⟨d, e1, e2, e3⟩ := atI_in h0 h1
  exact wo (by show (ixD (.lst xs) (.int i)).map _ = _; simp only [ixD, e1, Option.map_some]) (hp d e2 e3)
end
end D

/-! F: the forward rules as a tactic takes them. -/
namespace D
open PySem L2 PyProof.Rows
theorem sl_eq : sizeLine = 16777216 := rfl
def EatT (kd : Kd) (st : DS) (n : DS → Prop) : Prop := n (st.eat kd)
section
variable {q : QE} {qb : Bool → DS → Prop} {qa : List (DV × Kd) → DS → Prop} {qv : List DV → DS → Prop} {qp : Option Int → DS → Prop} {qd : List Key → List DV → DS → Prop} {E : EK} {nx bk ct : DS → Prop} {rt : QE} {st st1 : DS} {sl : List Slot} {cs : List CellC} {fa fb fc fe : Ev} {f g : Sv} {ta tb t : Tv} {ga gb : Ak} {ge : Av'} {d a b : DV} {kd : Kd} {i j : Nat} {o : Option (DV × Kd)} {p : DV → Kd → Prop} {A B : Prop} {n : DS → Prop}
theorem eat_new (h : n st) : EatT .new st n := h
theorem eat_fro (h : n st) : EatT .fro st n := h
theorem eat_view (h : n ⟨dropSl sl j, cs⟩) : EatT (.view j) ⟨sl, cs⟩ n := h
theorem eat_nk (h : n st) : EatT (nk a .fro) st n := by
  unfold EatT nk
  split <;> exact h
theorem eat_nkn (h : n st) : EatT (nk a .new) st n := by
  unfold EatT nk
  split <;> exact h
theorem eat_nkO (h : n st) : EatT (nk a (kdO kd)) st n := by
  unfold EatT nk kdO
  split
  · exact h
  · cases kd <;> exact h
theorem eat_kdO (h : n st) : EatT (kdO kd) st n := by
  unfold EatT kdO
  cases kd <;> exact h
theorem putT_nkF (hf : flat a = true) (h : n ⟨sl.set i (some (a, false)), cs⟩) : PutT i a (nk a kd) ⟨sl, cs⟩ n := by
  unfold nk
  rw [if_pos hf]
  exact putT_flat (by cases a <;> first | rfl | cases hf) h
theorem putT_kdF (hf : flat a = true) (h : n ⟨sl.set i (some (a, false)), cs⟩) : PutT i a (kdO kd) ⟨sl, cs⟩ n := by
  have hc : isCont a = false := by cases a <;> first | rfl | cases hf
  cases kd with
  | new => exact putT_flat hc h
  | fro => exact h
  | view j => exact h
/-- a container that is new -/
theorem putT_nkC (hc : isCont a = true) (hd : cs.all isDraw = true) (h : n ⟨sl.set i (some (a, true)), cs⟩) : PutT i a (nk a .new) ⟨sl, cs⟩ n := by
  have hf : flat a = false := by cases a <;> first | rfl | cases hc
  unfold nk
  rw [if_neg (by rw [hf]; exact Bool.false_ne_true)]
  exact putT_own hc hd h
theorem r_seq (h : WS (f st) ⟨fun st1 => WS (g st1) ⟨nx, bk, ct, rt⟩ E, bk, ct, rt⟩ E) : WS (svSeq f g st) ⟨nx, bk, ct, rt⟩ E := ws_seq h
theorem r_nx (h : nx st) : WS (svNx st) ⟨nx, bk, ct, rt⟩ E := h
theorem r_pass (h : nx st) : WS (svPass st) ⟨nx, bk, ct, rt⟩ E := h
theorem r_break (h : bk st) : WS (svBreak st) ⟨nx, bk, ct, rt⟩ E := h
theorem r_expr (h : WE' (fe st) (fun _ _ st1 => nx st1) E) : WS (svExpr fe st) ⟨nx, bk, ct, rt⟩ E := ws_expr' h
theorem r_ret (h : WE' (fe st) rt E) : WS (svRet fe st) ⟨nx, bk, ct, rt⟩ E := ws_ret' h
theorem r_retN (h : rt .non .new st) : WS (svRetN st) ⟨nx, bk, ct, rt⟩ E := h
theorem r_raise (h : E ⟨i, [], []⟩ cs) : WS (svRaise i ⟨sl, cs⟩) ⟨nx, bk, ct, rt⟩ E := h
theorem r_if (h : WT (t st) (fun c st1 => IfK c (WS (f st1) ⟨nx, bk, ct, rt⟩ E) (WS (g st1) ⟨nx, bk, ct, rt⟩ E)) E) : WS (svIf t f g st) ⟨nx, bk, ct, rt⟩ E := ws_if' h
theorem r_set (h : WE' (fe st) (fun a kd st1 => PutT i a kd st1 nx) E) : WS (svSet i fe st) ⟨nx, bk, ct, rt⟩ E := ws_set' h
theorem r_then (h : WS (f st) ⟨nx, nx, nx, fun _ _ st1 => nx st1⟩ E) : WS (svThen f st) ⟨nx, bk, ct, rt⟩ E := ws_then h
theorem r_par (h : WE' (fe st) (fun a kd st1 => ParT i a kd st1 g nx E) E) : WS (svPar i fe g st) ⟨nx, bk, ct, rt⟩ E := ws_par' h
theorem r_parN {bb : Bool} (hb : (isCont a && cs.all isDraw) = bb) (h : WS (g ⟨sl, cs⟩) ⟨fun st2 => n ⟨st2.sl.set i (some (a, bb)), st2.cs⟩, fun st2 => n ⟨st2.sl.set i (some (a, bb)), st2.cs⟩, fun st2 => n ⟨st2.sl.set i (some (a, bb)), st2.cs⟩, fun _ _ st2 => n ⟨st2.sl.set i (some (a, bb)), st2.cs⟩⟩ E) : ParT i a .new ⟨sl, cs⟩ g n E := par_new hb h
theorem r_parNk (hf : flat a = true) (h : WS (g ⟨sl, cs⟩) ⟨fun st2 => n ⟨st2.sl.set i (some (a, false)), st2.cs⟩, fun st2 => n ⟨st2.sl.set i (some (a, false)), st2.cs⟩, fun st2 => n ⟨st2.sl.set i (some (a, false)), st2.cs⟩, fun _ _ st2 => n ⟨st2.sl.set i (some (a, false)), st2.cs⟩⟩ E) : ParT i a (nk a kd) ⟨sl, cs⟩ g n E := by
  unfold nk
  rw [if_pos hf]
  refine par_new ?_ h
  cases a <;> first | rfl | cases hf
theorem r_parNf (h : WS (g ⟨sl, cs⟩) ⟨fun st2 => n ⟨st2.sl.set i (some (a, false)), st2.cs⟩, fun st2 => n ⟨st2.sl.set i (some (a, false)), st2.cs⟩, fun st2 => n ⟨st2.sl.set i (some (a, false)), st2.cs⟩, fun _ _ st2 => n ⟨st2.sl.set i (some (a, false)), st2.cs⟩⟩ E) : ParT i a (nk a .fro) ⟨sl, cs⟩ g n E := by
  by_cases hf : flat a = true
  · exact r_parNk hf h
  · unfold nk
    rw [if_neg hf]
    exact h
theorem r_aug {m : Int} (e : sl[i]? = some (some (.int m, false))) (h : WE' (fe ⟨sl, cs⟩) (fun a _ st1 => ∃ z, a = .int z ∧ nx ⟨st1.sl.set i (some (.int (m + z), false)), st1.cs⟩) E) : WS (svAug i fe ⟨sl, cs⟩) ⟨nx, bk, ct, rt⟩ E := ws_aug' e h
theorem r_asg {gv : Gv} (h : WE' (fe st) (fun a kd st1 => EatT kd st1 fun st2 => WG (gv a st2) nx) E) : WS (svAsg fe gv st) ⟨nx, bk, ct, rt⟩ E := ws_asg' h
theorem r_app {ds0 : List DV} (e : sl[i]? = some (some (.lst ds0, true))) (h : WE' (fe ⟨sl, cs⟩) (fun a kd st1 => EatT kd st1 fun st2 => ∃ ds, st2.sl[i]? = some (some (.lst ds, true)) ∧ ds.length < sizeLine ∧ nx ⟨st2.sl.set i (some (.lst (ds ++ [a]), true)), st2.cs⟩) E) : WS (svApp i fe ⟨sl, cs⟩) ⟨nx, bk, ct, rt⟩ E := ws_app e h
theorem r_setIx {ds0 : List DV} {fi : Ev} (e : sl[i]? = some (some (.lst ds0, true))) (h : WE' (fe ⟨sl, cs⟩) (fun a kd st1 => EatT kd st1 fun st2 => WE' (fi st2) (fun j _ st3 => ∃ ds, st3.sl[i]? = some (some (.lst ds, true)) ∧ ∃ k, j = .int k ∧ ∃ m, ixN ds.length k = some m ∧ nx ⟨st3.sl.set i (some (.lst (ds.set m a), true)), st3.cs⟩) E) E) : WS (svSetIx i fi fe ⟨sl, cs⟩) ⟨nx, bk, ct, rt⟩ E := by
  unfold svSetIx
  rw [show (⟨sl, cs⟩ : DS).sl[i]? = _ from e]
  dsimp only
  refine W.bind (W.imp h fun a st1 h => ?_)
  unfold EatT WE' at h
  refine W.bind (W.imp h fun j st2 h => ?_)
  obtain ⟨ds, e1, k, e2, m, e3, h⟩ := h
  rw [e1]
  obtain ⟨j, kj⟩ := j
  cases (show j = _ from e2)
  dsimp only
  rw [e3]
  exact h
theorem r_try {l : Nat} {C : CT} (h : WS (f st) ⟨nx, bk, ct, rt⟩ (fun _ _ => False)) : WS (svTry f (catchN C l) i j st) ⟨nx, bk, ct, rt⟩ E := by
  refine ws_try' (F := E) ?_
  cases e : f st with
  | stuck => rw [e] at h; exact h
  | exc x st1 => rw [e] at h; exact (h : False).elim
  | ok fl st1 => rw [e] at h; exact h
theorem r_for {fi : Iv} {gv : Gv} (h : WV (fi st) (fun ds st1 => WS (forGo gv f ds st1) ⟨nx, bk, ct, rt⟩ E) E) : WS (svFor fi gv f st) ⟨nx, bk, ct, rt⟩ E := ws_for' h
theorem rv_cons (h : WE' (fe st) (fun a kd st1 => EatT kd st1 fun st2 => WV (ge st2) (fun ds st3 => qv (a :: ds) st3) E) E) : WV (evCons fe ge st) qv E := wv_cons h
theorem rd_cons {r : Dv'} (h : WE' (fa st) (fun ka _ st1 => WE' (fb st1) (fun v kd st2 => EatT kd st2 fun st3 => WDp (r st3) (fun ks vs st4 => ∃ kk, keyD ka = some kk ∧ (ks.any fun j => decide (j = kk)) = false ∧ qd (kk :: ks) (v :: vs) st4) E) E) E) : WDp (dvCons fa fb r st) qd E := wd_cons h
theorem ri_e (h : WE' (fe st) (fun a kd st1 => EatT kd st1 fun st2 => ∃ ds, itemsD a = some ds ∧ qv ds st2) E) : WV (ivE fe st) qv E := wi_e' h
theorem ri_enum (h : WA (ga st) (fun as st1 => ∃ ds kd, as = [(.lst ds, kd)] ∧ EatT kd st1 (qv (enumL ds))) E) : WV (ivEnum ga st) qv E := wi_enum' h
/-- the caller's slots are as they were -/
theorem bk_p {as : List (DV × Kd)} (hv : noView as = true) (h : q a (kdO kd) ⟨sl, cs⟩) : BkT sl as a kd cs q := bk_plain hv h
theorem bk_s {as : List (DV × Kd)} (hs : safeR (a, kd) = true) (hd : cs.all isDraw = true) (h : q a (kdO kd) ⟨sl, cs⟩) : BkT sl as a kd cs q := bk_safe hs hd h
theorem wf' {m l : Nat} {sv : Sv} {ds : List DV} {q : DV → Kd → List CellC → Prop} (hl : ds.length = l) (h : WS (sv ⟨startSl m ds, cs⟩) ⟨fun st => q .non .new st.cs, fun _ => False, fun _ => False, fun a kd st => q a (RetT kd st) st.cs⟩ E) : WF' (fnSv m l sv) ds cs q E := wf_sv hl h
end
end D

/-! F: one step of a goal told forward. -/
namespace D
open PySem L2 PyProof.Rows
theorem ifk_not {A B : Prop} {a : Bool} (h : IfK a B A) : IfK (!a) A B := by
  cases a <;> exact h
theorem noView_nk {a : DV} {as : List (DV × Kd)} (h : noView as = true) : noView ((a, nk a .fro) :: as) = true := by
  unfold nk
  split <;> exact h
theorem noView_nkn {a : DV} {as : List (DV × Kd)} (h : noView as = true) : noView ((a, nk a .new) :: as) = true := by
  unfold nk
  split <;> exact h
theorem noView_nkO {a : DV} {kd : Kd} {as : List (DV × Kd)} (h : noView as = true) : noView ((a, nk a (kdO kd)) :: as) = true := by
  unfold nk kdO
  split
  · exact h
  · cases kd <;> exact h
/-- a lambda that calls one def -/
theorem we_lamF {C : CT} {L : LamD} {F : Fn} {ga : Ak} {st : DS} {q : QE} {E : EK} (h : WA (ga st.frz) (fun as st1 => noView as = true ∧ WF' F (as.map (·.1)) st1.cs (fun _ _ cs' => WS (L.rest ⟨L.sl1, cs'⟩) ⟨fun st2 => q .non .new ⟨st1.sl, st2.cs⟩, fun _ => False, fun _ => False, fun a _ st2 => q a (nk a .fro) ⟨st1.sl, st2.cs⟩⟩ noX)
    (fun x cs' => catchN C L.kx x.c = some true ∧ WS (L.rest ⟨L.slX x, cs'⟩) ⟨fun st2 => q .non .new ⟨st1.sl, st2.cs⟩, fun _ => False, fun _ => False, fun a _ st2 => q a (nk a .fro) ⟨st1.sl, st2.cs⟩⟩ noX)) noX) : WE' (evLam C L (evN (evFn F ga)) st) q E := by
  have fin : ∀ {o : Out Fl} {sl' : List Slot}, WS o ⟨fun st2 => q .non .new ⟨sl', st2.cs⟩, fun _ => False, fun _ => False, fun a _ st2 => q a (nk a .fro) ⟨sl', st2.cs⟩⟩ noX → WE' (lamBack sl' (outRet o)) q E := fun {o sl'} h => by
    cases o with
    | stuck => exact h
    | exc x st2 => exact (show False from h).elim
    | ok fl st2 => cases fl <;> exact h
  unfold evLam evN evFn
  cases e : ga st.frz with
  | stuck => rw [e] at h; exact h
  | exc x st1 => rw [e] at h; exact (h : False).elim
  | ok as st1 =>
    rw [e] at h
    obtain ⟨h1, h⟩ := (h : noView as = true ∧ _)
    unfold WF' at h
    simp only [Out.bind]
    revert h
    generalize F (as.map (·.1)) ⟨[], st1.cs⟩ = o
    intro h
    cases o with
    | stuck => exact h
    | exc x st2 =>
      obtain ⟨h2, h3⟩ := (h : catchN C L.kx x.c = some true ∧ _)
      show WE' (match catchN C L.kx x.c with | some true => lamBack (eatAll ⟨st1.sl, st2.cs⟩ as).sl (outRet (L.rest ⟨L.slX x, (eatAll ⟨st1.sl, st2.cs⟩ as).cs⟩)) | _ => .stuck) q E
      rw [h2, eatAll_noView h1]
      exact fin h3
    | ok a st2 =>
      obtain ⟨a, kd⟩ := a
      have h : WS _ _ noX := h
      cases kd <;> (simp only [backTo', Out.bind]; first | exact fin h | (rw [eatAll_noView h1, ite_self]; exact fin h) | (rw [eatAll_noView h1]; simp only [ite_self]; exact fin h))
theorem nk_pk {x : DV} : nk x (kdO (nk x .fro)) = nk x .fro := by unfold nk kdO; split <;> rfl
theorem putT_pk {i : Nat} {x : DV} {sl : List Slot} {cs : List CellC} {n : DS → Prop} (h : n ⟨sl.set i (some (x, false)), cs⟩) : PutT i x (nk x (kdO (nk x .fro))) ⟨sl, cs⟩ n := by rw [nk_pk]; exact putT_nk h
theorem next_eqD {d : DrawSt} {n : Nat} {many : Int} {q : DV → Kd → List CellC → Prop} {E : EK} (ok : DrawOk d (n + 1)) (hm : 0 < many) (hm2 : many < 2 ^ 64) (h : ∀ r d' kd, 0 ≤ r → r < many → DrawOk d' n → q (.int r) kd [.draw d']) : WF' F_next [.cel 0, .int many] [.draw d] q E := by
  obtain ⟨r, d', kd, e, r0, r1, ok'⟩ := next_run (k := 0) (cs := [.draw d]) ok rfl hm hm2
  exact WF'.eq e (h r d' kd r0 r1 ok')
theorem fits_r {i j : Int} (h : fits64 j = true) : (fits64 i || fits64 j) = true := by rw [h, Bool.or_true]
theorem fits_l {i j : Int} (h : fits64 i = true) : (fits64 i || fits64 j) = true := by rw [h, Bool.true_or]
theorem and_tt {b : Bool} {B : Prop} (h : b = true) (hB : B) : b = true ∧ B := ⟨h, hB⟩
theorem wo_neSS {s : Str} {p : DV → Kd → Prop} (h : p (.bl false) .new) : WO (dCmp .NotEq (.str s) (.str s)) p := wo (a := .bl false) (kd := .new) (by show dNe (.str s) (.str s) = _; simp [dNe, eqD]) h
theorem wo_eqSS {s : Str} {p : DV → Kd → Prop} (h : p (.bl true) .new) : WO (dCmp .Eq (.str s) (.str s)) p := wo (a := .bl true) (kd := .new) (by show dEq (.str s) (.str s) = _; simp [dEq, eqD]) h
theorem wo_neS {s s' : Str} {p : DV → Kd → Prop} (h : p (.bl (!decide (s = s'))) .new) : WO (dCmp .NotEq (.str s) (.str s')) p := wo (a := .bl (!decide (s = s'))) (kd := .new) (by show dNe (.str s) (.str s') = _; simp only [dNe, eqD, Option.map_some]) h
theorem wo_eqS {s s' : Str} {p : DV → Kd → Prop} (h : p (.bl (decide (s = s'))) .new) : WO (dCmp .Eq (.str s) (.str s')) p := wo (a := .bl (decide (s = s'))) (kd := .new) (by show dEq (.str s) (.str s') = _; simp only [dEq, eqD, Option.map_some]) h
theorem and_ff {b : Bool} {B : Prop} (h : b = false) (hB : B) : b = false ∧ B := ⟨h, hB⟩
theorem and_15 {n : Nat} {B : Prop} (h : n ≤ 15) (hB : B) : n ≤ 15 ∧ B := ⟨h, hB⟩
theorem wf_a0 {F : Fn} {cs : List CellC} {q : DV → Kd → List CellC → Prop} {E : EK} (h : WF' F [] cs q E) : WF' F (List.map (fun x : DV × Kd => x.1) []) cs q E := h
theorem wo_m0 {g : OpN} {p : DV → Kd → Prop} {a : DV} (h : WO (g (a :: [])) p) : WO (g (a :: List.map (fun x => x.1) ([] : List (DV × Kd)))) p := h
theorem wo_a1 {g : OpN} {p : DV → Kd → Prop} {a0 : DV} {k0 : Kd} (h : WO (g [a0]) p) : WO (g (List.map (fun x => x.1) [(a0, k0)])) p := h
theorem wf_a1 {F : Fn} {cs : List CellC} {q : DV → Kd → List CellC → Prop} {E : EK} {a0 : DV} {k0 : Kd} (h : WF' F [a0] cs q E) : WF' F (List.map (fun x => x.1) [(a0, k0)]) cs q E := h
theorem wo_m1 {g : OpN} {p : DV → Kd → Prop} {a : DV} {a0 : DV} {k0 : Kd} (h : WO (g (a :: [a0])) p) : WO (g (a :: List.map (fun x => x.1) [(a0, k0)])) p := h
theorem wo_a2 {g : OpN} {p : DV → Kd → Prop} {a0 a1 : DV} {k0 k1 : Kd} (h : WO (g [a0, a1]) p) : WO (g (List.map (fun x => x.1) [(a0, k0), (a1, k1)])) p := h
theorem wf_a2 {F : Fn} {cs : List CellC} {q : DV → Kd → List CellC → Prop} {E : EK} {a0 a1 : DV} {k0 k1 : Kd} (h : WF' F [a0, a1] cs q E) : WF' F (List.map (fun x => x.1) [(a0, k0), (a1, k1)]) cs q E := h
theorem wo_m2 {g : OpN} {p : DV → Kd → Prop} {a : DV} {a0 a1 : DV} {k0 k1 : Kd} (h : WO (g (a :: [a0, a1])) p) : WO (g (a :: List.map (fun x => x.1) [(a0, k0), (a1, k1)])) p := h
theorem wo_a3 {g : OpN} {p : DV → Kd → Prop} {a0 a1 a2 : DV} {k0 k1 k2 : Kd} (h : WO (g [a0, a1, a2]) p) : WO (g (List.map (fun x => x.1) [(a0, k0), (a1, k1), (a2, k2)])) p := h
theorem wf_a3 {F : Fn} {cs : List CellC} {q : DV → Kd → List CellC → Prop} {E : EK} {a0 a1 a2 : DV} {k0 k1 k2 : Kd} (h : WF' F [a0, a1, a2] cs q E) : WF' F (List.map (fun x => x.1) [(a0, k0), (a1, k1), (a2, k2)]) cs q E := h
theorem wo_m3 {g : OpN} {p : DV → Kd → Prop} {a : DV} {a0 a1 a2 : DV} {k0 k1 k2 : Kd} (h : WO (g (a :: [a0, a1, a2])) p) : WO (g (a :: List.map (fun x => x.1) [(a0, k0), (a1, k1), (a2, k2)])) p := h
theorem wo_a4 {g : OpN} {p : DV → Kd → Prop} {a0 a1 a2 a3 : DV} {k0 k1 k2 k3 : Kd} (h : WO (g [a0, a1, a2, a3]) p) : WO (g (List.map (fun x => x.1) [(a0, k0), (a1, k1), (a2, k2), (a3, k3)])) p := h
theorem wf_a4 {F : Fn} {cs : List CellC} {q : DV → Kd → List CellC → Prop} {E : EK} {a0 a1 a2 a3 : DV} {k0 k1 k2 k3 : Kd} (h : WF' F [a0, a1, a2, a3] cs q E) : WF' F (List.map (fun x => x.1) [(a0, k0), (a1, k1), (a2, k2), (a3, k3)]) cs q E := h
theorem wo_a5 {g : OpN} {p : DV → Kd → Prop} {a0 a1 a2 a3 a4 : DV} {k0 k1 k2 k3 k4 : Kd} (h : WO (g [a0, a1, a2, a3, a4]) p) : WO (g (List.map (fun x => x.1) [(a0, k0), (a1, k1), (a2, k2), (a3, k3), (a4, k4)])) p := h
theorem wf_a5 {F : Fn} {cs : List CellC} {q : DV → Kd → List CellC → Prop} {E : EK} {a0 a1 a2 a3 a4 : DV} {k0 k1 k2 k3 k4 : Kd} (h : WF' F [a0, a1, a2, a3, a4] cs q E) : WF' F (List.map (fun x => x.1) [(a0, k0), (a1, k1), (a2, k2), (a3, k3), (a4, k4)]) cs q E := h
structure RepOk (d : DV) : Prop where
  o : dOk d = true
  w : dW d ≤ 300000
  p : dDp d ≤ 64
theorem wo_rep {d : DV} {ct : CT} {p : DV → Kd → Prop} (h : RepOk d) (hp : p (.str (reprS d)) .new) : WO (Blt.run ct .repr [d]) p := wo_repr h.o h.w h.p hp
theorem RepOk.ints {xs : List Int} (hl : xs.length ≤ 2000) (h : ∀ x ∈ xs, x.natAbs < 10 ^ 36) : RepOk (iL xs) := ⟨dOks_ints h, by show dWs _ ≤ _; rw [dWs_ints]; omega, by show dDps _ + 1 ≤ 64; rw [dDps_ints]; decide⟩
theorem RepOk.bl {b : Bool} : RepOk (.bl b) := ⟨rfl, Nat.zero_le _, Nat.zero_le _⟩
theorem RepOk.int {x : Int} (h : x.natAbs < 10 ^ 36) : RepOk (.int x) := ⟨by simp [dOk, h], by show (128 : Nat) ≤ 300000; decide, by show (0 : Nat) ≤ 64; decide⟩
def FnT (F : Fn) (as : List (DV × Kd)) (st : DS) (q : QE) (E : EK) : Prop := WF' F (as.map (·.1)) st.cs (fun a kd cs' => BkT st.sl as a kd cs' q) E
theorem we_fnT {F : Fn} {ga : Ak} {st : DS} {q : QE} {E : EK} (h : WA (ga st) (fun as st1 => FnT F as st1 q E) E) : WE' (evFn F ga st) q E := we_fn h
theorem fnT0 {F : Fn} {sl : List Slot} {cs : List CellC} {q : QE} {E : EK} (h : WF' F [] cs (fun a kd cs' => BkT sl [] a kd cs' q) E) : FnT F [] ⟨sl, cs⟩ q E := h
theorem fnT1 {F : Fn} {sl : List Slot} {cs : List CellC} {q : QE} {E : EK} {a0 : DV} {k0 : Kd} (h : WF' F [a0] cs (fun a kd cs' => BkT sl [(a0, k0)] a kd cs' q) E) : FnT F [(a0, k0)] ⟨sl, cs⟩ q E := h
theorem fnT2 {F : Fn} {sl : List Slot} {cs : List CellC} {q : QE} {E : EK} {a0 a1 : DV} {k0 k1 : Kd} (h : WF' F [a0, a1] cs (fun a kd cs' => BkT sl [(a0, k0), (a1, k1)] a kd cs' q) E) : FnT F [(a0, k0), (a1, k1)] ⟨sl, cs⟩ q E := h
theorem fnT3 {F : Fn} {sl : List Slot} {cs : List CellC} {q : QE} {E : EK} {a0 a1 a2 : DV} {k0 k1 k2 : Kd} (h : WF' F [a0, a1, a2] cs (fun a kd cs' => BkT sl [(a0, k0), (a1, k1), (a2, k2)] a kd cs' q) E) : FnT F [(a0, k0), (a1, k1), (a2, k2)] ⟨sl, cs⟩ q E := h
theorem fnT4 {F : Fn} {sl : List Slot} {cs : List CellC} {q : QE} {E : EK} {a0 a1 a2 a3 : DV} {k0 k1 k2 k3 : Kd} (h : WF' F [a0, a1, a2, a3] cs (fun a kd cs' => BkT sl [(a0, k0), (a1, k1), (a2, k2), (a3, k3)] a kd cs' q) E) : FnT F [(a0, k0), (a1, k1), (a2, k2), (a3, k3)] ⟨sl, cs⟩ q E := h
theorem fnT5 {F : Fn} {sl : List Slot} {cs : List CellC} {q : QE} {E : EK} {a0 a1 a2 a3 a4 : DV} {k0 k1 k2 k3 k4 : Kd} (h : WF' F [a0, a1, a2, a3, a4] cs (fun a kd cs' => BkT sl [(a0, k0), (a1, k1), (a2, k2), (a3, k3), (a4, k4)] a kd cs' q) E) : FnT F [(a0, k0), (a1, k1), (a2, k2), (a3, k3), (a4, k4)] ⟨sl, cs⟩ q E := h
theorem par_view {i j : Nat} {a : DV} {sl : List Slot} {cs : List CellC} {g : Sv} {n : DS → Prop} {E : EK} (h : WS (g ⟨dropSl sl j, cs⟩) ⟨fun st2 => n ⟨st2.sl.set i (some (a, false)), st2.cs⟩, fun st2 => n ⟨st2.sl.set i (some (a, false)), st2.cs⟩, fun st2 => n ⟨st2.sl.set i (some (a, false)), st2.cs⟩, fun _ _ st2 => n ⟨st2.sl.set i (some (a, false)), st2.cs⟩⟩ E) : ParT i a (.view j) ⟨sl, cs⟩ g n E := h
def NkT (a : DV) (kd : Kd) (st : DS) (q : QE) : Prop := q a (nk a kd) st
section
variable {sl : List Slot} {cs : List CellC} {as : List (DV × Kd)} {a : DV} {q : QE}
theorem bk_pn (hv : noView as = true) (h : q a .new ⟨sl, cs⟩) : BkT sl as a .new cs q := bk_plain hv h
theorem bk_pf (hv : noView as = true) (h : q a .fro ⟨sl, cs⟩) : BkT sl as a .fro cs q := bk_plain hv h
theorem bk_pk (hv : noView as = true) (h : q a (nk a .fro) ⟨sl, cs⟩) : BkT sl as a (nk a .fro) cs q := bk_plain hv (by rw [show kdO (nk a .fro) = nk a .fro from by unfold nk; by_cases hf : flat a = true <;> simp [hf, kdO]]; exact h)
theorem bk_sn (hs : safeR (a, .new) = true) (hd : cs.all isDraw = true) (h : q a .new ⟨sl, cs⟩) : BkT sl as a .new cs q := bk_safe hs hd h
theorem nk_nk {kd : Kd} : nk a (nk a kd) = nk a kd := by unfold nk; split <;> rfl
theorem nk_new : nk a .new = .new := by unfold nk; split <;> rfl
theorem we_nN {fe : Ev} {st : DS} {E : EK} (h : WE' (fe st) (fun a kd st1 => NkT a kd st1 q) E) : WE' (evN fe st) q E := we_n (h.mono (fun a kd st1 h => by unfold NkT at h; exact h) fun _ _ h => h)
theorem nkT_n {st : DS} (h : q a .new st) : NkT a .new st q := by unfold NkT; rw [nk_new]; exact h
theorem nkT_k {st : DS} {kd : Kd} (h : q a (nk a kd) st) : NkT a (nk a kd) st q := by unfold NkT; rw [nk_nk]; exact h
theorem nkT_f {st : DS} {kd : Kd} (hf : flat a = true) (h : q a .new st) : NkT a kd st q := by unfold NkT nk; rw [if_pos hf]; exact h
theorem nkT {st : DS} {kd : Kd} (h : q a (nk a kd) st) : NkT a kd st q := h
end
theorem retT_k {x : DV} {st : DS} : RetT (nk x .fro) st = nk x .fro := by unfold nk; by_cases hf : flat x = true <;> simp [hf, RetT]
def frzL (sl : List Slot) : List Slot := sl.map (Option.map fun (p : DV × Bool) => (p.1, false))
def LamT (C : CT) (L : LamD) (F : Fn) (as : List (DV × Kd)) (st1 : DS) (q : QE) : Prop := noView as = true ∧ WF' F (as.map (·.1)) st1.cs (fun _ _ cs' => WS (L.rest ⟨L.sl1, cs'⟩) ⟨fun st2 => q .non .new ⟨st1.sl, st2.cs⟩, fun _ => False, fun _ => False, fun a _ st2 => q a (nk a .fro) ⟨st1.sl, st2.cs⟩⟩ noX)
    (fun x cs' => catchN C L.kx x.c = some true ∧ WS (L.rest ⟨L.slX x, cs'⟩) ⟨fun st2 => q .non .new ⟨st1.sl, st2.cs⟩, fun _ => False, fun _ => False, fun a _ st2 => q a (nk a .fro) ⟨st1.sl, st2.cs⟩⟩ noX)
theorem we_lamT {C : CT} {L : LamD} {F : Fn} {ga : Ak} {sl sl' : List Slot} {cs : List CellC} {q : QE} {E : EK} (e : frzL sl = sl') (h : WA (ga ⟨sl', cs⟩) (fun as st1 => LamT C L F as st1 q) noX) : WE' (evLam C L (evN (evFn F ga)) ⟨sl, cs⟩) q E :=
  we_lamF (by show WA (ga ⟨frzL sl, cs⟩) _ noX; rw [e]; exact h)
theorem noView_fro {a : DV} {as : List (DV × Kd)} (h : noView as = true) : noView ((a, .fro) :: as) = true := h
theorem noView_new {a : DV} {as : List (DV × Kd)} (h : noView as = true) : noView ((a, .new) :: as) = true := h
theorem begun_eqD {ns : List Int} {q : DV → Kd → List CellC → Prop} {E : EK} (hl : ns.length ≤ 63) (h : ∀ d, DrawOk d (2 ^ 40) → q (.cel 0) .fro [.draw d]) : WF' F_begun [.scr ns] [] q E := by
  have hs : ns.length ≤ sizeLine := Nat.le_trans hl (by decide)
  exact WF'.eq (sl' := []) (by simp [F_begun, hs]) (h _ (begun_ok hl))
theorem kept_of {F : Fn} (h : ∀ ns : List Int, ns.length ≤ 63 → WF' F [.scr ns] [] (fun a _ _ => a = .bl true) noX) : KeptBy F 63 := by
  intro ns hl _
  have := h ns hl
  unfold WF' at this
  revert this
  generalize F [.scr ns] ⟨[], []⟩ = o
  intro this
  cases o with
  | ok a st => obtain ⟨a, kd⟩ := a; cases (this : a = .bl true); exact ⟨kd, st, rfl⟩
  | exc x st => exact (show False from this).elim
  | stuck => exact (show False from this).elim
end D

/-! F: more forward rules: list(range), range with a step, zip, calls by keywords. -/
namespace D
open PySem L2 PyProof.Rows
section
variable {q : QE} {qa : List (DV × Kd) → DS → Prop} {qv : List DV → DS → Prop} {E : EK} {st : DS} {fa fb : Ev} {ga : Ak}
theorem we_lr1 (h : WE' (fa st) (fun a _ st1 => ∃ j, a = .int j ∧ RgOk 0 j ∧ q (.lst (rangeL 0 (j - 0).toNat)) .new st1) E) : WE' (evLR1 fa st) q E :=
  W.bind (W.imp h fun a st1 h => by obtain ⟨j, h1, h2, h3⟩ := h; rw [h1]; dsimp only; rw [if_pos h2]; exact h3)
theorem we_lr2 (h : WE' (fa st) (fun a _ st1 => WE' (fb st1) (fun b _ st2 => ∃ i, a = .int i ∧ ∃ j, b = .int j ∧ RgOk i j ∧ q (.lst (rangeL i (j - i).toNat)) .new st2) E) E) : WE' (evLR2 fa fb st) q E :=
  W.bind (W.imp h fun a st1 h => W.bind (W.imp h fun b st2 h => by obtain ⟨i, h1, j, h2, h3, h4⟩ := h; rw [h1, h2]; dsimp only; rw [if_pos h3]; exact h4))
theorem wa_perm {π : List Nat} (h : WA (ga st) (fun as st1 => ∃ bs, permK π as = some bs ∧ qa bs st1) E) : WA (akPerm π ga st) qa E :=
  W.bind (W.imp h fun as st1 h => by obtain ⟨bs, h1, h2⟩ := h; rw [h1]; exact h2)
theorem wi_r3' (h : WA (ga st) (fun as st1 => ∃ i j c, as.map (·.1) = [DV.int i, DV.int j, DV.int c] ∧ rgOk i j c = true ∧ qv (rangeC i c (Builtin.Range.rangeSize i j c).toNat) st1) E) : WV (ivR3 ga st) qv E :=
  W.bind (W.imp h fun as st1 h => by
    obtain ⟨i, j, c, h1, h2, h3⟩ := h
    rw [h1]
    dsimp only
    rw [if_pos h2]
    exact h3)
theorem wi_zip' (h : WA (ga st) (fun as st1 => ∃ ds kd es ke, as = [(.lst ds, kd), (.lst es, ke)] ∧ qv (zipL ds es) ((st1.eat kd).eat ke)) E) : WV (ivZip ga st) qv E :=
  W.bind (W.imp h fun as st1 h => by obtain ⟨ds, kd, es, ke, h1, h2⟩ := h; subst h1; exact h2)
theorem wi_enumX' (h : WA (ga st) (fun as st1 => ∃ p, as = [p] ∧ ((∃ ds, p.1 = .lst ds ∧ EatT p.2 st1 (qv (enumL ds))) ∨ ∃ ds, p.1 = .tup ds ∧ EatT p.2 st1 (qv (enumL ds)))) E) : WV (ivEnumX ga st) qv E :=
  W.bind (W.imp h fun as st1 h => by
    obtain ⟨⟨d, kd⟩, h1, h2⟩ := h
    subst h1
    rcases h2 with ⟨ds, h3, h4⟩ | ⟨ds, h3, h4⟩
    · cases (h3 : d = _)
      exact h4
    · cases (h3 : d = _)
      exact h4)
end
end D

/-! F: forward rules for dicts, own classes, methods. -/
namespace D
open PySem L2 PyProof.Rows
section
variable {q : QE} {qa : List (DV × Kd) → DS → Prop} {E : EK} {nx bk ct : DS → Prop} {rt : QE} {st : DS} {sl : List Slot} {cs : List CellC} {fa fb fe fi fo : Ev} {ge gk : Ak} {i j n m : Nat} {mn : Str} {C : CT}
/-- what is asked, by names that do not unfold under the tactic -/
def InsT (st : DS) (a : DV) (k : Nat → List Str → Prop) : Prop := ∃ c ns, insOf st a = some (c, ns) ∧ k c ns
theorem insT {st : DS} {a : DV} {k : Nat → List Str → Prop} {c : Nat} {ns : List Str} (h : insOf st a = some (c, ns)) (hk : k c ns) : InsT st a k := ⟨c, ns, h, hk⟩
def MtT (L : MTab DV) (c : Nat) (k : List Nat → List DV → Fn → Prop) : Prop := ∃ π dds F, L c = some (π, dds, F) ∧ k π dds F
theorem mtT {L : MTab DV} {c : Nat} {k : List Nat → List DV → Fn → Prop} {π : List Nat} {dds : List DV} {F : Fn} (h : L c = some (π, dds, F)) (hk : k π dds F) : MtT L c k := ⟨π, dds, F, h, hk⟩
def PtT (L : PTab) (c : Nat) (k : Fn → Prop) : Prop := ∃ F, L c = some F ∧ k F
theorem ptT {L : PTab} {c : Nat} {k : Fn → Prop} {F : Fn} (h : L c = some F) (hk : k F) : PtT L c k := ⟨F, h, hk⟩
def PermT (π : List Nat) (as : List (DV × Kd)) (k : List (DV × Kd) → Prop) : Prop := ∃ zs, permL π as = some zs ∧ k zs
theorem permT {π : List Nat} {as zs : List (DV × Kd)} {k : List (DV × Kd) → Prop} (h : permL π as = some zs) (hk : k zs) : PermT π as k := ⟨zs, h, hk⟩
def LenT (n m : Nat) (as bs : List (DV × Kd)) (P : Prop) : Prop := (as.length = n ∧ bs.length = m) ∧ P
theorem lenT {n m : Nat} {as bs : List (DV × Kd)} {P : Prop} (h1 : as.length = n) (h2 : bs.length = m) (hP : P) : LenT n m as bs P := ⟨⟨h1, h2⟩, hP⟩
def CelT (C : CT) (st : DS) (o : DV) (f : Str) (a : DV) (nx : DS → Prop) : Prop := ∃ k, o = .cel k ∧ ∃ c ns vs, st.cs[k]? = some (.obj (.ins c ns vs)) ∧ ((c, f) ∈ C.fi ∧ ns.length < 1000) ∧ nx ⟨st.sl, st.cs.set k (.obj (.ins c (putFD f a ns vs).1 (putFD f a ns vs).2))⟩
theorem celT {C : CT} {sl : List Slot} {cs cs' : List CellC} {k c : Nat} {f : Str} {a : DV} {nx : DS → Prop} {ns ns' : List Str} {vs vs' : List DV} (h : cs[k]? = some (.obj (.ins c ns vs))) (h1 : (c, f) ∈ C.fi) (h2 : ns.length < 1000) (h3 : putFD f a ns vs = (ns', vs')) (h4 : cs.set k (.obj (.ins c ns' vs')) = cs') (hk : nx ⟨sl, cs'⟩) : CelT C ⟨sl, cs⟩ (.cel k) f a nx := ⟨k, rfl, c, ns, vs, h, ⟨h1, h2⟩, by rw [h3, h4]; exact hk⟩
def DctT (st : DS) (i : Nat) (z a : DV) (nx : DS → Prop) : Prop := ∃ ks ds k, st.sl[i]? = some (some (.dct ks ds, true)) ∧ keyD z = some k ∧ (ks.Nodup ∧ ks.length < sizeLine) ∧ nx ⟨st.sl.set i (some (.dct (putDK k a ks ds).1 (putDK k a ks ds).2, true)), st.cs⟩
theorem dctT {sl : List Slot} {cs : List CellC} {i : Nat} {z a : DV} {nx : DS → Prop} {ks : List Key} {ds : List DV} {k : Key} (h1 : sl[i]? = some (some (.dct ks ds, true))) (h2 : keyD z = some k) (h3 : ks.Nodup) (h4 : ks.length < sizeLine) (hk : nx ⟨sl.set i (some (.dct (putDK k a ks ds).1 (putDK k a ks ds).2, true)), cs⟩) : DctT ⟨sl, cs⟩ i z a nx := ⟨ks, ds, k, h1, h2, ⟨h3, h4⟩, hk⟩
def PopT (st : DS) (i j : Nat) (a : DV) (nx : DS → Prop) : Prop := ∃ ds es z k d, st.sl[i]? = some (some (.lst ds, true)) ∧ st.sl[j]? = some (some (.lst es, true)) ∧ a = .int z ∧ (-(2 ^ 63) ≤ z ∧ z < 2 ^ 63 ∧ ds.length < sizeLine) ∧ seqIndex? z es.length = some k ∧ es[k]? = some d ∧ nx ⟨(st.sl.set j (some (.lst (es.eraseIdx k), true))).set i (some (.lst (ds ++ [d]), true)), st.cs⟩
theorem r_setD {ks0 : List Key} {ds0 : List DV} (e : sl[i]? = some (some (.dct ks0 ds0, true))) (h : WE' (fe ⟨sl, cs⟩) (fun a kd st1 => EatT kd st1 fun st2 => WE' (fi st2) (fun z _ st3 => DctT st3 i z a nx) E) E) :
    WS (svSetD i fi fe ⟨sl, cs⟩) ⟨nx, bk, ct, rt⟩ E := by
  unfold svSetD
  rw [show (⟨sl, cs⟩ : DS).sl[i]? = _ from e]
  exact W.bind (W.imp h fun a st1 h => W.bind (W.imp h fun z st3 h => by
    obtain ⟨ks, ds, k, h1, h2, h3, h4⟩ := h
    rw [h1, h2]
    dsimp only
    rw [if_pos h3]
    exact h4))
theorem r_appPop {ds0 es0 : List DV} (e : sl[i]? = some (some (.lst ds0, true))) (e2 : sl[j]? = some (some (.lst es0, true))) (hij : i ≠ j)
    (h : WE' (fe ⟨sl, cs⟩) (fun a _ st1 => PopT st1 i j a nx) E) :
    WS (svAppPop i j fe ⟨sl, cs⟩) ⟨nx, bk, ct, rt⟩ E := by
  unfold svAppPop
  rw [show (⟨sl, cs⟩ : DS).sl[i]? = _ from e, show (⟨sl, cs⟩ : DS).sl[j]? = _ from e2]
  dsimp only
  rw [if_neg hij]
  exact W.bind (W.imp h fun a st1 h => by
    obtain ⟨ds, es, z, k, d, h1, h2, h3, h4, h5, h6, h7⟩ := h
    rw [h1, h2, h3]
    dsimp only
    rw [if_pos h4, h5]
    dsimp only
    rw [h6]
    exact h7)
theorem wa_arr {π : List Nat} {dds : List DV} (h : WA (ge st) (fun as st1 => WA (gk st1) (fun bs st2 => LenT n m as bs (PermT π (as ++ (bs ++ dds.map fun d => (d, Kd.fro))) fun zs => qa zs st2)) E) E) : WA (akArr π n m dds ge gk st) qa E :=
  W.bind (W.imp h fun as st1 h => W.bind (W.imp h fun bs st2 h => by
    obtain ⟨h1, zs, h2, h3⟩ := h
    rw [if_pos h1, h2]
    exact h3))
theorem wa_arrO {a : DV × Kd} {π : List Nat} {dds : List DV} (h : WA (ge st) (fun as st1 => WA (gk st1) (fun bs st2 => LenT n m as bs (PermT π ((a :: as) ++ (bs ++ dds.map fun d => (d, Kd.fro))) fun zs => qa zs st2)) E) E) : WA (akArrO a π n m dds ge gk st) qa E :=
  W.bind (W.imp h fun as st1 h => W.bind (W.imp h fun bs st2 h => by
    obtain ⟨h1, zs, h2, h3⟩ := h
    rw [if_pos h1, h2]
    exact h3))
/-- behind a def's run, as a caller sees it -/
theorem w_back {F : Fn} {as : List (DV × Kd)} (h : WF' F (as.map (·.1)) cs (fun a kd cs' => BkT sl as a kd cs' q) E) : WE' (backTo' sl as (F (as.map (·.1)) ⟨[], cs⟩)) q E := by
  unfold WF' at h
  revert h
  generalize F (as.map (·.1)) ⟨[], cs⟩ = o
  intro h
  cases o with
  | stuck => exact h
  | exc x st2 => exact (show E x (eatAll ⟨sl, st2.cs⟩ as).cs from by rw [eatAll_cs]; exact h)
  | ok a st2 => obtain ⟨a, kd⟩ := a; cases kd <;> exact h
theorem we_mth {L : MTab DV} (h : WE' (fo st) (fun a kd st1 => InsT st1 a fun c ns => ns.contains mn = false ∧ MtT L c fun π dds F => WA (akArrO (a, kd) π n m dds ge gk st1) (fun as st2 => FnT F as st2 q E) E) E) : WE' (evMth L mn n m fo ge gk st) q E :=
  W.bind (W.imp h fun a st1 h => by
    obtain ⟨c, ns, h1, h2, π, dds, F, h3, h4⟩ := h
    rw [h1]
    dsimp only
    rw [if_neg (by rw [h2]; exact Bool.false_ne_true), h3]
    exact W.bind (W.imp h4 fun as st2 h => w_back h))
theorem we_prp {L : PTab} (h : WE' (fo st) (fun a kd st1 => InsT st1 a fun c ns => PtT L c fun F => FnT F [(a, kd)] st1 q noX) E) : WE' (evPrp L fo st) q E :=
  W.bind (W.imp h fun a st1 h => by
    obtain ⟨a, kd⟩ := a
    obtain ⟨c, ns, h1, F, h3, h4⟩ := h
    rw [h1]
    dsimp only
    rw [h3]
    dsimp only
    have h5 := w_back (as := [(a, kd)]) h4
    revert h5
    show WE' (backTo' st1.sl [(a, kd)] (F [a] ⟨[], st1.cs⟩)) q noX → _
    cases F [a] ⟨[], st1.cs⟩ with
    | ok r st2 => exact id
    | exc x st2 => exact fun h => h.elim
    | stuck => exact fun h => h.elim)
theorem we_get {L : PTab} (h : WE' (fo st) (fun a kd st1 => WE' (fi st1) (fun b kb st2 => InsT st2 a fun c ns => PtT L c fun F => FnT F [(a, kd), (b, kb)] st2 q E) E) E) : WE' (evGet L fo fi st) q E :=
  W.bind (W.imp h fun a st1 h => W.bind (W.imp h fun b st2 h => by
    obtain ⟨a, kd⟩ := a
    obtain ⟨b, kb⟩ := b
    obtain ⟨c, ns, h1, F, h3, h4⟩ := h
    rw [h1]
    dsimp only
    rw [h3]
    exact w_back (as := [(a, kd), (b, kb)]) h4))
theorem we_fldC {f : Str} (h : WE' (fa st) (fun a _ st1 => ∃ d, fldC C f st1 a = some d ∧ q d (nk d .fro) st1) E) : WE' (evFldC C f fa st) q E :=
  W.bind (W.imp h fun a st1 h => by
    obtain ⟨d, h1, h2⟩ := h
    rw [h1]
    exact h2)
theorem r_setF {f : Str} (h : WE' (fe st) (fun a kd st1 => EatT kd st1 fun st2 => WE' (fo st2) (fun o _ st3 => CelT C st3 o f a nx) E) E) :
    WS (svSetF C f fo fe st) ⟨nx, bk, ct, rt⟩ E :=
  W.bind (W.imp h fun a st1 h => W.bind (W.imp h fun o st3 h => by
    obtain ⟨k, h1, c, ns, vs, h2, h3, h4⟩ := h
    rw [h1]
    dsimp only
    rw [h2]
    dsimp only
    rw [if_pos h3]
    exact h4))
theorem we_key (h : WE' (fe st) (fun a kd st1 => (keyD a).isSome = true ∧ q a kd st1) E) : WE' (evKey fe st) q E :=
  W.bind (W.imp h fun a st1 ⟨h1, h2⟩ => by
    rw [if_pos h1]
    exact h2)
theorem we_lenSc {vs : List Nat} {fv : Iv} {gv : Gv} (h : WV (fv st) (fun ds st1 => ds.length + 1 < scanBound ∧ WL (lcGo vs gv tvYes (evKey fe) ds [] (st1.dropAll vs)) fun ys st2 => q (.int (setL ys).length) .new st2) E) : WE' (evLenSc vs fv gv fe st) q E :=
  W.bind (W.imp h fun ds st1 ⟨h1, h2⟩ => by
    rw [if_pos h1]
    revert h2
    cases lcGo vs gv tvYes (evKey fe) ds [] (st1.dropAll vs) with
    | none => exact fun h => h.elim
    | some r => exact fun h => h)
theorem r_raiseX {c : Nat} {fs : List Str} (h : WA (ge st) (fun as st1 => as.length = fs.length ∧ E ⟨c, fs.reverse, (as.map (·.1)).reverse⟩ st1.cs) E) : WS (svRaiseX c fs ge st) ⟨nx, bk, ct, rt⟩ E :=
  W.bind (W.imp h fun as st1 ⟨h1, h2⟩ => by
    rw [if_pos h1]
    show E _ (eatAll st1 as).cs
    rw [eatAll_cs]
    exact h2)
end
end D

/-! F: the forward rules over words that stay shut. -/
namespace D
open PySem L2 PyProof.Rows
@[irreducible] def XE (o : Out (DV × Kd)) (q : QE) (E : EK) : Prop := WE' o q E
@[irreducible] def XT (o : Out Bool) (q : Bool → DS → Prop) (E : EK) : Prop := WT o q E
@[irreducible] def XA (o : Out (List (DV × Kd))) (q : List (DV × Kd) → DS → Prop) (E : EK) : Prop := WA o q E
@[irreducible] def XV (o : Out (List DV)) (q : List DV → DS → Prop) (E : EK) : Prop := WV o q E
@[irreducible] def XP (o : Out (Option Int)) (q : Option Int → DS → Prop) (E : EK) : Prop := WP o q E
@[irreducible] def XD (o : Out (List Key × List DV)) (q : List Key → List DV → DS → Prop) (E : EK) : Prop := WDp o q E
@[irreducible] def XS (o : Out Fl) (k : KS) (E : EK) : Prop := WS o k E
@[irreducible] def XOp (o : Option (DV × Kd)) (q : DV → Kd → Prop) : Prop := WO o q
@[irreducible] def XF (F : Fn) (ds : List DV) (cs : List CellC) (q : DV → Kd → List CellC → Prop) (E : EK) : Prop := WF' F ds cs q E
@[irreducible] def XG (o : Option DS) (q : DS → Prop) : Prop := WG o q
section
variable {q : QE} {qb : Bool → DS → Prop} {qa : List (DV × Kd) → DS → Prop} {qv : List DV → DS → Prop} {qp : Option Int → DS → Prop} {qd : List Key → List DV → DS → Prop} {E : EK} {k : KS} {st st1 : DS} {sl : List Slot} {cs : List CellC} {fa fb fc fe : Ev} {f g : Sv} {ta tb t : Tv} {ga gb : Ak} {ge : Av'} {d a b : DV} {kd : Kd} {i j : Nat} {o : Option (DV × Kd)} {p : DV → Kd → Prop} {A B : Prop}
theorem XE.mono {o : Out (DV × Kd)} {q' : QE} {E' : EK} (h : XE o q E) (hq : ∀ a kd st, q a kd st → q' a kd st) (hE : ∀ x cs, E x cs → E' x cs) : XE o q' E' := by with_unfolding_all exact WE'.mono h hq hE
theorem XS.mono {o : Out Fl} {k' : KS} {E' : EK} (h : XS o k E) (h1 : ∀ st, k.nx st → k'.nx st) (h2 : ∀ st, k.bk st → k'.bk st) (h3 : ∀ st, k.ct st → k'.ct st) (h4 : ∀ a kd st, k.rt a kd st → k'.rt a kd st) (hE : ∀ x cs, E x cs → E' x cs) : XS o k' E' := by with_unfolding_all exact WS.mono h h1 h2 h3 h4 hE
theorem XF.mono {F : Fn} {ds : List DV} {q q' : DV → Kd → List CellC → Prop} {E' : EK} (h : XF F ds cs q E) (hq : ∀ a kd cs, q a kd cs → q' a kd cs) (hE : ∀ x cs, E x cs → E' x cs) : XF F ds cs q' E' := by with_unfolding_all exact WF'.mono h hq hE
theorem XF.eq {F : Fn} {ds : List DV} {q : DV → Kd → List CellC → Prop} {cs' : List CellC} {sl' : List Slot} (e : F ds ⟨[], cs⟩ = .ok (a, kd) ⟨sl', cs'⟩) (h : q a kd cs') : XF F ds cs q E := by with_unfolding_all exact WF'.eq e h
theorem XF.ex {F : Fn} {ds : List DV} {q : DV → Kd → List CellC → Prop} {x : DX} {cs' : List CellC} {sl' : List Slot} (e : F ds ⟨[], cs⟩ = .exc x ⟨sl', cs'⟩) (h : E x cs') : XF F ds cs q E := by with_unfolding_all exact WF'.ex e h
theorem x_we_c (h : q d .new st) : XE (evC d st) q E := by with_unfolding_all exact we_c h
theorem x_we_var (e : sl[i]? = some (some (d, false))) (h : q d .fro ⟨sl, cs⟩) : XE (evVar i ⟨sl, cs⟩) q E := by with_unfolding_all exact we_var e h
theorem x_we_varO (e : sl[i]? = some (some (d, true))) (h : q d (.view i) ⟨sl, cs⟩) : XE (evVar i ⟨sl, cs⟩) q E := by with_unfolding_all exact we_varO e h
theorem x_we_cls (h : q (.cls i) .fro st) : XE (evCls i st) q E := by with_unfolding_all exact we_cls h
theorem x_we_g (h : q d .fro st) : XE (evG d st) q E := by with_unfolding_all exact we_g h
theorem x_we_op {g : Op2} (h : XE (fa st) (fun a _ st1 => XE (fb st1) (fun b _ st2 => XOp (g a b) fun c kd => q c kd st2) E) E) : XE (evOp g fa fb st) q E := by with_unfolding_all exact we_op h
theorem x_we_call {g : OpN} (h : XA (ga st) (fun as st1 => XOp (g (as.map (·.1))) fun c kd => q c kd st1) E) : XE (evCall g ga st) q E := by with_unfolding_all exact we_call h
theorem x_we_meth {isT : DV → Bool} {g : OpN} (h : XE (fa st) (fun a _ st1 => isT a = true ∧ XA (ga st1) (fun as st2 => XOp (g (a :: as.map (·.1))) fun c kd => q c kd st2) E) E) : XE (evMeth isT g fa ga st) q E := by with_unfolding_all exact we_meth h
theorem x_we_not (h : XE (fa st) (fun a _ st1 => ∃ k, truD a = some k ∧ q (.bl (!k)) .new st1) E) : XE (evNot fa st) q E := by with_unfolding_all exact we_not h
theorem x_we_and (h : XE (fa st) (fun a kd st1 => ∃ k, truD a = some k ∧ IfK k (XE (fb st1) q E) (q a kd st1)) E) : XE (evAnd fa fb st) q E := by with_unfolding_all exact we_and h
theorem x_we_or (h : XE (fa st) (fun a kd st1 => ∃ k, truD a = some k ∧ IfK k (q a kd st1) (XE (fb st1) q E)) E) : XE (evOr fa fb st) q E := by with_unfolding_all exact we_or h
theorem x_we_if (h : XT (t st) (fun k st1 => IfK k (XE (fa st1) q E) (XE (fb st1) q E)) E) : XE (evIf t fa fb st) q E := by with_unfolding_all exact we_if h
theorem x_we_neg (h : XE (fa st) (fun a _ st1 => ∃ i, a = .int i ∧ q (.int (-i)) .new st1) E) : XE (evNeg fa st) q E := by with_unfolding_all exact we_neg h
theorem x_we_chain {g g' : Op2} (h : XE (fa st) (fun a _ st1 => XE (fb st1) (fun b _ st2 => ∃ r, g a b = some (.bl r, .new) ∧ IfK r (XE (fc st2) (fun c _ st3 => XOp (g' b c) fun z kd => q z kd st3) E) (q (.bl false) .new st2)) E) E) : XE (evChain g g' fa fb fc st) q E := by with_unfolding_all exact we_chain h
theorem x_we_rev (h : XE (fa st) (fun a _ st1 => (∃ ds, a = .lst ds ∧ q (.lst ds.reverse) .new st1) ∨ ∃ ds, a = .tup ds ∧ q (.tup ds.reverse) .fro st1) E) : XE (evRev fa st) q E := by with_unfolding_all exact we_rev h
theorem x_we_fld {ct : CT} {n : Str} (h : XE (fa st) (fun a _ st1 => ∃ d, fldD ct n a = some d ∧ q d (nk d .fro) st1) E) : XE (evFld ct n fa st) q E := by with_unfolding_all exact we_fld h
theorem x_wp_none (h : qp none st) : XP (pvNone st) qp E := by with_unfolding_all exact wp_none h
theorem x_wp_some (h : XE (fa st) (fun a _ st1 => ∃ i, a = .int i ∧ qp (some i) st1) E) : XP (pvSome fa st) qp E := by with_unfolding_all exact wp_some h
theorem x_we_sl {lo hi : Pv} (h : XE (fa st) (fun a _ st1 => XP (lo st1) (fun l st2 => XP (hi st2) (fun u st3 => XOp (dSl a l u) fun c kd => q c kd st3) E) E) E) : XE (evSl fa lo hi st) q E := by with_unfolding_all exact we_sl h
theorem x_wv_nil (h : qv [] st) : XV (evNil st) qv E := by with_unfolding_all exact wv_nil h
theorem x_we_lst (h : XV (ge st) (fun ds st1 => ds.length ≤ sizeLine ∧ q (.lst ds) .new st1) E) : XE (evLst ge st) q E := by with_unfolding_all exact we_lst h
theorem x_we_tup (h : XV (ge st) (fun ds st1 => ds.length ≤ sizeLine ∧ q (.tup ds) .new st1) E) : XE (evTup ge st) q E := by with_unfolding_all exact we_tup h
theorem x_wd_nil (h : qd [] [] st) : XD (dvNil st) qd E := by with_unfolding_all exact wd_nil h
theorem x_we_dct {r : Dv'} (h : XD (r st) (fun ks vs st1 => ks.length ≤ 15 ∧ q (.dct ks vs) .new st1) E) : XE (evDct r st) q E := by with_unfolding_all exact we_dct h
theorem x_wa_nil (h : qa [] st) : XA (akNil st) qa E := by with_unfolding_all exact wa_nil h
theorem x_wa_cons (h : XE (fe st) (fun a kd st1 => XA (ga st1) (fun as st2 => qa ((a, kd) :: as) st2) E) E) : XA (akCons fe ga st) qa E := by with_unfolding_all exact wa_cons h
theorem x_wt_b (h : XE (fe st) (fun a _ st1 => ∃ k, a = .bl k ∧ qb k st1) E) : XT (tvB fe st) qb E := by with_unfolding_all exact wt_b h
theorem x_wt_e' (h : XE (fe st) (fun a _ st1 => ∃ k, truD a = some k ∧ qb k st1) E) : XT (tvE fe st) qb E := by with_unfolding_all exact wt_e' h
theorem x_wt_and (h : XT (ta st) (fun k st1 => IfK k (XT (tb st1) qb E) (qb false st1)) E) : XT (tvAnd ta tb st) qb E := by with_unfolding_all exact wt_and h
theorem x_wt_or (h : XT (ta st) (fun k st1 => IfK k (qb true st1) (XT (tb st1) qb E)) E) : XT (tvOr ta tb st) qb E := by with_unfolding_all exact wt_or h
theorem x_wt_not (h : XT (ta st) (fun k st1 => qb (!k) st1) E) : XT (tvNot ta st) qb E := by with_unfolding_all exact wt_not h
theorem x_wt_yes (h : qb true st) : XT (tvYes st) qb E := by with_unfolding_all exact wt_yes h
@[irreducible] def XPar (i : Nat) (a : DV) (kd : Kd) (st : DS) (g : Sv) (n : DS → Prop) (E : EK) : Prop := ParT i a kd st g n E
theorem x_par_fro {n : DS → Prop} (h : XS (g ⟨sl, cs⟩) ⟨fun st2 => n ⟨st2.sl.set i (some (a, false)), st2.cs⟩, fun st2 => n ⟨st2.sl.set i (some (a, false)), st2.cs⟩, fun st2 => n ⟨st2.sl.set i (some (a, false)), st2.cs⟩, fun _ _ st2 => n ⟨st2.sl.set i (some (a, false)), st2.cs⟩⟩ E) : XPar i a .fro ⟨sl, cs⟩ g n E := by with_unfolding_all exact par_fro h
theorem x_wg_name' {n : DS → Prop} (h : n ⟨sl.set i (some (d, false)), cs⟩) : XG (gvName i d ⟨sl, cs⟩) n := by with_unfolding_all exact wg_name' h
theorem x_wg_tup' {n : DS → Prop} {m : Nat} {gg : List DV → DS → Option DS} {ds : List DV} (hl : ds.length = m) (h : XG (gg ds st) n) : XG (gvTup m gg (.tup ds) st) n := by with_unfolding_all exact wg_tup' hl h
theorem x_wg_nil {n : DS → Prop} (h : n st) : XG (gvNil [] st) n := by with_unfolding_all exact wg_nil h
theorem x_wg_cons {n : DS → Prop} {g1 : Gv} {gg : List DV → DS → Option DS} {ds : List DV} (h : XG (g1 d st) fun st1 => XG (gg ds st1) n) : XG (gvCons g1 gg (d :: ds) st) n := by with_unfolding_all exact wg_cons h
theorem x_wi_r1' (h : XA (ga st) (fun as st1 => ∃ j, as.map (·.1) = [DV.int j] ∧ (-(2 ^ 62) ≤ j ∧ j < 2 ^ 62) ∧ qv (rangeL 0 j.toNat) st1) E) : XV (ivR1 ga st) qv E := by with_unfolding_all exact wi_r1' h
theorem x_wi_r2' (h : XA (ga st) (fun as st1 => ∃ i j, as.map (·.1) = [DV.int i, DV.int j] ∧ ((-(2 ^ 62) ≤ i ∧ i < 2 ^ 62) ∧ (-(2 ^ 62) ≤ j ∧ j < 2 ^ 62)) ∧ qv (rangeL i (j - i).toNat) st1) E) : XV (ivR2 ga st) qv E := by with_unfolding_all exact wi_r2' h
theorem x_wfor {gv : Gv} (I : List DV → DS → Prop) : ∀ (ds : List DV) (st : DS), I ds st → (∀ d r st, I (d :: r) st → XG (gv d st) fun st1 => XS (f st1) ⟨I r, k.nx, I r, k.rt⟩ E) → (∀ st, I [] st → k.nx st) → XS (forGo gv f ds st) k E := by with_unfolding_all exact wfor I
@[irreducible] def XL (o : Option (List DV × DS)) (q : List DV → DS → Prop) : Prop := WL o q
end
section
variable {p : DV → Kd → Prop} {a : DV} {kd : Kd} {o : Option (DV × Kd)} {i j : Int} {xs ys : List DV} {x y : Str} {ct : CT}
theorem x_wo (h : o = some (a, kd)) (hp : p a kd) : XOp o p := by with_unfolding_all exact wo h hp
theorem x_wo_mul (h : (fits64 i || fits64 j) = true) (hp : p (.int (i * j)) .new) : XOp (dBin .Mult (.int i) (.int j)) p := by with_unfolding_all exact wo_mul h hp
theorem x_wo_div (h : 0 < j ∧ j < 2 ^ 64) (hp : p (.int (i / j)) .new) : XOp (dBin .FloorDiv (.int i) (.int j)) p := by with_unfolding_all exact wo_div h hp
theorem x_wo_mod (h : 0 < j) (hp : p (.int (i % j)) .new) : XOp (dBin .Mod (.int i) (.int j)) p := by with_unfolding_all exact wo_mod h hp
theorem x_wo_pow (h : powOk i j = true) (hp : p (.int (i ^ j.toNat)) .new) : XOp (dBin .Pow (.int i) (.int j)) p := by with_unfolding_all exact wo_pow h hp
theorem x_wo_addL (h : xs.length + ys.length ≤ sizeLine) (hp : p (.lst (xs ++ ys)) .new) : XOp (dBin .Add (.lst xs) (.lst ys)) p := by with_unfolding_all exact wo_addL h hp
theorem x_wo_addT (h : xs.length + ys.length ≤ sizeLine) (hp : p (.tup (xs ++ ys)) .fro) : XOp (dBin .Add (.tup xs) (.tup ys)) p := by with_unfolding_all exact wo_addT h hp
theorem x_wo_addS (h : x.length + y.length ≤ sizeLine) (hp : p (.str (x ++ y)) .new) : XOp (dBin .Add (.str x) (.str y)) p := by with_unfolding_all exact wo_addS h hp
theorem x_wo_mulL (h : -(2 ^ 63) ≤ i ∧ i < 2 ^ 63 ∧ xs.length * i.toNat ≤ sizeLine) (hp : p (.lst (List.replicate i.toNat xs).flatten) .new) : XOp (dBin .Mult (.lst xs) (.int i)) p := by with_unfolding_all exact wo_mulL h hp
theorem x_wo_ix (h0 : 0 ≤ i) (h1 : i < xs.length) (hp : ∀ d, xs[i.toNat]? = some d → d ∈ xs → p d .fro) : XOp (dIx (.lst xs) (.int i)) p := by with_unfolding_all exact wo_ix h0 h1 hp
end
section
variable {q : QE} {qb : Bool → DS → Prop} {qa : List (DV × Kd) → DS → Prop} {qv : List DV → DS → Prop} {qp : Option Int → DS → Prop} {qd : List Key → List DV → DS → Prop} {E : EK} {nx bk ct : DS → Prop} {rt : QE} {st st1 : DS} {sl : List Slot} {cs : List CellC} {fa fb fc fe : Ev} {f g : Sv} {ta tb t : Tv} {ga gb : Ak} {ge : Av'} {d a b : DV} {kd : Kd} {i j : Nat} {o : Option (DV × Kd)} {p : DV → Kd → Prop} {A B : Prop} {n : DS → Prop}
theorem x_r_seq (h : XS (f st) ⟨fun st1 => XS (g st1) ⟨nx, bk, ct, rt⟩ E, bk, ct, rt⟩ E) : XS (svSeq f g st) ⟨nx, bk, ct, rt⟩ E := by with_unfolding_all exact r_seq h
theorem x_r_nx (h : nx st) : XS (svNx st) ⟨nx, bk, ct, rt⟩ E := by with_unfolding_all exact r_nx h
theorem x_r_pass (h : nx st) : XS (svPass st) ⟨nx, bk, ct, rt⟩ E := by with_unfolding_all exact r_pass h
theorem x_r_break (h : bk st) : XS (svBreak st) ⟨nx, bk, ct, rt⟩ E := by with_unfolding_all exact r_break h
theorem x_r_expr (h : XE (fe st) (fun _ _ st1 => nx st1) E) : XS (svExpr fe st) ⟨nx, bk, ct, rt⟩ E := by with_unfolding_all exact r_expr h
theorem x_r_ret (h : XE (fe st) rt E) : XS (svRet fe st) ⟨nx, bk, ct, rt⟩ E := by with_unfolding_all exact r_ret h
theorem x_r_retN (h : rt .non .new st) : XS (svRetN st) ⟨nx, bk, ct, rt⟩ E := by with_unfolding_all exact r_retN h
theorem x_r_raise (h : E ⟨i, [], []⟩ cs) : XS (svRaise i ⟨sl, cs⟩) ⟨nx, bk, ct, rt⟩ E := by with_unfolding_all exact r_raise h
theorem x_r_if (h : XT (t st) (fun c st1 => IfK c (XS (f st1) ⟨nx, bk, ct, rt⟩ E) (XS (g st1) ⟨nx, bk, ct, rt⟩ E)) E) : XS (svIf t f g st) ⟨nx, bk, ct, rt⟩ E := by with_unfolding_all exact r_if h
theorem x_r_set (h : XE (fe st) (fun a kd st1 => PutT i a kd st1 nx) E) : XS (svSet i fe st) ⟨nx, bk, ct, rt⟩ E := by with_unfolding_all exact r_set h
theorem x_r_then (h : XS (f st) ⟨nx, nx, nx, fun _ _ st1 => nx st1⟩ E) : XS (svThen f st) ⟨nx, bk, ct, rt⟩ E := by with_unfolding_all exact r_then h
theorem x_r_par (h : XE (fe st) (fun a kd st1 => XPar i a kd st1 g nx E) E) : XS (svPar i fe g st) ⟨nx, bk, ct, rt⟩ E := by with_unfolding_all exact r_par h
theorem x_r_parN {bb : Bool} (hb : (isCont a && cs.all isDraw) = bb) (h : XS (g ⟨sl, cs⟩) ⟨fun st2 => n ⟨st2.sl.set i (some (a, bb)), st2.cs⟩, fun st2 => n ⟨st2.sl.set i (some (a, bb)), st2.cs⟩, fun st2 => n ⟨st2.sl.set i (some (a, bb)), st2.cs⟩, fun _ _ st2 => n ⟨st2.sl.set i (some (a, bb)), st2.cs⟩⟩ E) : XPar i a .new ⟨sl, cs⟩ g n E := by with_unfolding_all exact r_parN hb h
theorem x_r_parNk (hf : flat a = true) (h : XS (g ⟨sl, cs⟩) ⟨fun st2 => n ⟨st2.sl.set i (some (a, false)), st2.cs⟩, fun st2 => n ⟨st2.sl.set i (some (a, false)), st2.cs⟩, fun st2 => n ⟨st2.sl.set i (some (a, false)), st2.cs⟩, fun _ _ st2 => n ⟨st2.sl.set i (some (a, false)), st2.cs⟩⟩ E) : XPar i a (nk a kd) ⟨sl, cs⟩ g n E := by with_unfolding_all exact r_parNk hf h
theorem x_r_parNf (h : XS (g ⟨sl, cs⟩) ⟨fun st2 => n ⟨st2.sl.set i (some (a, false)), st2.cs⟩, fun st2 => n ⟨st2.sl.set i (some (a, false)), st2.cs⟩, fun st2 => n ⟨st2.sl.set i (some (a, false)), st2.cs⟩, fun _ _ st2 => n ⟨st2.sl.set i (some (a, false)), st2.cs⟩⟩ E) : XPar i a (nk a .fro) ⟨sl, cs⟩ g n E := by with_unfolding_all exact r_parNf h
theorem x_r_aug {m : Int} (e : sl[i]? = some (some (.int m, false))) (h : XE (fe ⟨sl, cs⟩) (fun a _ st1 => ∃ z, a = .int z ∧ nx ⟨st1.sl.set i (some (.int (m + z), false)), st1.cs⟩) E) : XS (svAug i fe ⟨sl, cs⟩) ⟨nx, bk, ct, rt⟩ E := by with_unfolding_all exact r_aug e h
theorem x_r_asg {gv : Gv} (h : XE (fe st) (fun a kd st1 => EatT kd st1 fun st2 => XG (gv a st2) nx) E) : XS (svAsg fe gv st) ⟨nx, bk, ct, rt⟩ E := by with_unfolding_all exact r_asg h
theorem x_r_app {ds0 : List DV} (e : sl[i]? = some (some (.lst ds0, true))) (h : XE (fe ⟨sl, cs⟩) (fun a kd st1 => EatT kd st1 fun st2 => ∃ ds, st2.sl[i]? = some (some (.lst ds, true)) ∧ ds.length < sizeLine ∧ nx ⟨st2.sl.set i (some (.lst (ds ++ [a]), true)), st2.cs⟩) E) : XS (svApp i fe ⟨sl, cs⟩) ⟨nx, bk, ct, rt⟩ E := by with_unfolding_all exact r_app e h
theorem x_r_setIx {ds0 : List DV} {fi : Ev} (e : sl[i]? = some (some (.lst ds0, true))) (h : XE (fe ⟨sl, cs⟩) (fun a kd st1 => EatT kd st1 fun st2 => XE (fi st2) (fun j _ st3 => ∃ ds, st3.sl[i]? = some (some (.lst ds, true)) ∧ ∃ k, j = .int k ∧ ∃ m, ixN ds.length k = some m ∧ nx ⟨st3.sl.set i (some (.lst (ds.set m a), true)), st3.cs⟩) E) E) : XS (svSetIx i fi fe ⟨sl, cs⟩) ⟨nx, bk, ct, rt⟩ E := by with_unfolding_all exact r_setIx e h
theorem x_r_try {l : Nat} {C : CT} (h : XS (f st) ⟨nx, bk, ct, rt⟩ (fun _ _ => False)) : XS (svTry f (catchN C l) i j st) ⟨nx, bk, ct, rt⟩ E := by with_unfolding_all exact r_try h
theorem x_r_for {fi : Iv} {gv : Gv} (h : XV (fi st) (fun ds st1 => XS (forGo gv f ds st1) ⟨nx, bk, ct, rt⟩ E) E) : XS (svFor fi gv f st) ⟨nx, bk, ct, rt⟩ E := by with_unfolding_all exact r_for h
theorem x_rv_cons (h : XE (fe st) (fun a kd st1 => EatT kd st1 fun st2 => XV (ge st2) (fun ds st3 => qv (a :: ds) st3) E) E) : XV (evCons fe ge st) qv E := by with_unfolding_all exact rv_cons h
theorem x_rd_cons {r : Dv'} (h : XE (fa st) (fun ka _ st1 => XE (fb st1) (fun v kd st2 => EatT kd st2 fun st3 => XD (r st3) (fun ks vs st4 => ∃ kk, keyD ka = some kk ∧ (ks.any fun j => decide (j = kk)) = false ∧ qd (kk :: ks) (v :: vs) st4) E) E) E) : XD (dvCons fa fb r st) qd E := by with_unfolding_all exact rd_cons h
theorem x_ri_e (h : XE (fe st) (fun a kd st1 => EatT kd st1 fun st2 => ∃ ds, itemsD a = some ds ∧ qv ds st2) E) : XV (ivE fe st) qv E := by with_unfolding_all exact ri_e h
theorem x_ri_enum (h : XA (ga st) (fun as st1 => ∃ ds kd, as = [(.lst ds, kd)] ∧ EatT kd st1 (qv (enumL ds))) E) : XV (ivEnum ga st) qv E := by with_unfolding_all exact ri_enum h
theorem x_wf' {m l : Nat} {sv : Sv} {ds : List DV} {q : DV → Kd → List CellC → Prop} (hl : ds.length = l) (h : XS (sv ⟨startSl m ds, cs⟩) ⟨fun st => q .non .new st.cs, fun _ => False, fun _ => False, fun a kd st => q a (RetT kd st) st.cs⟩ E) : XF (fnSv m l sv) ds cs q E := by with_unfolding_all exact wf' hl h
end
theorem x_next_eqD {d : DrawSt} {n : Nat} {many : Int} {q : DV → Kd → List CellC → Prop} {E : EK} (ok : DrawOk d (n + 1)) (hm : 0 < many) (hm2 : many < 2 ^ 64) (h : ∀ r d' kd, 0 ≤ r → r < many → DrawOk d' n → q (.int r) kd [.draw d']) : XF F_next [.cel 0, .int many] [.draw d] q E := by with_unfolding_all exact next_eqD ok hm hm2 h
theorem x_wo_neSS {s : Str} {p : DV → Kd → Prop} (h : p (.bl false) .new) : XOp (dCmp .NotEq (.str s) (.str s)) p := by with_unfolding_all exact wo_neSS h
theorem x_wo_eqSS {s : Str} {p : DV → Kd → Prop} (h : p (.bl true) .new) : XOp (dCmp .Eq (.str s) (.str s)) p := by with_unfolding_all exact wo_eqSS h
theorem x_wo_neS {s s' : Str} {p : DV → Kd → Prop} (h : p (.bl (!decide (s = s'))) .new) : XOp (dCmp .NotEq (.str s) (.str s')) p := by with_unfolding_all exact wo_neS h
theorem x_wo_eqS {s s' : Str} {p : DV → Kd → Prop} (h : p (.bl (decide (s = s'))) .new) : XOp (dCmp .Eq (.str s) (.str s')) p := by with_unfolding_all exact wo_eqS h
theorem x_wf_a0 {F : Fn} {cs : List CellC} {q : DV → Kd → List CellC → Prop} {E : EK} (h : XF F [] cs q E) : XF F (List.map (fun x : DV × Kd => x.1) []) cs q E := by with_unfolding_all exact wf_a0 h
theorem x_wo_m0 {g : OpN} {p : DV → Kd → Prop} {a : DV} (h : XOp (g (a :: [])) p) : XOp (g (a :: List.map (fun x => x.1) ([] : List (DV × Kd)))) p := by with_unfolding_all exact wo_m0 h
theorem x_wo_a1 {g : OpN} {p : DV → Kd → Prop} {a0 : DV} {k0 : Kd} (h : XOp (g [a0]) p) : XOp (g (List.map (fun x => x.1) [(a0, k0)])) p := by with_unfolding_all exact wo_a1 h
theorem x_wf_a1 {F : Fn} {cs : List CellC} {q : DV → Kd → List CellC → Prop} {E : EK} {a0 : DV} {k0 : Kd} (h : XF F [a0] cs q E) : XF F (List.map (fun x => x.1) [(a0, k0)]) cs q E := by with_unfolding_all exact wf_a1 h
theorem x_wo_m1 {g : OpN} {p : DV → Kd → Prop} {a : DV} {a0 : DV} {k0 : Kd} (h : XOp (g (a :: [a0])) p) : XOp (g (a :: List.map (fun x => x.1) [(a0, k0)])) p := by with_unfolding_all exact wo_m1 h
theorem x_wo_a2 {g : OpN} {p : DV → Kd → Prop} {a0 a1 : DV} {k0 k1 : Kd} (h : XOp (g [a0, a1]) p) : XOp (g (List.map (fun x => x.1) [(a0, k0), (a1, k1)])) p := by with_unfolding_all exact wo_a2 h
theorem x_wf_a2 {F : Fn} {cs : List CellC} {q : DV → Kd → List CellC → Prop} {E : EK} {a0 a1 : DV} {k0 k1 : Kd} (h : XF F [a0, a1] cs q E) : XF F (List.map (fun x => x.1) [(a0, k0), (a1, k1)]) cs q E := by with_unfolding_all exact wf_a2 h
theorem x_wo_m2 {g : OpN} {p : DV → Kd → Prop} {a : DV} {a0 a1 : DV} {k0 k1 : Kd} (h : XOp (g (a :: [a0, a1])) p) : XOp (g (a :: List.map (fun x => x.1) [(a0, k0), (a1, k1)])) p := by with_unfolding_all exact wo_m2 h
theorem x_wo_a3 {g : OpN} {p : DV → Kd → Prop} {a0 a1 a2 : DV} {k0 k1 k2 : Kd} (h : XOp (g [a0, a1, a2]) p) : XOp (g (List.map (fun x => x.1) [(a0, k0), (a1, k1), (a2, k2)])) p := by with_unfolding_all exact wo_a3 h
theorem x_wf_a3 {F : Fn} {cs : List CellC} {q : DV → Kd → List CellC → Prop} {E : EK} {a0 a1 a2 : DV} {k0 k1 k2 : Kd} (h : XF F [a0, a1, a2] cs q E) : XF F (List.map (fun x => x.1) [(a0, k0), (a1, k1), (a2, k2)]) cs q E := by with_unfolding_all exact wf_a3 h
theorem x_wo_m3 {g : OpN} {p : DV → Kd → Prop} {a : DV} {a0 a1 a2 : DV} {k0 k1 k2 : Kd} (h : XOp (g (a :: [a0, a1, a2])) p) : XOp (g (a :: List.map (fun x => x.1) [(a0, k0), (a1, k1), (a2, k2)])) p := by with_unfolding_all exact wo_m3 h
theorem x_wo_a4 {g : OpN} {p : DV → Kd → Prop} {a0 a1 a2 a3 : DV} {k0 k1 k2 k3 : Kd} (h : XOp (g [a0, a1, a2, a3]) p) : XOp (g (List.map (fun x => x.1) [(a0, k0), (a1, k1), (a2, k2), (a3, k3)])) p := by with_unfolding_all exact wo_a4 h
theorem x_wf_a4 {F : Fn} {cs : List CellC} {q : DV → Kd → List CellC → Prop} {E : EK} {a0 a1 a2 a3 : DV} {k0 k1 k2 k3 : Kd} (h : XF F [a0, a1, a2, a3] cs q E) : XF F (List.map (fun x => x.1) [(a0, k0), (a1, k1), (a2, k2), (a3, k3)]) cs q E := by with_unfolding_all exact wf_a4 h
theorem x_wo_a5 {g : OpN} {p : DV → Kd → Prop} {a0 a1 a2 a3 a4 : DV} {k0 k1 k2 k3 k4 : Kd} (h : XOp (g [a0, a1, a2, a3, a4]) p) : XOp (g (List.map (fun x => x.1) [(a0, k0), (a1, k1), (a2, k2), (a3, k3), (a4, k4)])) p := by with_unfolding_all exact wo_a5 h
theorem x_wf_a5 {F : Fn} {cs : List CellC} {q : DV → Kd → List CellC → Prop} {E : EK} {a0 a1 a2 a3 a4 : DV} {k0 k1 k2 k3 k4 : Kd} (h : XF F [a0, a1, a2, a3, a4] cs q E) : XF F (List.map (fun x => x.1) [(a0, k0), (a1, k1), (a2, k2), (a3, k3), (a4, k4)]) cs q E := by with_unfolding_all exact wf_a5 h
theorem x_wo_rep {d : DV} {ct : CT} {p : DV → Kd → Prop} (h : RepOk d) (hp : p (.str (reprS d)) .new) : XOp (Blt.run ct .repr [d]) p := by with_unfolding_all exact wo_rep h hp
@[irreducible] def XFn (F : Fn) (as : List (DV × Kd)) (st : DS) (q : QE) (E : EK) : Prop := FnT F as st q E
theorem x_we_fnT {F : Fn} {ga : Ak} {st : DS} {q : QE} {E : EK} (h : XA (ga st) (fun as st1 => XFn F as st1 q E) E) : XE (evFn F ga st) q E := by with_unfolding_all exact we_fnT h
theorem x_fnT0 {F : Fn} {sl : List Slot} {cs : List CellC} {q : QE} {E : EK} (h : XF F [] cs (fun a kd cs' => BkT sl [] a kd cs' q) E) : XFn F [] ⟨sl, cs⟩ q E := by with_unfolding_all exact fnT0 h
theorem x_fnT1 {F : Fn} {sl : List Slot} {cs : List CellC} {q : QE} {E : EK} {a0 : DV} {k0 : Kd} (h : XF F [a0] cs (fun a kd cs' => BkT sl [(a0, k0)] a kd cs' q) E) : XFn F [(a0, k0)] ⟨sl, cs⟩ q E := by with_unfolding_all exact fnT1 h
theorem x_fnT2 {F : Fn} {sl : List Slot} {cs : List CellC} {q : QE} {E : EK} {a0 a1 : DV} {k0 k1 : Kd} (h : XF F [a0, a1] cs (fun a kd cs' => BkT sl [(a0, k0), (a1, k1)] a kd cs' q) E) : XFn F [(a0, k0), (a1, k1)] ⟨sl, cs⟩ q E := by with_unfolding_all exact fnT2 h
theorem x_fnT3 {F : Fn} {sl : List Slot} {cs : List CellC} {q : QE} {E : EK} {a0 a1 a2 : DV} {k0 k1 k2 : Kd} (h : XF F [a0, a1, a2] cs (fun a kd cs' => BkT sl [(a0, k0), (a1, k1), (a2, k2)] a kd cs' q) E) : XFn F [(a0, k0), (a1, k1), (a2, k2)] ⟨sl, cs⟩ q E := by with_unfolding_all exact fnT3 h
theorem x_fnT4 {F : Fn} {sl : List Slot} {cs : List CellC} {q : QE} {E : EK} {a0 a1 a2 a3 : DV} {k0 k1 k2 k3 : Kd} (h : XF F [a0, a1, a2, a3] cs (fun a kd cs' => BkT sl [(a0, k0), (a1, k1), (a2, k2), (a3, k3)] a kd cs' q) E) : XFn F [(a0, k0), (a1, k1), (a2, k2), (a3, k3)] ⟨sl, cs⟩ q E := by with_unfolding_all exact fnT4 h
theorem x_fnT5 {F : Fn} {sl : List Slot} {cs : List CellC} {q : QE} {E : EK} {a0 a1 a2 a3 a4 : DV} {k0 k1 k2 k3 k4 : Kd} (h : XF F [a0, a1, a2, a3, a4] cs (fun a kd cs' => BkT sl [(a0, k0), (a1, k1), (a2, k2), (a3, k3), (a4, k4)] a kd cs' q) E) : XFn F [(a0, k0), (a1, k1), (a2, k2), (a3, k3), (a4, k4)] ⟨sl, cs⟩ q E := by with_unfolding_all exact fnT5 h
theorem x_par_view {i j : Nat} {a : DV} {sl : List Slot} {cs : List CellC} {g : Sv} {n : DS → Prop} {E : EK} (h : XS (g ⟨dropSl sl j, cs⟩) ⟨fun st2 => n ⟨st2.sl.set i (some (a, false)), st2.cs⟩, fun st2 => n ⟨st2.sl.set i (some (a, false)), st2.cs⟩, fun st2 => n ⟨st2.sl.set i (some (a, false)), st2.cs⟩, fun _ _ st2 => n ⟨st2.sl.set i (some (a, false)), st2.cs⟩⟩ E) : XPar i a (.view j) ⟨sl, cs⟩ g n E := by with_unfolding_all exact par_view h
section
variable {sl : List Slot} {cs : List CellC} {as : List (DV × Kd)} {a : DV} {q : QE}
theorem x_we_nN {fe : Ev} {st : DS} {E : EK} (h : XE (fe st) (fun a kd st1 => NkT a kd st1 q) E) : XE (evN fe st) q E := by with_unfolding_all exact we_nN h
end
@[irreducible] def XLam (C : CT) (L : LamD) (F : Fn) (as : List (DV × Kd)) (st1 : DS) (q : QE) : Prop := LamT C L F as st1 q
theorem x_we_lamT {C : CT} {L : LamD} {F : Fn} {ga : Ak} {sl sl' : List Slot} {cs : List CellC} {q : QE} {E : EK} (e : frzL sl = sl') (h : XA (ga ⟨sl', cs⟩) (fun as st1 => XLam C L F as st1 q) noX) : XE (evLam C L (evN (evFn F ga)) ⟨sl, cs⟩) q E := by with_unfolding_all exact we_lamT e h
theorem x_begun_eqD {ns : List Int} {q : DV → Kd → List CellC → Prop} {E : EK} (hl : ns.length ≤ 63) (h : ∀ d, DrawOk d (2 ^ 40) → q (.cel 0) .fro [.draw d]) : XF F_begun [.scr ns] [] q E := by with_unfolding_all exact begun_eqD hl h
theorem x_kept_of {F : Fn} (h : ∀ ns : List Int, ns.length ≤ 63 → XF F [.scr ns] [] (fun a _ _ => a = .bl true) noX) : KeptBy F 63 := by with_unfolding_all exact kept_of h
section
variable {q : QE} {qa : List (DV × Kd) → DS → Prop} {qv : List DV → DS → Prop} {E : EK} {st : DS} {fa fb : Ev} {ga : Ak}
theorem x_we_lr1 (h : XE (fa st) (fun a _ st1 => ∃ j, a = .int j ∧ RgOk 0 j ∧ q (.lst (rangeL 0 (j - 0).toNat)) .new st1) E) : XE (evLR1 fa st) q E := by with_unfolding_all exact we_lr1 h
theorem x_we_lr2 (h : XE (fa st) (fun a _ st1 => XE (fb st1) (fun b _ st2 => ∃ i, a = .int i ∧ ∃ j, b = .int j ∧ RgOk i j ∧ q (.lst (rangeL i (j - i).toNat)) .new st2) E) E) : XE (evLR2 fa fb st) q E := by with_unfolding_all exact we_lr2 h
theorem x_wa_perm {π : List Nat} (h : XA (ga st) (fun as st1 => ∃ bs, permK π as = some bs ∧ qa bs st1) E) : XA (akPerm π ga st) qa E := by with_unfolding_all exact wa_perm h
theorem x_wi_r3' (h : XA (ga st) (fun as st1 => ∃ i j c, as.map (·.1) = [DV.int i, DV.int j, DV.int c] ∧ rgOk i j c = true ∧ qv (rangeC i c (Builtin.Range.rangeSize i j c).toNat) st1) E) : XV (ivR3 ga st) qv E := by with_unfolding_all exact wi_r3' h
theorem x_wi_zip' (h : XA (ga st) (fun as st1 => ∃ ds kd es ke, as = [(.lst ds, kd), (.lst es, ke)] ∧ qv (zipL ds es) ((st1.eat kd).eat ke)) E) : XV (ivZip ga st) qv E := by with_unfolding_all exact wi_zip' h
theorem x_wi_enumX' (h : XA (ga st) (fun as st1 => ∃ p, as = [p] ∧ ((∃ ds, p.1 = .lst ds ∧ EatT p.2 st1 (qv (enumL ds))) ∨ ∃ ds, p.1 = .tup ds ∧ EatT p.2 st1 (qv (enumL ds)))) E) : XV (ivEnumX ga st) qv E := by with_unfolding_all exact wi_enumX' h
end
section
variable {q : QE} {qa : List (DV × Kd) → DS → Prop} {E : EK} {nx bk ct : DS → Prop} {rt : QE} {st : DS} {sl : List Slot} {cs : List CellC} {fa fb fe fi fo : Ev} {ge gk : Ak} {i j n m : Nat} {mn : Str} {C : CT}
theorem x_r_setD {ks0 : List Key} {ds0 : List DV} (e : sl[i]? = some (some (.dct ks0 ds0, true))) (h : XE (fe ⟨sl, cs⟩) (fun a kd st1 => EatT kd st1 fun st2 => XE (fi st2) (fun z _ st3 => DctT st3 i z a nx) E) E) : XS (svSetD i fi fe ⟨sl, cs⟩) ⟨nx, bk, ct, rt⟩ E := by with_unfolding_all exact r_setD e h
theorem x_r_appPop {ds0 es0 : List DV} (e : sl[i]? = some (some (.lst ds0, true))) (e2 : sl[j]? = some (some (.lst es0, true))) (hij : i ≠ j)
    (h : XE (fe ⟨sl, cs⟩) (fun a _ st1 => PopT st1 i j a nx) E) : XS (svAppPop i j fe ⟨sl, cs⟩) ⟨nx, bk, ct, rt⟩ E := by with_unfolding_all exact r_appPop e e2 hij h
theorem x_wa_arr {π : List Nat} {dds : List DV} (h : XA (ge st) (fun as st1 => XA (gk st1) (fun bs st2 => LenT n m as bs (PermT π (as ++ (bs ++ dds.map fun d => (d, Kd.fro))) fun zs => qa zs st2)) E) E) : XA (akArr π n m dds ge gk st) qa E := by with_unfolding_all exact wa_arr h
theorem x_wa_arrO {a : DV × Kd} {π : List Nat} {dds : List DV} (h : XA (ge st) (fun as st1 => XA (gk st1) (fun bs st2 => LenT n m as bs (PermT π ((a :: as) ++ (bs ++ dds.map fun d => (d, Kd.fro))) fun zs => qa zs st2)) E) E) : XA (akArrO a π n m dds ge gk st) qa E := by with_unfolding_all exact wa_arrO h
theorem x_we_mth {L : MTab DV} (h : XE (fo st) (fun a kd st1 => InsT st1 a fun c ns => ns.contains mn = false ∧ MtT L c fun π dds F => XA (akArrO (a, kd) π n m dds ge gk st1) (fun as st2 => XFn F as st2 q E) E) E) : XE (evMth L mn n m fo ge gk st) q E := by with_unfolding_all exact we_mth h
theorem x_we_prp {L : PTab} (h : XE (fo st) (fun a kd st1 => InsT st1 a fun c ns => PtT L c fun F => XFn F [(a, kd)] st1 q noX) E) : XE (evPrp L fo st) q E := by with_unfolding_all exact we_prp h
theorem x_we_get {L : PTab} (h : XE (fo st) (fun a kd st1 => XE (fi st1) (fun b kb st2 => InsT st2 a fun c ns => PtT L c fun F => XFn F [(a, kd), (b, kb)] st2 q E) E) E) : XE (evGet L fo fi st) q E := by with_unfolding_all exact we_get h
theorem x_we_fldC {f : Str} (h : XE (fa st) (fun a _ st1 => ∃ d, fldC C f st1 a = some d ∧ q d (nk d .fro) st1) E) : XE (evFldC C f fa st) q E := by with_unfolding_all exact we_fldC h
theorem x_r_setF {f : Str} (h : XE (fe st) (fun a kd st1 => EatT kd st1 fun st2 => XE (fo st2) (fun o _ st3 => CelT C st3 o f a nx) E) E) : XS (svSetF C f fo fe st) ⟨nx, bk, ct, rt⟩ E := by with_unfolding_all exact r_setF h
theorem x_we_key (h : XE (fe st) (fun a kd st1 => (keyD a).isSome = true ∧ q a kd st1) E) : XE (evKey fe st) q E := by with_unfolding_all exact we_key h
theorem x_we_lenSc {vs : List Nat} {fv : Iv} {gv : Gv} (h : XV (fv st) (fun ds st1 => ds.length + 1 < scanBound ∧ XL (lcGo vs gv tvYes (evKey fe) ds [] (st1.dropAll vs)) fun ys st2 => q (.int (setL ys).length) .new st2) E) : XE (evLenSc vs fv gv fe st) q E := by with_unfolding_all exact we_lenSc h
theorem x_r_raiseX {c : Nat} {fs : List Str} (h : XA (ge st) (fun as st1 => as.length = fs.length ∧ E ⟨c, fs.reverse, (as.map (·.1)).reverse⟩ st1.cs) E) : XS (svRaiseX c fs ge st) ⟨nx, bk, ct, rt⟩ E := by with_unfolding_all exact r_raiseX h
end
end D
open PySem L2 PyProof.Rows D
local macro_rules | `(tactic| walk_at "wx1") => `(tactic| first
  | ((with_reducible guard_target =~ XE _ _ _); (first
    | with_reducible refine x_we_c ?_
    | with_reducible refine x_we_var (by with_unfolding_all rfl) ?_
    | with_reducible refine x_we_varO (by with_unfolding_all rfl) ?_
    | with_reducible refine x_we_nN ?_
    | with_reducible refine x_we_fnT ?_
    | with_reducible refine x_we_lamT (by simp only [frzL, startSl, List.map_cons, List.map_nil, List.append_nil, List.nil_append, List.cons_append, List.set_cons_zero, List.set_cons_succ, Option.map_some, Option.map_none, List.replicate_succ, List.replicate_zero, Nat.reduceSub, List.length_cons, List.length_nil] <;> rfl) ?_
    | with_reducible refine x_we_call ?_
    | with_reducible refine x_we_op ?_
    | with_reducible refine x_we_not ?_
    | with_reducible refine x_we_and ?_
    | with_reducible refine x_we_or ?_
    | with_reducible refine x_we_if ?_
    | with_reducible refine x_we_chain ?_
    | with_reducible refine x_we_meth ?_
    | with_reducible refine x_we_neg ?_
    | with_reducible refine x_we_lst ?_
    | with_reducible refine x_we_tup ?_
    | with_reducible refine x_we_dct ?_
    | with_reducible refine x_we_cls ?_
    | with_reducible refine x_we_g ?_
    | with_reducible refine x_we_sl ?_
    | with_reducible refine x_we_rev ?_
    | with_reducible refine x_we_fld ?_
    | with_reducible refine x_we_lr1 ?_
    | with_reducible refine x_we_lr2 ?_
    | with_reducible refine x_we_mth ?_
    | with_reducible refine x_we_prp ?_
    | with_reducible refine x_we_get ?_
    | with_reducible refine x_we_lenSc ?_
    | with_reducible refine x_we_key ?_
    | with_reducible refine x_we_fldC ?_))
  | ((with_reducible guard_target =~ XA _ _ _); (first
    | with_reducible refine x_wa_cons ?_
    | with_reducible refine x_wa_nil ?_
    | with_reducible refine x_wa_perm ?_
    | with_reducible refine x_wa_arr ?_
    | with_reducible refine x_wa_arrO ?_))
  | ((with_reducible guard_target =~ XS _ _ _); (first
    | with_reducible refine x_r_seq ?_
    | with_reducible refine x_r_nx ?_
    | with_reducible refine x_r_set ?_
    | with_reducible refine x_r_if ?_
    | with_reducible refine x_r_ret ?_
    | with_reducible refine x_r_retN ?_
    | with_reducible refine x_r_expr ?_
    | with_reducible refine x_r_raise ?_
    | with_reducible refine x_r_raiseX ?_
    | with_reducible refine x_r_then ?_
    | with_reducible refine x_r_par ?_
    | with_reducible refine x_r_asg ?_
    | with_reducible refine x_r_for ?_
    | with_reducible refine x_r_try ?_
    | with_reducible refine x_r_aug (by with_unfolding_all rfl) ?_
    | with_reducible refine x_r_app (by with_unfolding_all rfl) ?_
    | with_reducible refine x_r_setIx (by with_unfolding_all rfl) ?_
    | with_reducible refine x_r_setD (by with_unfolding_all rfl) ?_
    | with_reducible refine x_r_appPop (by with_unfolding_all rfl) (by with_unfolding_all rfl) (by decide) ?_
    | with_reducible refine x_r_setF ?_
    | with_reducible refine x_r_pass ?_
    | with_reducible refine x_r_break ?_))
  | ((with_reducible guard_target =~ XV _ _ _); (first
    | with_reducible refine x_rv_cons ?_
    | with_reducible refine x_wv_nil ?_
    | with_reducible refine x_ri_e ?_
    | with_reducible refine x_wi_r1' ?_
    | with_reducible refine x_wi_r2' ?_
    | with_reducible refine x_ri_enum ?_
    | with_reducible refine x_wi_r3' ?_
    | with_reducible refine x_wi_zip' ?_
    | with_reducible refine x_wi_enumX' ?_))
  | ((with_reducible guard_target =~ XT _ _ _); (first
    | with_reducible refine x_wt_b ?_
    | with_reducible refine x_wt_e' ?_
    | with_reducible refine x_wt_and ?_
    | with_reducible refine x_wt_or ?_
    | with_reducible refine x_wt_not ?_
    | with_reducible refine x_wt_yes ?_))
  | ((with_reducible guard_target =~ XOp _ _); (first
    | with_reducible refine x_wo_m0 ?_
    | with_reducible refine x_wo_a1 ?_
    | with_reducible refine x_wo_m1 ?_
    | with_reducible refine x_wo_a2 ?_
    | with_reducible refine x_wo_m2 ?_
    | with_reducible refine x_wo_a3 ?_
    | with_reducible refine x_wo_m3 ?_
    | with_reducible refine x_wo_a4 ?_
    | with_reducible refine x_wo_a5 ?_
    | with_reducible refine x_wo_div ⟨by decide, by decide⟩ ?_
    | with_reducible refine x_wo_mod (by decide) ?_
    | with_reducible refine x_wo_pow (by decide) ?_
    | with_reducible refine x_wo_neSS ?_
    | with_reducible refine x_wo_eqSS ?_
    | with_reducible refine x_wo_neS ?_
    | with_reducible refine x_wo_eqS ?_
    | with_reducible refine x_wo_addL (by first | decide | omega | (simp only [sl_eq, List.length_append, List.length_cons, List.length_nil, List.length_map, List.length_replicate, Int.toNat_natCast]; omega) | (simp [sl_eq]; omega)) ?_
    | with_reducible refine x_wo_addL ?_ ?_
    | with_reducible refine x_wo_mul (fits_r (by decide)) ?_
    | with_reducible refine x_wo_mul (fits_l (by decide)) ?_
    | with_reducible refine x_wo_addT (by first | decide | omega | (simp only [sl_eq, List.length_append, List.length_cons, List.length_nil, List.length_map, List.length_replicate, Int.toNat_natCast]; omega)) ?_
    | with_reducible refine x_wo_addT ?_ ?_
    | with_reducible refine x_wo_addS ?_ ?_
    | with_reducible refine x_wo_mulL (by first | decide | omega | (simp only [sl_eq, List.length_append, List.length_cons, List.length_nil, List.length_map, List.length_replicate, Int.toNat_natCast]; omega) | (simp [sl_eq]; omega)) ?_
    | with_reducible refine x_wo_mulL ?_ ?_
    | with_reducible refine x_wo_rep ?_ ?_
    | with_reducible refine x_wo (by with_unfolding_all rfl) ?_))
  | ((with_reducible guard_target =~ XFn _ _ _ _ _); (first
    | with_reducible refine x_fnT0 ?_
    | with_reducible refine x_fnT1 ?_
    | with_reducible refine x_fnT2 ?_
    | with_reducible refine x_fnT3 ?_
    | with_reducible refine x_fnT4 ?_
    | with_reducible refine x_fnT5 ?_))
  | ((with_reducible guard_target =~ NkT _ _ _ _); (first
    | with_reducible refine nkT_n ?_
    | with_reducible refine nkT_k ?_
    | with_reducible refine nkT_f (by with_unfolding_all rfl) ?_
    | with_reducible refine nkT ?_))
  | ((with_reducible guard_target =~ EatT _ _ _); (first
    | with_reducible refine eat_new ?_
    | with_reducible refine eat_fro ?_
    | with_reducible refine eat_view ?_
    | with_reducible refine eat_nk ?_
    | with_reducible refine eat_nkn ?_
    | with_reducible refine eat_nkO ?_
    | with_reducible refine eat_kdO ?_))
  | ((with_reducible guard_target =~ PutT _ _ _ _ _); (first
    | with_reducible refine putT_fro ?_
    | with_reducible refine putT_view ?_
    | with_reducible refine putT_nk ?_
    | with_reducible refine putT_pk ?_
    | with_reducible refine putT_flat (by with_unfolding_all rfl) ?_
    | with_reducible refine putT_own (by with_unfolding_all rfl) (by with_unfolding_all rfl) ?_
    | with_reducible refine putT_nkF (by with_unfolding_all rfl) ?_
    | with_reducible refine putT_nkC (by with_unfolding_all rfl) (by with_unfolding_all rfl) ?_
    | with_reducible refine putT_kdF (by with_unfolding_all rfl) ?_))
  | ((with_reducible guard_target =~ BkT _ _ _ _ _ _); (first
    | with_reducible refine bk_pn rfl ?_
    | with_reducible refine bk_pf rfl ?_
    | with_reducible refine bk_pk rfl ?_
    | with_reducible refine bk_pn (by walk_at "nv") ?_
    | with_reducible refine bk_pf (by walk_at "nv") ?_
    | with_reducible refine bk_pk (by walk_at "nv") ?_
    | with_reducible refine bk_sn (by with_unfolding_all rfl) (by with_unfolding_all rfl) ?_
    | with_reducible refine bk_p rfl ?_
    | with_reducible refine bk_p (by walk_at "nv") ?_
    | with_reducible refine bk_s (by with_unfolding_all rfl) (by with_unfolding_all rfl) ?_))
  | ((with_reducible guard_target =~ IfK _ _ _); (first
    | with_reducible refine IfK.yes ?_
    | with_reducible refine IfK.no ?_
    | with_reducible refine IfK.to (by first | rfl | decide) ?_
    | with_reducible refine IfK.fo (by first | rfl | decide) ?_
    | with_reducible refine ifk_not ?_))
  | ((with_reducible guard_target =~ XD _ _ _); (first
    | with_reducible refine x_rd_cons ?_
    | with_reducible refine x_wd_nil ?_))
  | ((with_reducible guard_target =~ XP _ _ _); (first
    | with_reducible refine x_wp_none ?_
    | with_reducible refine x_wp_some ?_))
  | ((with_reducible guard_target =~ XPar _ _ _ _ _ _ _); (first
    | with_reducible refine x_r_parNf ?_
    | with_reducible refine x_par_fro ?_
    | with_reducible refine x_par_view ?_
    | with_reducible refine x_r_parN (by with_unfolding_all rfl) ?_
    | with_reducible refine x_r_parNk (by with_unfolding_all rfl) ?_))
  | ((with_reducible guard_target =~ XG _ _); (first
    | with_reducible refine x_wg_name' ?_
    | with_reducible refine x_wg_tup' (by with_unfolding_all rfl) ?_
    | with_reducible refine x_wg_cons ?_
    | with_reducible refine x_wg_nil ?_))
  | ((with_reducible guard_target =~ XF _ _ _ _ _); (first
    | with_reducible refine x_wf_a0 ?_
    | with_reducible refine x_wf_a1 ?_
    | with_reducible refine x_wf_a2 ?_
    | with_reducible refine x_wf_a3 ?_
    | with_reducible refine x_wf_a4 ?_
    | with_reducible refine x_wf_a5 ?_))
  | ((with_reducible guard_target =~ RepOk _); assumption)
  | with_reducible refine ⟨_, by with_unfolding_all rfl, ?_⟩
  | with_reducible refine Or.inl ⟨_, rfl, ?_⟩
  | with_reducible refine Or.inr ⟨_, rfl, ?_⟩
  | with_reducible refine ⟨(show List.length _ ≤ sizeLine from by first | decide | omega | (simp only [sl_eq, List.length_append, List.length_cons, List.length_nil, List.length_map, List.length_replicate, Int.toNat_natCast]; omega) | (simp [sl_eq]; omega)), ?_⟩
  | with_reducible refine ⟨(show List.length _ < sizeLine from by first | decide | omega | (simp only [sl_eq, List.length_append, List.length_cons, List.length_nil, List.length_map, List.length_replicate, Int.toNat_natCast]; omega) | (simp [sl_eq]; omega)), ?_⟩
  | with_reducible refine ⟨(show RgOk _ _ from by first | decide | (refine RgOk.of_le ?_ ?_ ?_ ?_ <;> omega)), ?_⟩
  | with_reducible refine and_tt (by with_unfolding_all rfl) ?_
  | with_reducible refine and_ff (by with_unfolding_all rfl) ?_
  | with_reducible refine insT (by with_unfolding_all rfl) ?_
  | with_reducible refine mtT (by with_unfolding_all rfl) ?_
  | with_reducible refine ptT (by with_unfolding_all rfl) ?_
  | with_reducible refine permT (by with_unfolding_all rfl) ?_
  | with_reducible refine lenT (by with_unfolding_all rfl) (by with_unfolding_all rfl) ?_
  | with_reducible refine celT (by with_unfolding_all rfl) (by decide) (by decide) (by with_unfolding_all rfl) (by with_unfolding_all rfl) ?_
  | with_reducible refine dctT (by with_unfolding_all rfl) (by with_unfolding_all rfl) (by assumption) (by assumption) ?_
  | with_reducible refine and_15 (by decide) ?_
  | fail)
local macro_rules | `(tactic| walk_at "wx") => `(tactic| repeat' walk_at "wx1")
local macro_rules | `(tactic| walk_at "nv") => `(tactic| first
  | rfl
  | (with_reducible refine noView_fro ?_; walk_at "nv")
  | (with_reducible refine noView_new ?_; walk_at "nv")
  | (with_reducible refine noView_nk ?_; walk_at "nv")
  | (with_reducible refine noView_nkn ?_; walk_at "nv")
  | (with_reducible refine noView_nkO ?_; walk_at "nv"))

/-! F: calls whose answer holds no list of numbers that was handed in. -/
namespace D
open PySem L2 PyProof.Rows
section
variable {F : Fn} {ga : Ak} {st : DS} {q : QE} {E : EK}
end
theorem we_mkP {c : Nat} {f : Ev} {st : DS} {q : QE} {E : EK} (h : WE' (f st) (fun a kd st1 => EatT kd st1 fun st2 => q (.exc c [] []) .new st2) E) : WE' (evMkP c f st) q E :=
  W.bind (W.imp h fun a st1 h => h)
theorem x_we_mkP {c : Nat} {f : Ev} {st : DS} {q : QE} {E : EK} (h : XE (f st) (fun a kd st1 => EatT kd st1 fun st2 => q (.exc c [] []) .new st2) E) : XE (evMkP c f st) q E := by with_unfolding_all exact we_mkP h
theorem we_mkX {c : Nat} {fs : List Str} {g : Ak} {st : DS} {q : QE} {E : EK} (h : WA (g st) (fun as st1 => as.length = fs.length ∧ q (.exc c fs.reverse (as.map (·.1)).reverse) .new (eatAll st1 as)) E) : WE' (evMkX c fs g st) q E :=
  W.bind (W.imp h fun as st1 h => by
    rw [if_pos h.1]
    exact h.2)
theorem x_we_mkX {c : Nat} {fs : List Str} {g : Ak} {st : DS} {q : QE} {E : EK} (h : XA (g st) (fun as st1 => as.length = fs.length ∧ q (.exc c fs.reverse (as.map (·.1)).reverse) .new (eatAll st1 as)) E) : XE (evMkX c fs g st) q E := by with_unfolding_all exact we_mkX h
end D

/-! the law's text -/
namespace Law
open PySem L2 PyProof.Rows D
def topS (i : Nat) : Stmt := PySem.Challenge.pw_endlist_k15_errors_told_apart.main.body.getD i (.Pass ⟨0, 0, 0, 0⟩)
/-- the own classes -/
def CL : CT := ⟨[], [0, 1, 2, 3, 4, 5, 6, 7, 8, 9, 10, 11, 12, 13, 14, 15, 16, 17], fun a b => a == b || b == 0, [0, 1, 2, 3, 4, 5, 6, 7, 9], [], [(8, "at"), (10, "at"), (11, "name"), (12, "name"), (13, "most"), (14, "filler"), (14, "at"), (15, "number"), (16, "name"), (17, "row")]⟩
abbrev s_NoChange_init : Stmt := inClass (topS 9) 0
abbrev N_NoChange_init : List Str := ["self", "at"]
theorem sc_NoChange_init : FnScope N_NoChange_init ["self", "at"] (defScope s_NoChange_init) := ⟨rfl, rfl, rfl, by decide +kernel, rfl, by decide +kernel, by decide +kernel⟩
abbrev s_NoPlace_init : Stmt := inClass (topS 11) 0
abbrev N_NoPlace_init : List Str := ["self", "at"]
theorem sc_NoPlace_init : FnScope N_NoPlace_init ["self", "at"] (defScope s_NoPlace_init) := ⟨rfl, rfl, rfl, by decide +kernel, rfl, by decide +kernel, by decide +kernel⟩
abbrev s_NoEntry_init : Stmt := inClass (topS 12) 0
abbrev N_NoEntry_init : List Str := ["self", "name"]
theorem sc_NoEntry_init : FnScope N_NoEntry_init ["self", "name"] (defScope s_NoEntry_init) := ⟨rfl, rfl, rfl, by decide +kernel, rfl, by decide +kernel, by decide +kernel⟩
abbrev s_Taken_init : Stmt := inClass (topS 13) 0
abbrev N_Taken_init : List Str := ["self", "name"]
theorem sc_Taken_init : FnScope N_Taken_init ["self", "name"] (defScope s_Taken_init) := ⟨rfl, rfl, rfl, by decide +kernel, rfl, by decide +kernel, by decide +kernel⟩
abbrev s_TooMany_init : Stmt := inClass (topS 14) 0
abbrev N_TooMany_init : List Str := ["self", "most"]
theorem sc_TooMany_init : FnScope N_TooMany_init ["self", "most"] (defScope s_TooMany_init) := ⟨rfl, rfl, rfl, by decide +kernel, rfl, by decide +kernel, by decide +kernel⟩
abbrev s_Unsafe_init : Stmt := inClass (topS 15) 0
abbrev N_Unsafe_init : List Str := ["self", "filler", "at"]
theorem sc_Unsafe_init : FnScope N_Unsafe_init ["self", "filler", "at"] (defScope s_Unsafe_init) := ⟨rfl, rfl, rfl, by decide +kernel, rfl, by decide +kernel, by decide +kernel⟩
abbrev s_NoSave_init : Stmt := inClass (topS 16) 0
abbrev N_NoSave_init : List Str := ["self", "number"]
theorem sc_NoSave_init : FnScope N_NoSave_init ["self", "number"] (defScope s_NoSave_init) := ⟨rfl, rfl, rfl, by decide +kernel, rfl, by decide +kernel, by decide +kernel⟩
abbrev s_NoTree_init : Stmt := inClass (topS 17) 0
abbrev N_NoTree_init : List Str := ["self", "name"]
theorem sc_NoTree_init : FnScope N_NoTree_init ["self", "name"] (defScope s_NoTree_init) := ⟨rfl, rfl, rfl, by decide +kernel, rfl, by decide +kernel, by decide +kernel⟩
abbrev s_NoText_init : Stmt := inClass (topS 18) 0
abbrev N_NoText_init : List Str := ["self", "row"]
theorem sc_NoText_init : FnScope N_NoText_init ["self", "row"] (defScope s_NoText_init) := ⟨rfl, rfl, rfl, by decide +kernel, rfl, by decide +kernel, by decide +kernel⟩
abbrev s_l_begun : Stmt := topS 20
abbrev N_l_begun : List Str := ["_law_script", "_law_great", "_law_lump"]
theorem sc_l_begun : FnScope N_l_begun ["_law_script"] (defScope s_l_begun) := ⟨rfl, rfl, rfl, by decide +kernel, rfl, by decide +kernel, by decide +kernel⟩
abbrev s_l_next : Stmt := topS 21
abbrev N_l_next : List Str := ["_law_draw", "_law_many", "_law_found", "_law_turn", "_law_lump", "_law_mixed"]
theorem sc_l_next : FnScope N_l_next ["_law_draw", "_law_many"] (defScope s_l_next) := ⟨rfl, rfl, rfl, by decide +kernel, rfl, by decide +kernel, by decide +kernel⟩
abbrev s_l_pick : Stmt := topS 22
abbrev N_l_pick : List Str := ["_law_draw", "_law_some"]
theorem sc_l_pick : FnScope N_l_pick ["_law_draw", "_law_some"] (defScope s_l_pick) := ⟨rfl, rfl, rfl, by decide +kernel, rfl, by decide +kernel, by decide +kernel⟩
abbrev s_l_marks : Stmt := topS 23
abbrev N_l_marks : List Str := ["_law_one", "_law_found"]
theorem sc_l_marks : FnScope N_l_marks ["_law_one"] (defScope s_l_marks) := ⟨rfl, rfl, rfl, by decide +kernel, rfl, by decide +kernel, by decide +kernel⟩
abbrev s_law : Stmt := topS 24
abbrev N_law : List Str := ["_law_script", "_law_draw", "_law_turn", "_law_some", "_law_thing", "_law_other", "_law_told", "_law_k", "_law_one", "_law_at", "_law_fields"]
theorem sc_law : FnScope N_law ["_law_script"] (defScope s_law) := ⟨rfl, rfl, rfl, by decide +kernel, rfl, by decide +kernel, by decide +kernel⟩
/-- what the top has written -/
abbrev _root_.D.Dt.a_NoChange_init (d : Dt) : Addr := d.a 0
abbrev _root_.D.Dt.fd_NoChange_init (d : Dt) : FuncData := d.f 0
abbrev _root_.D.Dt.a_NoPlace_init (d : Dt) : Addr := d.a 1
abbrev _root_.D.Dt.fd_NoPlace_init (d : Dt) : FuncData := d.f 1
abbrev _root_.D.Dt.a_NoEntry_init (d : Dt) : Addr := d.a 2
abbrev _root_.D.Dt.fd_NoEntry_init (d : Dt) : FuncData := d.f 2
abbrev _root_.D.Dt.a_Taken_init (d : Dt) : Addr := d.a 3
abbrev _root_.D.Dt.fd_Taken_init (d : Dt) : FuncData := d.f 3
abbrev _root_.D.Dt.a_TooMany_init (d : Dt) : Addr := d.a 4
abbrev _root_.D.Dt.fd_TooMany_init (d : Dt) : FuncData := d.f 4
abbrev _root_.D.Dt.a_Unsafe_init (d : Dt) : Addr := d.a 5
abbrev _root_.D.Dt.fd_Unsafe_init (d : Dt) : FuncData := d.f 5
abbrev _root_.D.Dt.a_NoSave_init (d : Dt) : Addr := d.a 6
abbrev _root_.D.Dt.fd_NoSave_init (d : Dt) : FuncData := d.f 6
abbrev _root_.D.Dt.a_NoTree_init (d : Dt) : Addr := d.a 7
abbrev _root_.D.Dt.fd_NoTree_init (d : Dt) : FuncData := d.f 7
abbrev _root_.D.Dt.a_NoText_init (d : Dt) : Addr := d.a 8
abbrev _root_.D.Dt.fd_NoText_init (d : Dt) : FuncData := d.f 8
abbrev _root_.D.Dt.a_l_begun (d : Dt) : Addr := d.a 9
abbrev _root_.D.Dt.fd_l_begun (d : Dt) : FuncData := d.f 9
abbrev _root_.D.Dt.a_l_next (d : Dt) : Addr := d.a 10
abbrev _root_.D.Dt.fd_l_next (d : Dt) : FuncData := d.f 10
abbrev _root_.D.Dt.a_l_pick (d : Dt) : Addr := d.a 11
abbrev _root_.D.Dt.fd_l_pick (d : Dt) : FuncData := d.f 11
abbrev _root_.D.Dt.a_l_marks (d : Dt) : Addr := d.a 12
abbrev _root_.D.Dt.fd_l_marks (d : Dt) : FuncData := d.f 12
abbrev _root_.D.Dt.a_law (d : Dt) : Addr := d.a 13
abbrev _root_.D.Dt.fd_law (d : Dt) : FuncData := d.f 13
structure G0 (K : PySem.W.Frag) (mg : Str → Option Value) (base : Heap) (d : Dt) : Prop where
  kc : KitC ⟨K, d.cls, d.T⟩ CL
  m_ArchiveError : mg "ArchiveError" = some (.ref (d.cls 0))
  m_NoBytes : mg "NoBytes" = some (.ref (d.cls 1))
  m_NoNumber : mg "NoNumber" = some (.ref (d.cls 2))
  m_NoTime : mg "NoTime" = some (.ref (d.cls 3))
  m_NoName : mg "NoName" = some (.ref (d.cls 4))
  m_NoComment : mg "NoComment" = some (.ref (d.cls 5))
  m_NoData : mg "NoData" = some (.ref (d.cls 6))
  m_NoState : mg "NoState" = some (.ref (d.cls 7))
  m_NoChange : mg "NoChange" = some (.ref (d.cls 8))
  m_NoFile : mg "NoFile" = some (.ref (d.cls 9))
  m_NoPlace : mg "NoPlace" = some (.ref (d.cls 10))
  m_NoEntry : mg "NoEntry" = some (.ref (d.cls 11))
  m_Taken : mg "Taken" = some (.ref (d.cls 12))
  m_TooMany : mg "TooMany" = some (.ref (d.cls 13))
  m_Unsafe : mg "Unsafe" = some (.ref (d.cls 14))
  m_NoSave : mg "NoSave" = some (.ref (d.cls 15))
  m_NoTree : mg "NoTree" = some (.ref (d.cls 16))
  m_NoText : mg "NoText" = some (.ref (d.cls 17))
  z_ValueError : mg "ValueError" = none
  z_abs : mg "abs" = none
  z_enumerate : mg "enumerate" = none
  z_isinstance : mg "isinstance" = none
  z_len : mg "len" = none
  z_range : mg "range" = none
  z_repr : mg "repr" = none
  F_NoChange_init : Fun K "__init__" "NoChange.__init__" s_NoChange_init d.a_NoChange_init d.fd_NoChange_init
  b_NoChange_init : Binds K d.fd_NoChange_init ["self", "at"] []
  F_NoPlace_init : Fun K "__init__" "NoPlace.__init__" s_NoPlace_init d.a_NoPlace_init d.fd_NoPlace_init
  b_NoPlace_init : Binds K d.fd_NoPlace_init ["self", "at"] []
structure G1 (K : PySem.W.Frag) (mg : Str → Option Value) (base : Heap) (d : Dt) : Prop where
  F_NoEntry_init : Fun K "__init__" "NoEntry.__init__" s_NoEntry_init d.a_NoEntry_init d.fd_NoEntry_init
  b_NoEntry_init : Binds K d.fd_NoEntry_init ["self", "name"] []
  F_Taken_init : Fun K "__init__" "Taken.__init__" s_Taken_init d.a_Taken_init d.fd_Taken_init
  b_Taken_init : Binds K d.fd_Taken_init ["self", "name"] []
  F_TooMany_init : Fun K "__init__" "TooMany.__init__" s_TooMany_init d.a_TooMany_init d.fd_TooMany_init
  b_TooMany_init : Binds K d.fd_TooMany_init ["self", "most"] []
  F_Unsafe_init : Fun K "__init__" "Unsafe.__init__" s_Unsafe_init d.a_Unsafe_init d.fd_Unsafe_init
  b_Unsafe_init : Binds K d.fd_Unsafe_init ["self", "filler", "at"] []
  F_NoSave_init : Fun K "__init__" "NoSave.__init__" s_NoSave_init d.a_NoSave_init d.fd_NoSave_init
  b_NoSave_init : Binds K d.fd_NoSave_init ["self", "number"] []
  F_NoTree_init : Fun K "__init__" "NoTree.__init__" s_NoTree_init d.a_NoTree_init d.fd_NoTree_init
  b_NoTree_init : Binds K d.fd_NoTree_init ["self", "name"] []
  F_NoText_init : Fun K "__init__" "NoText.__init__" s_NoText_init d.a_NoText_init d.fd_NoText_init
  b_NoText_init : Binds K d.fd_NoText_init ["self", "row"] []
  F_l_begun : Fun K "_law_begun" "_law_begun" s_l_begun d.a_l_begun d.fd_l_begun
  b_l_begun : Binds K d.fd_l_begun ["_law_script"] []
  m_l_begun : mg "_law_begun" = some (.ref d.a_l_begun)
  F_l_next : Fun K "_law_next" "_law_next" s_l_next d.a_l_next d.fd_l_next
  b_l_next : Binds K d.fd_l_next ["_law_draw", "_law_many"] []
  m_l_next : mg "_law_next" = some (.ref d.a_l_next)
  F_l_pick : Fun K "_law_pick" "_law_pick" s_l_pick d.a_l_pick d.fd_l_pick
  b_l_pick : Binds K d.fd_l_pick ["_law_draw", "_law_some"] []
  m_l_pick : mg "_law_pick" = some (.ref d.a_l_pick)
  F_l_marks : Fun K "_law_marks" "_law_marks" s_l_marks d.a_l_marks d.fd_l_marks
  b_l_marks : Binds K d.fd_l_marks ["_law_one"] []
  m_l_marks : mg "_law_marks" = some (.ref d.a_l_marks)
  F_law : Fun K "law" "law" s_law d.a_law d.fd_law
  b_law : Binds K d.fd_law ["_law_script"] []
  m_law : mg "law" = some (.ref d.a_law)
  ox_NoChange : OexC K (d.cls 8)
structure G2 (K : PySem.W.Frag) (mg : Str → Option Value) (base : Heap) (d : Dt) : Prop where
  ax_NoChange : PySem.W.findIn K (.ref (d.cls 8)) "__init__" = some (some (.ref d.a_NoChange_init))
  tx_NoChange : PySem.W.typeIn K (.ref d.a_NoChange_init) = some (.type "function")
  ox_NoPlace : OexC K (d.cls 10)
  ax_NoPlace : PySem.W.findIn K (.ref (d.cls 10)) "__init__" = some (some (.ref d.a_NoPlace_init))
  tx_NoPlace : PySem.W.typeIn K (.ref d.a_NoPlace_init) = some (.type "function")
  ox_NoEntry : OexC K (d.cls 11)
  ax_NoEntry : PySem.W.findIn K (.ref (d.cls 11)) "__init__" = some (some (.ref d.a_NoEntry_init))
  tx_NoEntry : PySem.W.typeIn K (.ref d.a_NoEntry_init) = some (.type "function")
  ox_Taken : OexC K (d.cls 12)
  ax_Taken : PySem.W.findIn K (.ref (d.cls 12)) "__init__" = some (some (.ref d.a_Taken_init))
  tx_Taken : PySem.W.typeIn K (.ref d.a_Taken_init) = some (.type "function")
  ox_TooMany : OexC K (d.cls 13)
  ax_TooMany : PySem.W.findIn K (.ref (d.cls 13)) "__init__" = some (some (.ref d.a_TooMany_init))
  tx_TooMany : PySem.W.typeIn K (.ref d.a_TooMany_init) = some (.type "function")
  ox_Unsafe : OexC K (d.cls 14)
  ax_Unsafe : PySem.W.findIn K (.ref (d.cls 14)) "__init__" = some (some (.ref d.a_Unsafe_init))
  tx_Unsafe : PySem.W.typeIn K (.ref d.a_Unsafe_init) = some (.type "function")
  ox_NoSave : OexC K (d.cls 15)
  ax_NoSave : PySem.W.findIn K (.ref (d.cls 15)) "__init__" = some (some (.ref d.a_NoSave_init))
  tx_NoSave : PySem.W.typeIn K (.ref d.a_NoSave_init) = some (.type "function")
  ox_NoTree : OexC K (d.cls 16)
  ax_NoTree : PySem.W.findIn K (.ref (d.cls 16)) "__init__" = some (some (.ref d.a_NoTree_init))
  tx_NoTree : PySem.W.typeIn K (.ref d.a_NoTree_init) = some (.type "function")
  ox_NoText : OexC K (d.cls 17)
  ax_NoText : PySem.W.findIn K (.ref (d.cls 17)) "__init__" = some (some (.ref d.a_NoText_init))
  tx_NoText : PySem.W.typeIn K (.ref d.a_NoText_init) = some (.type "function")
  rd_AE : ClX.CRead K (d.cls 0) (.type "type")
  vv_AE : PySem.W.findCls K (.ref (d.cls 0)) (.type "type") "__init__" = some (.val (.builtin "ValueError.__init__"))
structure Gl (K : PySem.W.Frag) (mg : Str → Option Value) (base : Heap) where
  d : Dt
  q0 : G0 K mg base d
  q1 : G1 K mg base d
  q2 : G2 K mg base d
section
variable {K : PySem.W.Frag} {mg : Str → Option Value} {base : Heap}
abbrev Gl.cls (g : Gl K mg base) : Nat → Addr := g.d.cls
abbrev Gl.T (g : Gl K mg base) : List (Addr × Str) := g.d.T
abbrev Gl.a_NoChange_init (g : Gl K mg base) : Addr := g.d.a_NoChange_init
abbrev Gl.fd_NoChange_init (g : Gl K mg base) : FuncData := g.d.fd_NoChange_init
abbrev Gl.a_NoPlace_init (g : Gl K mg base) : Addr := g.d.a_NoPlace_init
abbrev Gl.fd_NoPlace_init (g : Gl K mg base) : FuncData := g.d.fd_NoPlace_init
abbrev Gl.a_NoEntry_init (g : Gl K mg base) : Addr := g.d.a_NoEntry_init
abbrev Gl.fd_NoEntry_init (g : Gl K mg base) : FuncData := g.d.fd_NoEntry_init
abbrev Gl.a_Taken_init (g : Gl K mg base) : Addr := g.d.a_Taken_init
abbrev Gl.fd_Taken_init (g : Gl K mg base) : FuncData := g.d.fd_Taken_init
abbrev Gl.a_TooMany_init (g : Gl K mg base) : Addr := g.d.a_TooMany_init
abbrev Gl.fd_TooMany_init (g : Gl K mg base) : FuncData := g.d.fd_TooMany_init
abbrev Gl.a_Unsafe_init (g : Gl K mg base) : Addr := g.d.a_Unsafe_init
abbrev Gl.fd_Unsafe_init (g : Gl K mg base) : FuncData := g.d.fd_Unsafe_init
abbrev Gl.a_NoSave_init (g : Gl K mg base) : Addr := g.d.a_NoSave_init
abbrev Gl.fd_NoSave_init (g : Gl K mg base) : FuncData := g.d.fd_NoSave_init
abbrev Gl.a_NoTree_init (g : Gl K mg base) : Addr := g.d.a_NoTree_init
abbrev Gl.fd_NoTree_init (g : Gl K mg base) : FuncData := g.d.fd_NoTree_init
abbrev Gl.a_NoText_init (g : Gl K mg base) : Addr := g.d.a_NoText_init
abbrev Gl.fd_NoText_init (g : Gl K mg base) : FuncData := g.d.fd_NoText_init
abbrev Gl.a_l_begun (g : Gl K mg base) : Addr := g.d.a_l_begun
abbrev Gl.fd_l_begun (g : Gl K mg base) : FuncData := g.d.fd_l_begun
abbrev Gl.a_l_next (g : Gl K mg base) : Addr := g.d.a_l_next
abbrev Gl.fd_l_next (g : Gl K mg base) : FuncData := g.d.fd_l_next
abbrev Gl.a_l_pick (g : Gl K mg base) : Addr := g.d.a_l_pick
abbrev Gl.fd_l_pick (g : Gl K mg base) : FuncData := g.d.fd_l_pick
abbrev Gl.a_l_marks (g : Gl K mg base) : Addr := g.d.a_l_marks
abbrev Gl.fd_l_marks (g : Gl K mg base) : FuncData := g.d.fd_l_marks
abbrev Gl.a_law (g : Gl K mg base) : Addr := g.d.a_law
abbrev Gl.fd_law (g : Gl K mg base) : FuncData := g.d.fd_law
theorem Gl.kc (g : Gl K mg base) : KitC ⟨K, g.cls, g.T⟩ CL := g.q0.kc
theorem Gl.m_ArchiveError (g : Gl K mg base) : mg "ArchiveError" = some (.ref (g.cls 0)) := g.q0.m_ArchiveError
theorem Gl.m_NoBytes (g : Gl K mg base) : mg "NoBytes" = some (.ref (g.cls 1)) := g.q0.m_NoBytes
theorem Gl.m_NoNumber (g : Gl K mg base) : mg "NoNumber" = some (.ref (g.cls 2)) := g.q0.m_NoNumber
theorem Gl.m_NoTime (g : Gl K mg base) : mg "NoTime" = some (.ref (g.cls 3)) := g.q0.m_NoTime
theorem Gl.m_NoName (g : Gl K mg base) : mg "NoName" = some (.ref (g.cls 4)) := g.q0.m_NoName
theorem Gl.m_NoComment (g : Gl K mg base) : mg "NoComment" = some (.ref (g.cls 5)) := g.q0.m_NoComment
theorem Gl.m_NoData (g : Gl K mg base) : mg "NoData" = some (.ref (g.cls 6)) := g.q0.m_NoData
theorem Gl.m_NoState (g : Gl K mg base) : mg "NoState" = some (.ref (g.cls 7)) := g.q0.m_NoState
theorem Gl.m_NoChange (g : Gl K mg base) : mg "NoChange" = some (.ref (g.cls 8)) := g.q0.m_NoChange
theorem Gl.m_NoFile (g : Gl K mg base) : mg "NoFile" = some (.ref (g.cls 9)) := g.q0.m_NoFile
theorem Gl.m_NoPlace (g : Gl K mg base) : mg "NoPlace" = some (.ref (g.cls 10)) := g.q0.m_NoPlace
theorem Gl.m_NoEntry (g : Gl K mg base) : mg "NoEntry" = some (.ref (g.cls 11)) := g.q0.m_NoEntry
theorem Gl.m_Taken (g : Gl K mg base) : mg "Taken" = some (.ref (g.cls 12)) := g.q0.m_Taken
theorem Gl.m_TooMany (g : Gl K mg base) : mg "TooMany" = some (.ref (g.cls 13)) := g.q0.m_TooMany
theorem Gl.m_Unsafe (g : Gl K mg base) : mg "Unsafe" = some (.ref (g.cls 14)) := g.q0.m_Unsafe
theorem Gl.m_NoSave (g : Gl K mg base) : mg "NoSave" = some (.ref (g.cls 15)) := g.q0.m_NoSave
theorem Gl.m_NoTree (g : Gl K mg base) : mg "NoTree" = some (.ref (g.cls 16)) := g.q0.m_NoTree
theorem Gl.m_NoText (g : Gl K mg base) : mg "NoText" = some (.ref (g.cls 17)) := g.q0.m_NoText
theorem Gl.z_ValueError (g : Gl K mg base) : mg "ValueError" = none := g.q0.z_ValueError
theorem Gl.z_abs (g : Gl K mg base) : mg "abs" = none := g.q0.z_abs
theorem Gl.z_enumerate (g : Gl K mg base) : mg "enumerate" = none := g.q0.z_enumerate
theorem Gl.z_isinstance (g : Gl K mg base) : mg "isinstance" = none := g.q0.z_isinstance
theorem Gl.z_len (g : Gl K mg base) : mg "len" = none := g.q0.z_len
theorem Gl.z_range (g : Gl K mg base) : mg "range" = none := g.q0.z_range
theorem Gl.z_repr (g : Gl K mg base) : mg "repr" = none := g.q0.z_repr
theorem Gl.F_NoChange_init (g : Gl K mg base) : Fun K "__init__" "NoChange.__init__" s_NoChange_init g.a_NoChange_init g.fd_NoChange_init := g.q0.F_NoChange_init
theorem Gl.b_NoChange_init (g : Gl K mg base) : Binds K g.fd_NoChange_init ["self", "at"] [] := g.q0.b_NoChange_init
theorem Gl.F_NoPlace_init (g : Gl K mg base) : Fun K "__init__" "NoPlace.__init__" s_NoPlace_init g.a_NoPlace_init g.fd_NoPlace_init := g.q0.F_NoPlace_init
theorem Gl.b_NoPlace_init (g : Gl K mg base) : Binds K g.fd_NoPlace_init ["self", "at"] [] := g.q0.b_NoPlace_init
theorem Gl.F_NoEntry_init (g : Gl K mg base) : Fun K "__init__" "NoEntry.__init__" s_NoEntry_init g.a_NoEntry_init g.fd_NoEntry_init := g.q1.F_NoEntry_init
theorem Gl.b_NoEntry_init (g : Gl K mg base) : Binds K g.fd_NoEntry_init ["self", "name"] [] := g.q1.b_NoEntry_init
theorem Gl.F_Taken_init (g : Gl K mg base) : Fun K "__init__" "Taken.__init__" s_Taken_init g.a_Taken_init g.fd_Taken_init := g.q1.F_Taken_init
theorem Gl.b_Taken_init (g : Gl K mg base) : Binds K g.fd_Taken_init ["self", "name"] [] := g.q1.b_Taken_init
theorem Gl.F_TooMany_init (g : Gl K mg base) : Fun K "__init__" "TooMany.__init__" s_TooMany_init g.a_TooMany_init g.fd_TooMany_init := g.q1.F_TooMany_init
theorem Gl.b_TooMany_init (g : Gl K mg base) : Binds K g.fd_TooMany_init ["self", "most"] [] := g.q1.b_TooMany_init
theorem Gl.F_Unsafe_init (g : Gl K mg base) : Fun K "__init__" "Unsafe.__init__" s_Unsafe_init g.a_Unsafe_init g.fd_Unsafe_init := g.q1.F_Unsafe_init
theorem Gl.b_Unsafe_init (g : Gl K mg base) : Binds K g.fd_Unsafe_init ["self", "filler", "at"] [] := g.q1.b_Unsafe_init
theorem Gl.F_NoSave_init (g : Gl K mg base) : Fun K "__init__" "NoSave.__init__" s_NoSave_init g.a_NoSave_init g.fd_NoSave_init := g.q1.F_NoSave_init
theorem Gl.b_NoSave_init (g : Gl K mg base) : Binds K g.fd_NoSave_init ["self", "number"] [] := g.q1.b_NoSave_init
theorem Gl.F_NoTree_init (g : Gl K mg base) : Fun K "__init__" "NoTree.__init__" s_NoTree_init g.a_NoTree_init g.fd_NoTree_init := g.q1.F_NoTree_init
theorem Gl.b_NoTree_init (g : Gl K mg base) : Binds K g.fd_NoTree_init ["self", "name"] [] := g.q1.b_NoTree_init
theorem Gl.F_NoText_init (g : Gl K mg base) : Fun K "__init__" "NoText.__init__" s_NoText_init g.a_NoText_init g.fd_NoText_init := g.q1.F_NoText_init
theorem Gl.b_NoText_init (g : Gl K mg base) : Binds K g.fd_NoText_init ["self", "row"] [] := g.q1.b_NoText_init
theorem Gl.F_l_begun (g : Gl K mg base) : Fun K "_law_begun" "_law_begun" s_l_begun g.a_l_begun g.fd_l_begun := g.q1.F_l_begun
theorem Gl.b_l_begun (g : Gl K mg base) : Binds K g.fd_l_begun ["_law_script"] [] := g.q1.b_l_begun
theorem Gl.m_l_begun (g : Gl K mg base) : mg "_law_begun" = some (.ref g.a_l_begun) := g.q1.m_l_begun
theorem Gl.F_l_next (g : Gl K mg base) : Fun K "_law_next" "_law_next" s_l_next g.a_l_next g.fd_l_next := g.q1.F_l_next
theorem Gl.b_l_next (g : Gl K mg base) : Binds K g.fd_l_next ["_law_draw", "_law_many"] [] := g.q1.b_l_next
theorem Gl.m_l_next (g : Gl K mg base) : mg "_law_next" = some (.ref g.a_l_next) := g.q1.m_l_next
theorem Gl.F_l_pick (g : Gl K mg base) : Fun K "_law_pick" "_law_pick" s_l_pick g.a_l_pick g.fd_l_pick := g.q1.F_l_pick
theorem Gl.b_l_pick (g : Gl K mg base) : Binds K g.fd_l_pick ["_law_draw", "_law_some"] [] := g.q1.b_l_pick
theorem Gl.m_l_pick (g : Gl K mg base) : mg "_law_pick" = some (.ref g.a_l_pick) := g.q1.m_l_pick
theorem Gl.F_l_marks (g : Gl K mg base) : Fun K "_law_marks" "_law_marks" s_l_marks g.a_l_marks g.fd_l_marks := g.q1.F_l_marks
theorem Gl.b_l_marks (g : Gl K mg base) : Binds K g.fd_l_marks ["_law_one"] [] := g.q1.b_l_marks
theorem Gl.m_l_marks (g : Gl K mg base) : mg "_law_marks" = some (.ref g.a_l_marks) := g.q1.m_l_marks
theorem Gl.F_law (g : Gl K mg base) : Fun K "law" "law" s_law g.a_law g.fd_law := g.q1.F_law
theorem Gl.b_law (g : Gl K mg base) : Binds K g.fd_law ["_law_script"] [] := g.q1.b_law
theorem Gl.m_law (g : Gl K mg base) : mg "law" = some (.ref g.a_law) := g.q1.m_law
theorem Gl.ox_NoChange (g : Gl K mg base) : OexC K (g.cls 8) := g.q1.ox_NoChange
theorem Gl.ax_NoChange (g : Gl K mg base) : PySem.W.findIn K (.ref (g.cls 8)) "__init__" = some (some (.ref g.a_NoChange_init)) := g.q2.ax_NoChange
theorem Gl.tx_NoChange (g : Gl K mg base) : PySem.W.typeIn K (.ref g.a_NoChange_init) = some (.type "function") := g.q2.tx_NoChange
theorem Gl.ox_NoPlace (g : Gl K mg base) : OexC K (g.cls 10) := g.q2.ox_NoPlace
theorem Gl.ax_NoPlace (g : Gl K mg base) : PySem.W.findIn K (.ref (g.cls 10)) "__init__" = some (some (.ref g.a_NoPlace_init)) := g.q2.ax_NoPlace
theorem Gl.tx_NoPlace (g : Gl K mg base) : PySem.W.typeIn K (.ref g.a_NoPlace_init) = some (.type "function") := g.q2.tx_NoPlace
theorem Gl.ox_NoEntry (g : Gl K mg base) : OexC K (g.cls 11) := g.q2.ox_NoEntry
theorem Gl.ax_NoEntry (g : Gl K mg base) : PySem.W.findIn K (.ref (g.cls 11)) "__init__" = some (some (.ref g.a_NoEntry_init)) := g.q2.ax_NoEntry
theorem Gl.tx_NoEntry (g : Gl K mg base) : PySem.W.typeIn K (.ref g.a_NoEntry_init) = some (.type "function") := g.q2.tx_NoEntry
theorem Gl.ox_Taken (g : Gl K mg base) : OexC K (g.cls 12) := g.q2.ox_Taken
theorem Gl.ax_Taken (g : Gl K mg base) : PySem.W.findIn K (.ref (g.cls 12)) "__init__" = some (some (.ref g.a_Taken_init)) := g.q2.ax_Taken
theorem Gl.tx_Taken (g : Gl K mg base) : PySem.W.typeIn K (.ref g.a_Taken_init) = some (.type "function") := g.q2.tx_Taken
theorem Gl.ox_TooMany (g : Gl K mg base) : OexC K (g.cls 13) := g.q2.ox_TooMany
theorem Gl.ax_TooMany (g : Gl K mg base) : PySem.W.findIn K (.ref (g.cls 13)) "__init__" = some (some (.ref g.a_TooMany_init)) := g.q2.ax_TooMany
theorem Gl.tx_TooMany (g : Gl K mg base) : PySem.W.typeIn K (.ref g.a_TooMany_init) = some (.type "function") := g.q2.tx_TooMany
theorem Gl.ox_Unsafe (g : Gl K mg base) : OexC K (g.cls 14) := g.q2.ox_Unsafe
theorem Gl.ax_Unsafe (g : Gl K mg base) : PySem.W.findIn K (.ref (g.cls 14)) "__init__" = some (some (.ref g.a_Unsafe_init)) := g.q2.ax_Unsafe
theorem Gl.tx_Unsafe (g : Gl K mg base) : PySem.W.typeIn K (.ref g.a_Unsafe_init) = some (.type "function") := g.q2.tx_Unsafe
theorem Gl.ox_NoSave (g : Gl K mg base) : OexC K (g.cls 15) := g.q2.ox_NoSave
theorem Gl.ax_NoSave (g : Gl K mg base) : PySem.W.findIn K (.ref (g.cls 15)) "__init__" = some (some (.ref g.a_NoSave_init)) := g.q2.ax_NoSave
theorem Gl.tx_NoSave (g : Gl K mg base) : PySem.W.typeIn K (.ref g.a_NoSave_init) = some (.type "function") := g.q2.tx_NoSave
theorem Gl.ox_NoTree (g : Gl K mg base) : OexC K (g.cls 16) := g.q2.ox_NoTree
theorem Gl.ax_NoTree (g : Gl K mg base) : PySem.W.findIn K (.ref (g.cls 16)) "__init__" = some (some (.ref g.a_NoTree_init)) := g.q2.ax_NoTree
theorem Gl.tx_NoTree (g : Gl K mg base) : PySem.W.typeIn K (.ref g.a_NoTree_init) = some (.type "function") := g.q2.tx_NoTree
theorem Gl.ox_NoText (g : Gl K mg base) : OexC K (g.cls 17) := g.q2.ox_NoText
theorem Gl.ax_NoText (g : Gl K mg base) : PySem.W.findIn K (.ref (g.cls 17)) "__init__" = some (some (.ref g.a_NoText_init)) := g.q2.ax_NoText
theorem Gl.tx_NoText (g : Gl K mg base) : PySem.W.typeIn K (.ref g.a_NoText_init) = some (.type "function") := g.q2.tx_NoText
theorem Gl.rd_AE (g : Gl K mg base) : ClX.CRead K (g.cls 0) (.type "type") := g.q2.rd_AE
theorem Gl.vv_AE (g : Gl K mg base) : PySem.W.findCls K (.ref (g.cls 0)) (.type "type") "__init__" = some (.val (.builtin "ValueError.__init__")) := g.q2.vv_AE
end
section
variable {P : Program} {w : World} {K : PySem.W.Frag} {mg : Str → Option Value} {base : Heap}
abbrev Gl.C (g : Gl K mg base) : RC := ⟨K, g.cls, g.T⟩
theorem xk_NoChange (g : Gl K mg base) : XK1 P w K mg base 1 (g.cls 8) ["at"] :=
  xk_of1 (g.kc.nx (8, "at") (by decide)).2 g.F_NoChange_init sc_NoChange_init rfl g.ox_NoChange g.ax_NoChange g.tx_NoChange g.b_NoChange_init fun cdv A outer s H E => pss_cons (ps_expr (pe_aini rfl g.m_ArchiveError g.rd_AE g.vv_AE (pa_cons (pv 0) (pa_cons pe_str pa_nil)))) (pss_one (ps_ost (pv 0) (pv 1)))
theorem xk_NoPlace (g : Gl K mg base) : XK1 P w K mg base 1 (g.cls 10) ["at"] :=
  xk_of1 (g.kc.nx (10, "at") (by decide)).2 g.F_NoPlace_init sc_NoPlace_init rfl g.ox_NoPlace g.ax_NoPlace g.tx_NoPlace g.b_NoPlace_init fun cdv A outer s H E => pss_cons (ps_expr (pe_aini rfl g.m_ArchiveError g.rd_AE g.vv_AE (pa_cons (pv 0) (pa_cons pe_str pa_nil)))) (pss_one (ps_ost (pv 0) (pv 1)))
theorem xk_NoEntry (g : Gl K mg base) : XK1 P w K mg base 1 (g.cls 11) ["name"] :=
  xk_of1 (g.kc.nx (11, "name") (by decide)).2 g.F_NoEntry_init sc_NoEntry_init rfl g.ox_NoEntry g.ax_NoEntry g.tx_NoEntry g.b_NoEntry_init fun cdv A outer s H E => pss_cons (ps_expr (pe_aini rfl g.m_ArchiveError g.rd_AE g.vv_AE (pa_cons (pv 0) (pa_cons pe_str pa_nil)))) (pss_one (ps_ost (pv 0) (pv 1)))
theorem xk_Taken (g : Gl K mg base) : XK1 P w K mg base 1 (g.cls 12) ["name"] :=
  xk_of1 (g.kc.nx (12, "name") (by decide)).2 g.F_Taken_init sc_Taken_init rfl g.ox_Taken g.ax_Taken g.tx_Taken g.b_Taken_init fun cdv A outer s H E => pss_cons (ps_expr (pe_aini rfl g.m_ArchiveError g.rd_AE g.vv_AE (pa_cons (pv 0) (pa_cons pe_str pa_nil)))) (pss_one (ps_ost (pv 0) (pv 1)))
theorem xk_TooMany (g : Gl K mg base) : XK1 P w K mg base 1 (g.cls 13) ["most"] :=
  xk_of1 (g.kc.nx (13, "most") (by decide)).2 g.F_TooMany_init sc_TooMany_init rfl g.ox_TooMany g.ax_TooMany g.tx_TooMany g.b_TooMany_init fun cdv A outer s H E => pss_cons (ps_expr (pe_aini rfl g.m_ArchiveError g.rd_AE g.vv_AE (pa_cons (pv 0) (pa_cons pe_str pa_nil)))) (pss_one (ps_ost (pv 0) (pv 1)))
theorem xk_Unsafe (g : Gl K mg base) : XK1 P w K mg base 1 (g.cls 14) ["filler", "at"] :=
  xk_of2 (g.kc.nx (14, "filler") (by decide)).2 (g.kc.nx (14, "at") (by decide)).2 g.F_Unsafe_init sc_Unsafe_init rfl g.ox_Unsafe g.ax_Unsafe g.tx_Unsafe g.b_Unsafe_init fun cdv A outer s H E => pss_cons (ps_expr (pe_aini rfl g.m_ArchiveError g.rd_AE g.vv_AE (pa_cons (pv 0) (pa_cons pe_str pa_nil)))) (pss_cons (ps_ost (pv 0) (pv 1)) (pss_one (ps_ost (pv 0) (pv 2))))
theorem xk_NoSave (g : Gl K mg base) : XK1 P w K mg base 1 (g.cls 15) ["number"] :=
  xk_of1 (g.kc.nx (15, "number") (by decide)).2 g.F_NoSave_init sc_NoSave_init rfl g.ox_NoSave g.ax_NoSave g.tx_NoSave g.b_NoSave_init fun cdv A outer s H E => pss_cons (ps_expr (pe_aini rfl g.m_ArchiveError g.rd_AE g.vv_AE (pa_cons (pv 0) (pa_cons pe_str pa_nil)))) (pss_one (ps_ost (pv 0) (pv 1)))
theorem xk_NoTree (g : Gl K mg base) : XK1 P w K mg base 1 (g.cls 16) ["name"] :=
  xk_of1 (g.kc.nx (16, "name") (by decide)).2 g.F_NoTree_init sc_NoTree_init rfl g.ox_NoTree g.ax_NoTree g.tx_NoTree g.b_NoTree_init fun cdv A outer s H E => pss_cons (ps_expr (pe_aini rfl g.m_ArchiveError g.rd_AE g.vv_AE (pa_cons (pv 0) (pa_cons pe_str pa_nil)))) (pss_one (ps_ost (pv 0) (pv 1)))
theorem xk_NoText (g : Gl K mg base) : XK1 P w K mg base 1 (g.cls 17) ["row"] :=
  xk_of1 (g.kc.nx (17, "row") (by decide)).2 g.F_NoText_init sc_NoText_init rfl g.ox_NoText g.ax_NoText g.tx_NoText g.b_NoText_init fun cdv A outer s H E => pss_cons (ps_expr (pe_aini rfl g.m_ArchiveError g.rd_AE g.vv_AE (pa_cons (pv 0) (pa_cons pe_str pa_nil)))) (pss_one (ps_ost (pv 0) (pv 1)))
abbrev F_l_begun : Fn := D.F_begun
theorem ok_l_begun (g : Gl K mg base) : FnG P w K mg base 1 g.a_l_begun g.fd_l_begun ["_law_script"] (SpF g.C F_l_begun) :=
  Fun.okBegun (C := g.C) g.F_l_begun sc_l_begun fun cdv A outer s H E hr hg =>
    have fx := fx_of (C := g.C) hr hg
    ⟨_, _, _, _, _, _, _, _, _, _, _, rfl, fun _ _ => ws_setLc 1 [("_law_lump", 2)] fx sc_l_begun.nd (wi_e fx (w_var 0)) (blk_of (by kernel_rfl)) (fun _ _ _ _ _ fx => wg_name 2 sc_l_begun.nd) (fun _ _ _ _ _ fx => w_t1 fun _ _ => wt_cmp fx .GtE (w_blt fx g.kc .abs g.z_abs (w_k (w_var 2) (pkd_nil))) (w_bin fx .Pow (w_int) (w_int))) (fun _ _ _ _ _ fx _ _ => w_bin fx .FloorDiv (w_blt fx g.kc .abs g.z_abs (w_k (w_var 2) (pkd_nil))) (w_bin fx .Pow (w_int) (w_int))) (sw_true rfl rfl rfl rfl), pe_str, pe_str, pe_str, pe_str, pe_int, pv 1, fun _ _ => w_lc [("_law_lump", 2)] fx sc_l_begun.nd (wi_e fx (w_var 0)) (blk_of (by kernel_rfl)) (fun _ _ _ _ _ fx => wg_name 2 sc_l_begun.nd) (fun _ _ _ _ _ fx => w_t0) (fun _ _ _ _ _ fx _ _ => w_bin fx .Mod (w_blt fx g.kc .abs g.z_abs (w_k (w_var 2) (pkd_nil))) (w_bin fx .Pow (w_int) (w_int))), pe_int⟩
def sv_l_next : Sv := svSeq (svWhile (tvAnd (tvB (evOp (dCmp .Eq) (evCI 0 .digits) (evC (.int 0)))) (tvNE 0 .great)) (svPop0 0) 100) (svSeq (svIf (tvB (evOp (dCmp .Gt) (evCI 0 .digits) (evC (.int 0)))) (svSeq (svSet 2 (evOp (dBin .Mod) (evCI 0 .digits) (evVar 1))) (svSeq (svCSet 0 .digits (evOp (dBin .FloorDiv) (evCI 0 .digits) (evVar 1))) (svRet (evVar 2)))) (svNx)) (svSeq (svCAug 0 .turn (evC (.int 1))) (svSeq (svSet 3 (evCI 0 .turn)) (svSeq (svSet 4 (evC (.int 0))) (svSeq (svIf (tvNE 0 .lumps) (svSet 4 (evCIx 0 .lumps (evOp (dBin .Mod) (evVar 3) (evCLen 0 .lumps)))) (svNx)) (svSeq (svSet 5 (evOp (dBin .Mod) (evOp (dBin .Pow) (evOp (dBin .Add) (evOp (dBin .Mod) (evVar 4) (evC (.int 2147483629))) (evOp (dBin .Mult) (evC (.int 40009)) (evVar 3))) (evC (.int 3))) (evC (.int 2147483647)))) (svRet (evOp (dBin .Mod) (evOp (dBin .FloorDiv) (evOp (dBin .Mod) (evOp (dBin .Pow) (evOp (dBin .Add) (evVar 5) (evOp (dBin .Mult) (evC (.int 104729)) (evVar 3))) (evC (.int 5))) (evC (.int 2147483629))) (evC (.int 11))) (evVar 1)))))))))
def F_l_next : Fn := fnSv 6 2 sv_l_next
theorem ok_l_next (g : Gl K mg base) : FnG P w K mg base 1 g.a_l_next g.fd_l_next ["_law_draw", "_law_many"] (SpF g.C F_l_next) :=
  Fun.okG (C := g.C) (N := N_l_next) (sv := sv_l_next) g.F_l_next sc_l_next fun cdv A outer s H E hcd hr hg O =>
    have fx := fx_of (C := g.C) hr hg
    pssd_cons (ws_while 100 pas_of (PWD.pt (pwd_and (wt_cmp fx .Eq (pd_ci fx.hu .digits (pv 0) (fun _ _ => rfl)) (w_int)) (pwd_and1 (ptd_ne fx.K fx.hu .great (pv 0) (fun _ _ => rfl) rfl)))) (pssd_one (psd_pop0 fx.K fx.hu (pv 0) (pv 0) (fun _ _ => rfl) rfl rfl rfl rfl rfl rfl))) (pssd_cons (ws_if (wt_cmp fx .Gt (pd_ci fx.hu .digits (pv 0) (fun _ _ => rfl)) (w_int)) (pssd_cons (ws_set 2 sc_l_next.nd (w_bin fx .Mod (pd_ci fx.hu .digits (pv 0) (fun _ _ => rfl)) (w_var 1))) (pssd_cons (psd_cset fx.hu .digits (pv 0) (w_bin fx .FloorDiv (pd_ci fx.hu .digits (pv 0) (fun _ _ => rfl)) (w_var 1)) rfl) (pssd_one (ws_ret (w_var 2))))) (pssd_nil)) (pssd_cons (psd_caug fx.hu .turn (pv 0) (w_int) (by intros; rfl)) (pssd_cons (ws_set 3 sc_l_next.nd (pd_ci fx.hu .turn (pv 0) (fun _ _ => rfl))) (pssd_cons (ws_set 4 sc_l_next.nd (w_int)) (pssd_cons (ws_if (ptd_ne fx.K fx.hu .lumps (pv 0) (fun _ _ => rfl) rfl) (pssd_one (ws_set 4 sc_l_next.nd (pd_cix fx.K fx.hu .lumps (pv 0) (fun _ _ => rfl) (w_bin fx .Mod (w_var 3) (pd_clen fx.hu .lumps rfl g.z_len (pv 0) (fun _ _ => rfl) rfl rfl)) (fun _ _ => rfl)))) (pssd_nil)) (pssd_cons (ws_set 5 sc_l_next.nd (w_bin fx .Mod (w_bin fx .Pow (w_bin fx .Add (w_bin fx .Mod (w_var 4) (w_int)) (w_bin fx .Mult (w_int) (w_var 3))) (w_int)) (w_int))) (pssd_one (ws_ret (w_bin fx .Mod (w_bin fx .FloorDiv (w_bin fx .Mod (w_bin fx .Pow (w_bin fx .Add (w_var 5) (w_bin fx .Mult (w_int) (w_var 3))) (w_int)) (w_int)) (w_int)) (w_var 1))))))))))
def sv_l_pick : Sv := svRet (evN (evOp dIx (evVar 1) (evN (evFn F_l_next (akCons (evVar 0) (akCons (evCall (Blt.run CL .len) (akCons (evVar 1) (akNil))) (akNil)))))))
def F_l_pick : Fn := fnSv 2 2 sv_l_pick
theorem ok_l_pick (g : Gl K mg base) : FnG P w K mg base 2 g.a_l_pick g.fd_l_pick ["_law_draw", "_law_some"] (SpF g.C F_l_pick) :=
  Fun.okG (C := g.C) (N := N_l_pick) (sv := sv_l_pick) g.F_l_pick sc_l_pick fun cdv A outer s H E hcd hr hg O =>
    have fx := fx_of (C := g.C) hr hg
    pssd_one (ws_ret (w_ix fx (w_var 1) (w_fn fx (ok_l_next g) g.m_l_next g.F_l_next.kp g.b_l_next (w_k (w_var 0) (w_k (w_blt fx g.kc .len g.z_len (w_k (w_var 1) (pkd_nil))) (pkd_nil))))))
def t_l_marks_5 : Sv := svRet (evOp (dBin .Add) (evVar 1) (evLst (evCons (evCall (Blt.run CL .isinstance) (akCons (evVar 0) (akCons (evCls 17) (akNil)))) (evNil))))
def t_l_marks_4 : Sv := svSeq (svSet 1 (evOp (dBin .Add) (evVar 1) (evLst (evCons (evCall (Blt.run CL .isinstance) (akCons (evVar 0) (akCons (evCls 14) (akNil)))) (evCons (evCall (Blt.run CL .isinstance) (akCons (evVar 0) (akCons (evCls 15) (akNil)))) (evCons (evCall (Blt.run CL .isinstance) (akCons (evVar 0) (akCons (evCls 16) (akNil)))) (evNil))))))) (t_l_marks_5)
def t_l_marks_3 : Sv := svSeq (svSet 1 (evOp (dBin .Add) (evVar 1) (evLst (evCons (evCall (Blt.run CL .isinstance) (akCons (evVar 0) (akCons (evCls 11) (akNil)))) (evCons (evCall (Blt.run CL .isinstance) (akCons (evVar 0) (akCons (evCls 12) (akNil)))) (evCons (evCall (Blt.run CL .isinstance) (akCons (evVar 0) (akCons (evCls 13) (akNil)))) (evNil))))))) (t_l_marks_4)
def t_l_marks_2 : Sv := svSeq (svSet 1 (evOp (dBin .Add) (evVar 1) (evLst (evCons (evCall (Blt.run CL .isinstance) (akCons (evVar 0) (akCons (evCls 9) (akNil)))) (evCons (evCall (Blt.run CL .isinstance) (akCons (evVar 0) (akCons (evCls 8) (akNil)))) (evCons (evCall (Blt.run CL .isinstance) (akCons (evVar 0) (akCons (evCls 10) (akNil)))) (evNil))))))) (t_l_marks_3)
def t_l_marks_1 : Sv := svSeq (svSet 1 (evOp (dBin .Add) (evVar 1) (evLst (evCons (evCall (Blt.run CL .isinstance) (akCons (evVar 0) (akCons (evCls 5) (akNil)))) (evCons (evCall (Blt.run CL .isinstance) (akCons (evVar 0) (akCons (evCls 6) (akNil)))) (evCons (evCall (Blt.run CL .isinstance) (akCons (evVar 0) (akCons (evCls 7) (akNil)))) (evNil))))))) (t_l_marks_2)
def sv_l_marks : Sv := svSeq (svSet 1 (evLst (evCons (evCall (Blt.run CL .isinstance) (akCons (evVar 0) (akCons (evCls 1) (akNil)))) (evCons (evCall (Blt.run CL .isinstance) (akCons (evVar 0) (akCons (evCls 2) (akNil)))) (evCons (evCall (Blt.run CL .isinstance) (akCons (evVar 0) (akCons (evCls 3) (akNil)))) (evCons (evCall (Blt.run CL .isinstance) (akCons (evVar 0) (akCons (evCls 4) (akNil)))) (evNil))))))) (t_l_marks_1)
def F_l_marks : Fn := fnSv 2 1 sv_l_marks
theorem ok_l_marks (g : Gl K mg base) : FnG P w K mg base 1 g.a_l_marks g.fd_l_marks ["_law_one"] (SpF g.C F_l_marks) :=
  Fun.okG (C := g.C) (N := N_l_marks) (sv := sv_l_marks) g.F_l_marks sc_l_marks fun cdv A outer s H E hcd hr hg O =>
    have fx := fx_of (C := g.C) hr hg
    pssd_cons (ws_set 1 sc_l_marks.nd (pd_lst (w_a (w_blt fx g.kc .isinstance g.z_isinstance (w_k (w_var 0) (w_k (w_cls 1 g.m_NoBytes) (pkd_nil)))) (w_a (w_blt fx g.kc .isinstance g.z_isinstance (w_k (w_var 0) (w_k (w_cls 2 g.m_NoNumber) (pkd_nil)))) (w_a (w_blt fx g.kc .isinstance g.z_isinstance (w_k (w_var 0) (w_k (w_cls 3 g.m_NoTime) (pkd_nil)))) (w_a (w_blt fx g.kc .isinstance g.z_isinstance (w_k (w_var 0) (w_k (w_cls 4 g.m_NoName) (pkd_nil)))) (w_a0))))))) (pssd_cons (ws_set 1 sc_l_marks.nd (w_bin fx .Add (w_var 1) (pd_lst (w_a (w_blt fx g.kc .isinstance g.z_isinstance (w_k (w_var 0) (w_k (w_cls 5 g.m_NoComment) (pkd_nil)))) (w_a (w_blt fx g.kc .isinstance g.z_isinstance (w_k (w_var 0) (w_k (w_cls 6 g.m_NoData) (pkd_nil)))) (w_a (w_blt fx g.kc .isinstance g.z_isinstance (w_k (w_var 0) (w_k (w_cls 7 g.m_NoState) (pkd_nil)))) (w_a0))))))) (pssd_cons (ws_set 1 sc_l_marks.nd (w_bin fx .Add (w_var 1) (pd_lst (w_a (w_blt fx g.kc .isinstance g.z_isinstance (w_k (w_var 0) (w_k (w_cls 9 g.m_NoFile) (pkd_nil)))) (w_a (w_blt fx g.kc .isinstance g.z_isinstance (w_k (w_var 0) (w_k (w_cls 8 g.m_NoChange) (pkd_nil)))) (w_a (w_blt fx g.kc .isinstance g.z_isinstance (w_k (w_var 0) (w_k (w_cls 10 g.m_NoPlace) (pkd_nil)))) (w_a0))))))) (pssd_cons (ws_set 1 sc_l_marks.nd (w_bin fx .Add (w_var 1) (pd_lst (w_a (w_blt fx g.kc .isinstance g.z_isinstance (w_k (w_var 0) (w_k (w_cls 11 g.m_NoEntry) (pkd_nil)))) (w_a (w_blt fx g.kc .isinstance g.z_isinstance (w_k (w_var 0) (w_k (w_cls 12 g.m_Taken) (pkd_nil)))) (w_a (w_blt fx g.kc .isinstance g.z_isinstance (w_k (w_var 0) (w_k (w_cls 13 g.m_TooMany) (pkd_nil)))) (w_a0))))))) (pssd_cons (ws_set 1 sc_l_marks.nd (w_bin fx .Add (w_var 1) (pd_lst (w_a (w_blt fx g.kc .isinstance g.z_isinstance (w_k (w_var 0) (w_k (w_cls 14 g.m_Unsafe) (pkd_nil)))) (w_a (w_blt fx g.kc .isinstance g.z_isinstance (w_k (w_var 0) (w_k (w_cls 15 g.m_NoSave) (pkd_nil)))) (w_a (w_blt fx g.kc .isinstance g.z_isinstance (w_k (w_var 0) (w_k (w_cls 16 g.m_NoTree) (pkd_nil)))) (w_a0))))))) (pssd_one (ws_ret (w_bin fx .Add (w_var 1) (pd_lst (w_a (w_blt fx g.kc .isinstance g.z_isinstance (w_k (w_var 0) (w_k (w_cls 17 g.m_NoText) (pkd_nil)))) (w_a0))))))))))
def e_law_1 : Ev := evLc [9] (ivR1 (akCons (evCall (Blt.run CL .len) (akCons (evVar 6) (akNil))) (akNil))) (gvName 9) (tvYes) (evOp (dCmp .Eq) (evVar 9) (evVar 7))
def b_law_2 : Sv := svSeq (svIf (tvB (evOp (dCmp .NotEq) (evN (evFn F_l_marks (akCons (evVar 8) (akNil)))) (e_law_1))) (svRet (evC (.bl false))) (svNx)) (svIf (tvOr (tvNot (tvE (evCall (Blt.run CL .isinstance) (akCons (evVar 8) (akCons (evCls 0) (akNil)))))) (tvNot (tvE (evCall (Blt.run CL .isinstance) (akCons (evVar 8) (akCons (evC (.ty "ValueError")) (akNil))))))) (svRet (evC (.bl false))) (svNx))
def u2_law_8 : Sv := svIf (tvOr (tvB (evOp (dCmp .NotEq) (evCall (Blt.run CL .repr) (akCons (evVar 10) (akNil))) (evCall (Blt.run CL .repr) (akCons (evOp (dBin .Mult) (evLst (evCons (evVar 4) (evNil))) (evC (.int 9))) (akNil))))) (tvB (evOp (dCmp .NotEq) (evCall (Blt.run CL .repr) (akCons (evFld CL "at" (evN (evOp dIx (evVar 6) (evC (.int 13))))) (akNil))) (evCall (Blt.run CL .repr) (akCons (evVar 5) (akNil)))))) (svRet (evC (.bl false))) (svNx)
def u2_law_7 : Sv := svSeq (svSet 10 (evOp (dBin .Add) (evVar 10) (evLst (evCons (evFld CL "number" (evN (evOp dIx (evVar 6) (evC (.int 14))))) (evCons (evFld CL "name" (evN (evOp dIx (evVar 6) (evC (.int 15))))) (evCons (evFld CL "row" (evN (evOp dIx (evVar 6) (evC (.int 16))))) (evNil))))))) (u2_law_8)
def u2_law_6 : Sv := svSeq (svSet 10 (evLst (evCons (evFld CL "at" (evN (evOp dIx (evVar 6) (evC (.int 8))))) (evCons (evFld CL "at" (evN (evOp dIx (evVar 6) (evC (.int 9))))) (evCons (evFld CL "name" (evN (evOp dIx (evVar 6) (evC (.int 10))))) (evCons (evFld CL "name" (evN (evOp dIx (evVar 6) (evC (.int 11))))) (evCons (evFld CL "most" (evN (evOp dIx (evVar 6) (evC (.int 12))))) (evCons (evFld CL "filler" (evN (evOp dIx (evVar 6) (evC (.int 13))))) (evNil))))))))) (u2_law_7)
def u2_law_5 : Sv := svSeq (svFor (ivEnumX (akCons (evVar 6) (akNil))) (gvTup 2 (gvCons (gvName 7) (gvCons (gvName 8) (gvNil)))) (b_law_2)) (u2_law_6)
def u2_law_4 : Sv := svSeq (svSet 6 (evOp (dBin .Add) (evVar 6) (evLst (evCons (evMkX 14 ["filler", "at"] (akCons (evVar 4) (akCons (evVar 5) (akNil)))) (evCons (evMkX 15 ["number"] (akCons (evVar 4) (akNil))) (evCons (evMkX 16 ["name"] (akCons (evVar 4) (akNil))) (evCons (evMkX 17 ["row"] (akCons (evVar 4) (akNil))) (evNil)))))))) (u2_law_5)
def u2_law_3 : Sv := svSeq (svSet 6 (evOp (dBin .Add) (evVar 6) (evLst (evCons (evMkP 9 (evC (.str "a"))) (evCons (evMkX 8 ["at"] (akCons (evVar 4) (akNil))) (evCons (evMkX 10 ["at"] (akCons (evVar 4) (akNil))) (evCons (evMkX 11 ["name"] (akCons (evVar 4) (akNil))) (evCons (evMkX 12 ["name"] (akCons (evVar 4) (akNil))) (evCons (evMkX 13 ["most"] (akCons (evVar 4) (akNil))) (evNil)))))))))) (u2_law_4)
def u2_law_2 : Sv := svSeq (svSet 6 (evLst (evCons (evMkP 1 (evC (.str "a"))) (evCons (evMkP 2 (evC (.str "a"))) (evCons (evMkP 3 (evC (.str "a"))) (evCons (evMkP 4 (evC (.str "a"))) (evCons (evMkP 5 (evC (.str "a"))) (evCons (evMkP 6 (evC (.str "a"))) (evCons (evMkP 7 (evC (.str "a"))) (evNil)))))))))) (u2_law_3)
def u2_law_1 : Sv := svSeq (svThen (svPar 4 (evN (evFn F_l_pick (akCons (evVar 1) (akCons (evVar 3) (akNil))))) (svPar 5 (evN (evFn F_l_pick (akCons (evVar 1) (akCons (evVar 3) (akNil))))) (svNx)))) (u2_law_2)
def b_law_11 : Sv := svSeq (svSet 3 (evLst (evCons (evC .non) (evCons (evC (.bl true)) (evCons (evC (.int 0)) (evCons (evC (.int 5)) (evCons (evNeg (evC (.int 1))) (evCons (evC (.str "a")) (evCons (evC (.str "")) (evCons (evTup (evNil)) (evCons (evTup (evCons (evC (.int 1)) (evCons (evC (.str "a")) (evNil)))) (evCons (evOp (dBin .Pow) (evC (.int 10)) (evC (.int 30))) (evNil))))))))))))) (u2_law_1)
def t_law_2 : Sv := svRet (evC (.bl true))
def t_law_1 : Sv := svSeq (svFor (ivR1 (akCons (evC (.int 3)) (akNil))) (gvName 2) (b_law_11)) (t_law_2)
def sv_law : Sv := svSeq (svSet 1 (evN (evFn F_l_begun (akCons (evVar 0) (akNil))))) (t_law_1)
def F_law : Fn := fnSv 11 1 sv_law
theorem ok_law (g : Gl K mg base) : FnG P w K mg base 3 g.a_law g.fd_law ["_law_script"] (SpF g.C F_law) :=
  Fun.okG (C := g.C) (N := N_law) (sv := sv_law) g.F_law sc_law fun cdv A outer s H E hcd hr hg O =>
    have fx := fx_of (C := g.C) hr hg
    pssd_cons (ws_set 1 sc_law.nd (w_fn fx (ok_l_begun g) g.m_l_begun g.F_l_begun.kp g.b_l_begun (w_k (w_var 0) (pkd_nil)))) (pssd_cons (ws_for fx pas_of (wi_r1 g.z_range (w_k (w_int) (pkd_nil))) (wg_name 2 sc_law.nd) (f := b_law_11) (pssd_cons (ws_set 3 sc_law.nd (pd_lst (w_a (w_none) (w_a (w_bool) (w_a (w_int) (w_a (w_int) (w_a (pd_neg (w_int)) (w_a (w_str) (w_a (w_str) (w_a (pd_tup (w_a0)) (w_a (pd_tup (w_a (w_int) (w_a (w_str) (w_a0)))) (w_a (w_bin fx .Pow (w_int) (w_int)) (w_a0))))))))))))) (pssd_cons (ws_par 4 5 fx sc_law.nd (fun O H0 => w_fn fx (ok_l_pick g) g.m_l_pick g.F_l_pick.kp g.b_l_pick (w_k (w_var 1) (w_k (w_var 3) (pkd_nil)))) (fun O H0 => w_fn fx (ok_l_pick g) g.m_l_pick g.F_l_pick.kp g.b_l_pick (w_k (w_var 1) (w_k (w_var 3) (pkd_nil))))) (pssd_cons (ws_set 6 sc_law.nd (pd_lst (w_a (w_mkP 1 fx g.kc g.m_NoBytes (w_str)) (w_a (w_mkP 2 fx g.kc g.m_NoNumber (w_str)) (w_a (w_mkP 3 fx g.kc g.m_NoTime (w_str)) (w_a (w_mkP 4 fx g.kc g.m_NoName (w_str)) (w_a (w_mkP 5 fx g.kc g.m_NoComment (w_str)) (w_a (w_mkP 6 fx g.kc g.m_NoData (w_str)) (w_a (w_mkP 7 fx g.kc g.m_NoState (w_str)) (w_a0)))))))))) (pssd_cons (ws_set 6 sc_law.nd (w_bin fx .Add (w_var 6) (pd_lst (w_a (w_mkP 9 fx g.kc g.m_NoFile (w_str)) (w_a (w_mkX 8 fx ((xk_NoChange g).mono (by decide)) g.m_NoChange (w_k (w_var 4) (pkd_nil))) (w_a (w_mkX 10 fx ((xk_NoPlace g).mono (by decide)) g.m_NoPlace (w_k (w_var 4) (pkd_nil))) (w_a (w_mkX 11 fx ((xk_NoEntry g).mono (by decide)) g.m_NoEntry (w_k (w_var 4) (pkd_nil))) (w_a (w_mkX 12 fx ((xk_Taken g).mono (by decide)) g.m_Taken (w_k (w_var 4) (pkd_nil))) (w_a (w_mkX 13 fx ((xk_TooMany g).mono (by decide)) g.m_TooMany (w_k (w_var 4) (pkd_nil))) (w_a0)))))))))) (pssd_cons (ws_set 6 sc_law.nd (w_bin fx .Add (w_var 6) (pd_lst (w_a (w_mkX 14 fx ((xk_Unsafe g).mono (by decide)) g.m_Unsafe (w_k (w_var 4) (w_k (w_var 5) (pkd_nil)))) (w_a (w_mkX 15 fx ((xk_NoSave g).mono (by decide)) g.m_NoSave (w_k (w_var 4) (pkd_nil))) (w_a (w_mkX 16 fx ((xk_NoTree g).mono (by decide)) g.m_NoTree (w_k (w_var 4) (pkd_nil))) (w_a (w_mkX 17 fx ((xk_NoText g).mono (by decide)) g.m_NoText (w_k (w_var 4) (pkd_nil))) (w_a0)))))))) (pssd_cons (ws_for fx pas_of (wi_enumX fx g.z_enumerate (w_k (w_var 6) (pkd_nil))) (wg_tup fx (n := 2) (wg_n (wg_name 7 sc_law.nd) (wg_n (wg_name 8 sc_law.nd) (wg_n0)))) (f := b_law_2) (pssd_cons (ws_if (wt_cmp fx .NotEq (w_fn fx (ok_l_marks g) g.m_l_marks g.F_l_marks.kp g.b_l_marks (w_k (w_var 8) (pkd_nil))) (w_lc [("_law_at", 9)] fx sc_law.nd (wi_r1 g.z_range (w_k (w_blt fx g.kc .len g.z_len (w_k (w_var 6) (pkd_nil))) (pkd_nil))) (blk_of (by kernel_rfl)) (fun _ _ _ _ _ fx => wg_name 9 sc_law.nd) (fun _ _ _ _ _ fx => w_t0) (fun _ _ _ _ _ fx _ _ => w_cmp fx .Eq (w_var 9) (w_var 7)))) (pssd_one (ws_ret (w_bool))) (pssd_nil)) (pssd_one (ws_if (PWD.pt (pwd_or (ptd_not (wt_e fx (w_blt fx g.kc .isinstance g.z_isinstance (w_k (w_var 8) (w_k (w_cls 0 g.m_ArchiveError) (pkd_nil)))))) (pwd_or1 (ptd_not (wt_e fx (w_blt fx g.kc .isinstance g.z_isinstance (w_k (w_var 8) (w_k (w_ty "ValueError" rfl g.z_ValueError) (pkd_nil))))))))) (pssd_one (ws_ret (w_bool))) (pssd_nil))))) (pssd_cons (ws_set 10 sc_law.nd (pd_lst (w_a (w_fld fx g.kc (w_ix fx (w_var 6) (w_int))) (w_a (w_fld fx g.kc (w_ix fx (w_var 6) (w_int))) (w_a (w_fld fx g.kc (w_ix fx (w_var 6) (w_int))) (w_a (w_fld fx g.kc (w_ix fx (w_var 6) (w_int))) (w_a (w_fld fx g.kc (w_ix fx (w_var 6) (w_int))) (w_a (w_fld fx g.kc (w_ix fx (w_var 6) (w_int))) (w_a0))))))))) (pssd_cons (ws_set 10 sc_law.nd (w_bin fx .Add (w_var 10) (pd_lst (w_a (w_fld fx g.kc (w_ix fx (w_var 6) (w_int))) (w_a (w_fld fx g.kc (w_ix fx (w_var 6) (w_int))) (w_a (w_fld fx g.kc (w_ix fx (w_var 6) (w_int))) (w_a0))))))) (pssd_one (ws_if (PWD.pt (pwd_or (wt_cmp fx .NotEq (w_blt fx g.kc .repr g.z_repr (w_k (w_var 10) (pkd_nil))) (w_blt fx g.kc .repr g.z_repr (w_k (w_bin fx .Mult (pd_lst (w_a (w_var 4) (w_a0))) (w_int)) (pkd_nil)))) (pwd_or1 (wt_cmp fx .NotEq (w_blt fx g.kc .repr g.z_repr (w_k (w_fld fx g.kc (w_ix fx (w_var 6) (w_int))) (pkd_nil))) (w_blt fx g.kc .repr g.z_repr (w_k (w_var 5) (pkd_nil))))))) (pssd_one (ws_ret (w_bool))) (pssd_nil)))))))))))) (pssd_one (ws_ret (w_bool))))
end
end Law

/-! ### the end -/
namespace Law
open PySem L2 PyProof.Rows D
theorem all_mk {l : PySem.W.OpenLaw} {q : Program} {w : World} {K : PySem.W.Frag} {h : Heap} {mg : Str → Option Value} {fa : Addr} (X : K.In h) (G : h.Ns mainGlobals mg) (hfa : mg "law" = some (.ref fa))
    {x_ArchiveError : Addr} (e_ArchiveError : PySem.W.nsIn K mainGlobals "ArchiveError" = some (some (.ref x_ArchiveError)))
    {x_NoBytes : Addr} (e_NoBytes : PySem.W.nsIn K mainGlobals "NoBytes" = some (some (.ref x_NoBytes)))
    {x_NoNumber : Addr} (e_NoNumber : PySem.W.nsIn K mainGlobals "NoNumber" = some (some (.ref x_NoNumber)))
    {x_NoTime : Addr} (e_NoTime : PySem.W.nsIn K mainGlobals "NoTime" = some (some (.ref x_NoTime)))
    {x_NoName : Addr} (e_NoName : PySem.W.nsIn K mainGlobals "NoName" = some (some (.ref x_NoName)))
    {x_NoComment : Addr} (e_NoComment : PySem.W.nsIn K mainGlobals "NoComment" = some (some (.ref x_NoComment)))
    {x_NoData : Addr} (e_NoData : PySem.W.nsIn K mainGlobals "NoData" = some (some (.ref x_NoData)))
    {x_NoState : Addr} (e_NoState : PySem.W.nsIn K mainGlobals "NoState" = some (some (.ref x_NoState)))
    {x_NoChange : Addr} (e_NoChange : PySem.W.nsIn K mainGlobals "NoChange" = some (some (.ref x_NoChange)))
    {x_NoFile : Addr} (e_NoFile : PySem.W.nsIn K mainGlobals "NoFile" = some (some (.ref x_NoFile)))
    {x_NoPlace : Addr} (e_NoPlace : PySem.W.nsIn K mainGlobals "NoPlace" = some (some (.ref x_NoPlace)))
    {x_NoEntry : Addr} (e_NoEntry : PySem.W.nsIn K mainGlobals "NoEntry" = some (some (.ref x_NoEntry)))
    {x_Taken : Addr} (e_Taken : PySem.W.nsIn K mainGlobals "Taken" = some (some (.ref x_Taken)))
    {x_TooMany : Addr} (e_TooMany : PySem.W.nsIn K mainGlobals "TooMany" = some (some (.ref x_TooMany)))
    {x_Unsafe : Addr} (e_Unsafe : PySem.W.nsIn K mainGlobals "Unsafe" = some (some (.ref x_Unsafe)))
    {x_NoSave : Addr} (e_NoSave : PySem.W.nsIn K mainGlobals "NoSave" = some (some (.ref x_NoSave)))
    {x_NoTree : Addr} (e_NoTree : PySem.W.nsIn K mainGlobals "NoTree" = some (some (.ref x_NoTree)))
    {x_NoText : Addr} (e_NoText : PySem.W.nsIn K mainGlobals "NoText" = some (some (.ref x_NoText)))
    {nm_NoChange qn_NoChange : Str} {N_NoChange : Addr} {bs_NoChange bm_NoChange : List Value} {sn_NoChange : List Str} {su_NoChange : List Value} {ab_NoChange : Bool} {co_NoChange : Option Bool} {dd_NoChange : Option Addr} {k0_NoChange k1_NoChange k2_NoChange k3_NoChange k5_NoChange : Option Value} (lo_NoChange : K.lookup x_NoChange = some (excClassObj nm_NoChange qn_NoChange x_NoChange N_NoChange bs_NoChange bm_NoChange true sn_NoChange su_NoChange ab_NoChange co_NoChange dd_NoChange k0_NoChange k1_NoChange k2_NoChange k3_NoChange k5_NoChange "ValueError.__new__")) (bv_NoChange : PySem.HandSPX.refsVE bm_NoChange = true)
    (sx_NoChange : PySem.W.findIn K (.ref x_NoChange) "__setattr__" = some (some (.builtin "object.__setattr__"))) (xx_NoChange : PySem.W.subIn K (.ref x_NoChange) (.type "BaseException") = some true) (xt_NoChange : PySem.W.typeIn K (.ref x_NoChange) = some (.type "type")) (xk_NoChange : PySem.W.keepIn K (.ref x_NoChange) = true)
    {nm_NoPlace qn_NoPlace : Str} {N_NoPlace : Addr} {bs_NoPlace bm_NoPlace : List Value} {sn_NoPlace : List Str} {su_NoPlace : List Value} {ab_NoPlace : Bool} {co_NoPlace : Option Bool} {dd_NoPlace : Option Addr} {k0_NoPlace k1_NoPlace k2_NoPlace k3_NoPlace k5_NoPlace : Option Value} (lo_NoPlace : K.lookup x_NoPlace = some (excClassObj nm_NoPlace qn_NoPlace x_NoPlace N_NoPlace bs_NoPlace bm_NoPlace true sn_NoPlace su_NoPlace ab_NoPlace co_NoPlace dd_NoPlace k0_NoPlace k1_NoPlace k2_NoPlace k3_NoPlace k5_NoPlace "ValueError.__new__")) (bv_NoPlace : PySem.HandSPX.refsVE bm_NoPlace = true)
    (sx_NoPlace : PySem.W.findIn K (.ref x_NoPlace) "__setattr__" = some (some (.builtin "object.__setattr__"))) (xx_NoPlace : PySem.W.subIn K (.ref x_NoPlace) (.type "BaseException") = some true) (xt_NoPlace : PySem.W.typeIn K (.ref x_NoPlace) = some (.type "type")) (xk_NoPlace : PySem.W.keepIn K (.ref x_NoPlace) = true)
    {nm_NoEntry qn_NoEntry : Str} {N_NoEntry : Addr} {bs_NoEntry bm_NoEntry : List Value} {sn_NoEntry : List Str} {su_NoEntry : List Value} {ab_NoEntry : Bool} {co_NoEntry : Option Bool} {dd_NoEntry : Option Addr} {k0_NoEntry k1_NoEntry k2_NoEntry k3_NoEntry k5_NoEntry : Option Value} (lo_NoEntry : K.lookup x_NoEntry = some (excClassObj nm_NoEntry qn_NoEntry x_NoEntry N_NoEntry bs_NoEntry bm_NoEntry true sn_NoEntry su_NoEntry ab_NoEntry co_NoEntry dd_NoEntry k0_NoEntry k1_NoEntry k2_NoEntry k3_NoEntry k5_NoEntry "ValueError.__new__")) (bv_NoEntry : PySem.HandSPX.refsVE bm_NoEntry = true)
    (sx_NoEntry : PySem.W.findIn K (.ref x_NoEntry) "__setattr__" = some (some (.builtin "object.__setattr__"))) (xx_NoEntry : PySem.W.subIn K (.ref x_NoEntry) (.type "BaseException") = some true) (xt_NoEntry : PySem.W.typeIn K (.ref x_NoEntry) = some (.type "type")) (xk_NoEntry : PySem.W.keepIn K (.ref x_NoEntry) = true)
    {nm_Taken qn_Taken : Str} {N_Taken : Addr} {bs_Taken bm_Taken : List Value} {sn_Taken : List Str} {su_Taken : List Value} {ab_Taken : Bool} {co_Taken : Option Bool} {dd_Taken : Option Addr} {k0_Taken k1_Taken k2_Taken k3_Taken k5_Taken : Option Value} (lo_Taken : K.lookup x_Taken = some (excClassObj nm_Taken qn_Taken x_Taken N_Taken bs_Taken bm_Taken true sn_Taken su_Taken ab_Taken co_Taken dd_Taken k0_Taken k1_Taken k2_Taken k3_Taken k5_Taken "ValueError.__new__")) (bv_Taken : PySem.HandSPX.refsVE bm_Taken = true)
    (sx_Taken : PySem.W.findIn K (.ref x_Taken) "__setattr__" = some (some (.builtin "object.__setattr__"))) (xx_Taken : PySem.W.subIn K (.ref x_Taken) (.type "BaseException") = some true) (xt_Taken : PySem.W.typeIn K (.ref x_Taken) = some (.type "type")) (xk_Taken : PySem.W.keepIn K (.ref x_Taken) = true)
    {nm_TooMany qn_TooMany : Str} {N_TooMany : Addr} {bs_TooMany bm_TooMany : List Value} {sn_TooMany : List Str} {su_TooMany : List Value} {ab_TooMany : Bool} {co_TooMany : Option Bool} {dd_TooMany : Option Addr} {k0_TooMany k1_TooMany k2_TooMany k3_TooMany k5_TooMany : Option Value} (lo_TooMany : K.lookup x_TooMany = some (excClassObj nm_TooMany qn_TooMany x_TooMany N_TooMany bs_TooMany bm_TooMany true sn_TooMany su_TooMany ab_TooMany co_TooMany dd_TooMany k0_TooMany k1_TooMany k2_TooMany k3_TooMany k5_TooMany "ValueError.__new__")) (bv_TooMany : PySem.HandSPX.refsVE bm_TooMany = true)
    (sx_TooMany : PySem.W.findIn K (.ref x_TooMany) "__setattr__" = some (some (.builtin "object.__setattr__"))) (xx_TooMany : PySem.W.subIn K (.ref x_TooMany) (.type "BaseException") = some true) (xt_TooMany : PySem.W.typeIn K (.ref x_TooMany) = some (.type "type")) (xk_TooMany : PySem.W.keepIn K (.ref x_TooMany) = true)
    {nm_Unsafe qn_Unsafe : Str} {N_Unsafe : Addr} {bs_Unsafe bm_Unsafe : List Value} {sn_Unsafe : List Str} {su_Unsafe : List Value} {ab_Unsafe : Bool} {co_Unsafe : Option Bool} {dd_Unsafe : Option Addr} {k0_Unsafe k1_Unsafe k2_Unsafe k3_Unsafe k5_Unsafe : Option Value} (lo_Unsafe : K.lookup x_Unsafe = some (excClassObj nm_Unsafe qn_Unsafe x_Unsafe N_Unsafe bs_Unsafe bm_Unsafe true sn_Unsafe su_Unsafe ab_Unsafe co_Unsafe dd_Unsafe k0_Unsafe k1_Unsafe k2_Unsafe k3_Unsafe k5_Unsafe "ValueError.__new__")) (bv_Unsafe : PySem.HandSPX.refsVE bm_Unsafe = true)
    (sx_Unsafe : PySem.W.findIn K (.ref x_Unsafe) "__setattr__" = some (some (.builtin "object.__setattr__"))) (xx_Unsafe : PySem.W.subIn K (.ref x_Unsafe) (.type "BaseException") = some true) (xt_Unsafe : PySem.W.typeIn K (.ref x_Unsafe) = some (.type "type")) (xk_Unsafe : PySem.W.keepIn K (.ref x_Unsafe) = true)
    {nm_NoSave qn_NoSave : Str} {N_NoSave : Addr} {bs_NoSave bm_NoSave : List Value} {sn_NoSave : List Str} {su_NoSave : List Value} {ab_NoSave : Bool} {co_NoSave : Option Bool} {dd_NoSave : Option Addr} {k0_NoSave k1_NoSave k2_NoSave k3_NoSave k5_NoSave : Option Value} (lo_NoSave : K.lookup x_NoSave = some (excClassObj nm_NoSave qn_NoSave x_NoSave N_NoSave bs_NoSave bm_NoSave true sn_NoSave su_NoSave ab_NoSave co_NoSave dd_NoSave k0_NoSave k1_NoSave k2_NoSave k3_NoSave k5_NoSave "ValueError.__new__")) (bv_NoSave : PySem.HandSPX.refsVE bm_NoSave = true)
    (sx_NoSave : PySem.W.findIn K (.ref x_NoSave) "__setattr__" = some (some (.builtin "object.__setattr__"))) (xx_NoSave : PySem.W.subIn K (.ref x_NoSave) (.type "BaseException") = some true) (xt_NoSave : PySem.W.typeIn K (.ref x_NoSave) = some (.type "type")) (xk_NoSave : PySem.W.keepIn K (.ref x_NoSave) = true)
    {nm_NoTree qn_NoTree : Str} {N_NoTree : Addr} {bs_NoTree bm_NoTree : List Value} {sn_NoTree : List Str} {su_NoTree : List Value} {ab_NoTree : Bool} {co_NoTree : Option Bool} {dd_NoTree : Option Addr} {k0_NoTree k1_NoTree k2_NoTree k3_NoTree k5_NoTree : Option Value} (lo_NoTree : K.lookup x_NoTree = some (excClassObj nm_NoTree qn_NoTree x_NoTree N_NoTree bs_NoTree bm_NoTree true sn_NoTree su_NoTree ab_NoTree co_NoTree dd_NoTree k0_NoTree k1_NoTree k2_NoTree k3_NoTree k5_NoTree "ValueError.__new__")) (bv_NoTree : PySem.HandSPX.refsVE bm_NoTree = true)
    (sx_NoTree : PySem.W.findIn K (.ref x_NoTree) "__setattr__" = some (some (.builtin "object.__setattr__"))) (xx_NoTree : PySem.W.subIn K (.ref x_NoTree) (.type "BaseException") = some true) (xt_NoTree : PySem.W.typeIn K (.ref x_NoTree) = some (.type "type")) (xk_NoTree : PySem.W.keepIn K (.ref x_NoTree) = true)
    {nm_NoText qn_NoText : Str} {N_NoText : Addr} {bs_NoText bm_NoText : List Value} {sn_NoText : List Str} {su_NoText : List Value} {ab_NoText : Bool} {co_NoText : Option Bool} {dd_NoText : Option Addr} {k0_NoText k1_NoText k2_NoText k3_NoText k5_NoText : Option Value} (lo_NoText : K.lookup x_NoText = some (excClassObj nm_NoText qn_NoText x_NoText N_NoText bs_NoText bm_NoText true sn_NoText su_NoText ab_NoText co_NoText dd_NoText k0_NoText k1_NoText k2_NoText k3_NoText k5_NoText "ValueError.__new__")) (bv_NoText : PySem.HandSPX.refsVE bm_NoText = true)
    (sx_NoText : PySem.W.findIn K (.ref x_NoText) "__setattr__" = some (some (.builtin "object.__setattr__"))) (xx_NoText : PySem.W.subIn K (.ref x_NoText) (.type "BaseException") = some true) (xt_NoText : PySem.W.typeIn K (.ref x_NoText) = some (.type "type")) (xk_NoText : PySem.W.keepIn K (.ref x_NoText) = true)
    (rd_AE : PySem.W.readsIn K x_ArchiveError (.type "type") = true) (rg_AE : PySem.W.specialIn K (.ref x_ArchiveError) "__getattribute__" = some (some (.builtin "type.__getattribute__"))) (vv_AE : PySem.W.findCls K (.ref x_ArchiveError) (.type "type") "__init__" = some (.val (.builtin "ValueError.__init__")))
    (kcB : kitCB K (clsOf [(0, x_ArchiveError), (1, x_NoBytes), (2, x_NoNumber), (3, x_NoTime), (4, x_NoName), (5, x_NoComment), (6, x_NoData), (7, x_NoState), (8, x_NoChange), (9, x_NoFile), (10, x_NoPlace), (11, x_NoEntry), (12, x_Taken), (13, x_TooMany), (14, x_Unsafe), (15, x_NoSave), (16, x_NoTree), (17, x_NoText)]) CL = true)
    {f_NoChange_init : Addr} {od_NoChange_init an_NoChange_init : Option Addr} {sl_NoChange_init : Array (Option Value)} {oc_NoChange_init kV_NoChange_init dc_NoChange_init pm_NoChange_init ct_NoChange_init : Value}
    {cd_NoChange_init : Value}
    (a_NoChange_init : PySem.W.findIn K (.ref x_NoChange) "__init__" = some (some (.ref f_NoChange_init)))
    (tx_NoChange_init : PySem.W.typeIn K (.ref f_NoChange_init) = some (.type "function"))
    (l_NoChange_init : K.lookup f_NoChange_init = some ⟨oc_NoChange_init, od_NoChange_init, .func (PySem.W.fnOf "__init__" "NoChange.__init__" (defArgs s_NoChange_init) (defBody s_NoChange_init) (defScope s_NoChange_init) .none kV_NoChange_init dc_NoChange_init pm_NoChange_init an_NoChange_init cd_NoChange_init ct_NoChange_init), sl_NoChange_init⟩)
    (c_NoChange_init : PySem.W.codeIn K cd_NoChange_init "NoChange.__init__" = true) (k_NoChange_init : PySem.W.keepIn K (.ref f_NoChange_init) = true)
    {f_NoPlace_init : Addr} {od_NoPlace_init an_NoPlace_init : Option Addr} {sl_NoPlace_init : Array (Option Value)} {oc_NoPlace_init kV_NoPlace_init dc_NoPlace_init pm_NoPlace_init ct_NoPlace_init : Value}
    {cd_NoPlace_init : Value}
    (a_NoPlace_init : PySem.W.findIn K (.ref x_NoPlace) "__init__" = some (some (.ref f_NoPlace_init)))
    (tx_NoPlace_init : PySem.W.typeIn K (.ref f_NoPlace_init) = some (.type "function"))
    (l_NoPlace_init : K.lookup f_NoPlace_init = some ⟨oc_NoPlace_init, od_NoPlace_init, .func (PySem.W.fnOf "__init__" "NoPlace.__init__" (defArgs s_NoPlace_init) (defBody s_NoPlace_init) (defScope s_NoPlace_init) .none kV_NoPlace_init dc_NoPlace_init pm_NoPlace_init an_NoPlace_init cd_NoPlace_init ct_NoPlace_init), sl_NoPlace_init⟩)
    (c_NoPlace_init : PySem.W.codeIn K cd_NoPlace_init "NoPlace.__init__" = true) (k_NoPlace_init : PySem.W.keepIn K (.ref f_NoPlace_init) = true)
    {f_NoEntry_init : Addr} {od_NoEntry_init an_NoEntry_init : Option Addr} {sl_NoEntry_init : Array (Option Value)} {oc_NoEntry_init kV_NoEntry_init dc_NoEntry_init pm_NoEntry_init ct_NoEntry_init : Value}
    {cd_NoEntry_init : Value}
    (a_NoEntry_init : PySem.W.findIn K (.ref x_NoEntry) "__init__" = some (some (.ref f_NoEntry_init)))
    (tx_NoEntry_init : PySem.W.typeIn K (.ref f_NoEntry_init) = some (.type "function"))
    (l_NoEntry_init : K.lookup f_NoEntry_init = some ⟨oc_NoEntry_init, od_NoEntry_init, .func (PySem.W.fnOf "__init__" "NoEntry.__init__" (defArgs s_NoEntry_init) (defBody s_NoEntry_init) (defScope s_NoEntry_init) .none kV_NoEntry_init dc_NoEntry_init pm_NoEntry_init an_NoEntry_init cd_NoEntry_init ct_NoEntry_init), sl_NoEntry_init⟩)
    (c_NoEntry_init : PySem.W.codeIn K cd_NoEntry_init "NoEntry.__init__" = true) (k_NoEntry_init : PySem.W.keepIn K (.ref f_NoEntry_init) = true)
    {f_Taken_init : Addr} {od_Taken_init an_Taken_init : Option Addr} {sl_Taken_init : Array (Option Value)} {oc_Taken_init kV_Taken_init dc_Taken_init pm_Taken_init ct_Taken_init : Value}
    {cd_Taken_init : Value}
    (a_Taken_init : PySem.W.findIn K (.ref x_Taken) "__init__" = some (some (.ref f_Taken_init)))
    (tx_Taken_init : PySem.W.typeIn K (.ref f_Taken_init) = some (.type "function"))
    (l_Taken_init : K.lookup f_Taken_init = some ⟨oc_Taken_init, od_Taken_init, .func (PySem.W.fnOf "__init__" "Taken.__init__" (defArgs s_Taken_init) (defBody s_Taken_init) (defScope s_Taken_init) .none kV_Taken_init dc_Taken_init pm_Taken_init an_Taken_init cd_Taken_init ct_Taken_init), sl_Taken_init⟩)
    (c_Taken_init : PySem.W.codeIn K cd_Taken_init "Taken.__init__" = true) (k_Taken_init : PySem.W.keepIn K (.ref f_Taken_init) = true)
    {f_TooMany_init : Addr} {od_TooMany_init an_TooMany_init : Option Addr} {sl_TooMany_init : Array (Option Value)} {oc_TooMany_init kV_TooMany_init dc_TooMany_init pm_TooMany_init ct_TooMany_init : Value}
    {cd_TooMany_init : Value}
    (a_TooMany_init : PySem.W.findIn K (.ref x_TooMany) "__init__" = some (some (.ref f_TooMany_init)))
    (tx_TooMany_init : PySem.W.typeIn K (.ref f_TooMany_init) = some (.type "function"))
    (l_TooMany_init : K.lookup f_TooMany_init = some ⟨oc_TooMany_init, od_TooMany_init, .func (PySem.W.fnOf "__init__" "TooMany.__init__" (defArgs s_TooMany_init) (defBody s_TooMany_init) (defScope s_TooMany_init) .none kV_TooMany_init dc_TooMany_init pm_TooMany_init an_TooMany_init cd_TooMany_init ct_TooMany_init), sl_TooMany_init⟩)
    (c_TooMany_init : PySem.W.codeIn K cd_TooMany_init "TooMany.__init__" = true) (k_TooMany_init : PySem.W.keepIn K (.ref f_TooMany_init) = true)
    {f_Unsafe_init : Addr} {od_Unsafe_init an_Unsafe_init : Option Addr} {sl_Unsafe_init : Array (Option Value)} {oc_Unsafe_init kV_Unsafe_init dc_Unsafe_init pm_Unsafe_init ct_Unsafe_init : Value}
    {cd_Unsafe_init : Value}
    (a_Unsafe_init : PySem.W.findIn K (.ref x_Unsafe) "__init__" = some (some (.ref f_Unsafe_init)))
    (tx_Unsafe_init : PySem.W.typeIn K (.ref f_Unsafe_init) = some (.type "function"))
    (l_Unsafe_init : K.lookup f_Unsafe_init = some ⟨oc_Unsafe_init, od_Unsafe_init, .func (PySem.W.fnOf "__init__" "Unsafe.__init__" (defArgs s_Unsafe_init) (defBody s_Unsafe_init) (defScope s_Unsafe_init) .none kV_Unsafe_init dc_Unsafe_init pm_Unsafe_init an_Unsafe_init cd_Unsafe_init ct_Unsafe_init), sl_Unsafe_init⟩)
    (c_Unsafe_init : PySem.W.codeIn K cd_Unsafe_init "Unsafe.__init__" = true) (k_Unsafe_init : PySem.W.keepIn K (.ref f_Unsafe_init) = true)
    {f_NoSave_init : Addr} {od_NoSave_init an_NoSave_init : Option Addr} {sl_NoSave_init : Array (Option Value)} {oc_NoSave_init kV_NoSave_init dc_NoSave_init pm_NoSave_init ct_NoSave_init : Value}
    {cd_NoSave_init : Value}
    (a_NoSave_init : PySem.W.findIn K (.ref x_NoSave) "__init__" = some (some (.ref f_NoSave_init)))
    (tx_NoSave_init : PySem.W.typeIn K (.ref f_NoSave_init) = some (.type "function"))
    (l_NoSave_init : K.lookup f_NoSave_init = some ⟨oc_NoSave_init, od_NoSave_init, .func (PySem.W.fnOf "__init__" "NoSave.__init__" (defArgs s_NoSave_init) (defBody s_NoSave_init) (defScope s_NoSave_init) .none kV_NoSave_init dc_NoSave_init pm_NoSave_init an_NoSave_init cd_NoSave_init ct_NoSave_init), sl_NoSave_init⟩)
    (c_NoSave_init : PySem.W.codeIn K cd_NoSave_init "NoSave.__init__" = true) (k_NoSave_init : PySem.W.keepIn K (.ref f_NoSave_init) = true)
    {f_NoTree_init : Addr} {od_NoTree_init an_NoTree_init : Option Addr} {sl_NoTree_init : Array (Option Value)} {oc_NoTree_init kV_NoTree_init dc_NoTree_init pm_NoTree_init ct_NoTree_init : Value}
    {cd_NoTree_init : Value}
    (a_NoTree_init : PySem.W.findIn K (.ref x_NoTree) "__init__" = some (some (.ref f_NoTree_init)))
    (tx_NoTree_init : PySem.W.typeIn K (.ref f_NoTree_init) = some (.type "function"))
    (l_NoTree_init : K.lookup f_NoTree_init = some ⟨oc_NoTree_init, od_NoTree_init, .func (PySem.W.fnOf "__init__" "NoTree.__init__" (defArgs s_NoTree_init) (defBody s_NoTree_init) (defScope s_NoTree_init) .none kV_NoTree_init dc_NoTree_init pm_NoTree_init an_NoTree_init cd_NoTree_init ct_NoTree_init), sl_NoTree_init⟩)
    (c_NoTree_init : PySem.W.codeIn K cd_NoTree_init "NoTree.__init__" = true) (k_NoTree_init : PySem.W.keepIn K (.ref f_NoTree_init) = true)
    {f_NoText_init : Addr} {od_NoText_init an_NoText_init : Option Addr} {sl_NoText_init : Array (Option Value)} {oc_NoText_init kV_NoText_init dc_NoText_init pm_NoText_init ct_NoText_init : Value}
    {cd_NoText_init : Value}
    (a_NoText_init : PySem.W.findIn K (.ref x_NoText) "__init__" = some (some (.ref f_NoText_init)))
    (tx_NoText_init : PySem.W.typeIn K (.ref f_NoText_init) = some (.type "function"))
    (l_NoText_init : K.lookup f_NoText_init = some ⟨oc_NoText_init, od_NoText_init, .func (PySem.W.fnOf "__init__" "NoText.__init__" (defArgs s_NoText_init) (defBody s_NoText_init) (defScope s_NoText_init) .none kV_NoText_init dc_NoText_init pm_NoText_init an_NoText_init cd_NoText_init ct_NoText_init), sl_NoText_init⟩)
    (c_NoText_init : PySem.W.codeIn K cd_NoText_init "NoText.__init__" = true) (k_NoText_init : PySem.W.keepIn K (.ref f_NoText_init) = true)
    {f_l_begun : Addr} {od_l_begun an_l_begun : Option Addr} {sl_l_begun : Array (Option Value)} {oc_l_begun kV_l_begun dc_l_begun pm_l_begun ct_l_begun : Value}
    {cd_l_begun : Value}
    (a_l_begun : PySem.W.nsIn K mainGlobals "_law_begun" = some (some (.ref f_l_begun)))
    (l_l_begun : K.lookup f_l_begun = some ⟨oc_l_begun, od_l_begun, .func (PySem.W.fnOf "_law_begun" "_law_begun" (defArgs s_l_begun) (defBody s_l_begun) (defScope s_l_begun) .none kV_l_begun dc_l_begun pm_l_begun an_l_begun cd_l_begun ct_l_begun), sl_l_begun⟩)
    (c_l_begun : PySem.W.codeIn K cd_l_begun "_law_begun" = true) (k_l_begun : PySem.W.keepIn K (.ref f_l_begun) = true)
    {f_l_next : Addr} {od_l_next an_l_next : Option Addr} {sl_l_next : Array (Option Value)} {oc_l_next kV_l_next dc_l_next pm_l_next ct_l_next : Value}
    {cd_l_next : Value}
    (a_l_next : PySem.W.nsIn K mainGlobals "_law_next" = some (some (.ref f_l_next)))
    (l_l_next : K.lookup f_l_next = some ⟨oc_l_next, od_l_next, .func (PySem.W.fnOf "_law_next" "_law_next" (defArgs s_l_next) (defBody s_l_next) (defScope s_l_next) .none kV_l_next dc_l_next pm_l_next an_l_next cd_l_next ct_l_next), sl_l_next⟩)
    (c_l_next : PySem.W.codeIn K cd_l_next "_law_next" = true) (k_l_next : PySem.W.keepIn K (.ref f_l_next) = true)
    {f_l_pick : Addr} {od_l_pick an_l_pick : Option Addr} {sl_l_pick : Array (Option Value)} {oc_l_pick kV_l_pick dc_l_pick pm_l_pick ct_l_pick : Value}
    {cd_l_pick : Value}
    (a_l_pick : PySem.W.nsIn K mainGlobals "_law_pick" = some (some (.ref f_l_pick)))
    (l_l_pick : K.lookup f_l_pick = some ⟨oc_l_pick, od_l_pick, .func (PySem.W.fnOf "_law_pick" "_law_pick" (defArgs s_l_pick) (defBody s_l_pick) (defScope s_l_pick) .none kV_l_pick dc_l_pick pm_l_pick an_l_pick cd_l_pick ct_l_pick), sl_l_pick⟩)
    (c_l_pick : PySem.W.codeIn K cd_l_pick "_law_pick" = true) (k_l_pick : PySem.W.keepIn K (.ref f_l_pick) = true)
    {f_l_marks : Addr} {od_l_marks an_l_marks : Option Addr} {sl_l_marks : Array (Option Value)} {oc_l_marks kV_l_marks dc_l_marks pm_l_marks ct_l_marks : Value}
    {cd_l_marks : Value}
    (a_l_marks : PySem.W.nsIn K mainGlobals "_law_marks" = some (some (.ref f_l_marks)))
    (l_l_marks : K.lookup f_l_marks = some ⟨oc_l_marks, od_l_marks, .func (PySem.W.fnOf "_law_marks" "_law_marks" (defArgs s_l_marks) (defBody s_l_marks) (defScope s_l_marks) .none kV_l_marks dc_l_marks pm_l_marks an_l_marks cd_l_marks ct_l_marks), sl_l_marks⟩)
    (c_l_marks : PySem.W.codeIn K cd_l_marks "_law_marks" = true) (k_l_marks : PySem.W.keepIn K (.ref f_l_marks) = true)
    {f_law : Addr} {od_law an_law : Option Addr} {sl_law : Array (Option Value)} {oc_law kV_law dc_law pm_law ct_law : Value}
    {cd_law : Value}
    (a_law : PySem.W.nsIn K mainGlobals "law" = some (some (.ref f_law)))
    (l_law : K.lookup f_law = some ⟨oc_law, od_law, .func (PySem.W.fnOf "law" "law" (defArgs s_law) (defBody s_law) (defScope s_law) .none kV_law dc_law pm_law an_law cd_law ct_law), sl_law⟩)
    (c_law : PySem.W.codeIn K cd_law "law" = true) (k_law : PySem.W.keepIn K (.ref f_law) = true)
    (z_ValueError : PySem.W.nsIn K mainGlobals "ValueError" = some none)
    (z_abs : PySem.W.nsIn K mainGlobals "abs" = some none)
    (z_enumerate : PySem.W.nsIn K mainGlobals "enumerate" = some none)
    (z_isinstance : PySem.W.nsIn K mainGlobals "isinstance" = some none)
    (z_len : PySem.W.nsIn K mainGlobals "len" = some none)
    (z_range : PySem.W.nsIn K mainGlobals "range" = some none)
    (z_repr : PySem.W.nsIn K mainGlobals "repr" = some none)
    : ∃ (fd : FuncData) (cls : Nat → Addr) (T : List (Addr × Str)) (ts : List (Addr × Addr)), (∀ (s : Shared) (v : Value), BindsTo s fd ⟨[v], []⟩ [("_law_script", v)]) ∧
      (∀ p ∈ ts, ∃ y d', (recsOf q).find? (fun e => e.name == y) = some d' ∧ PySem.W.tabIn K y = some p) ∧ (∀ p ∈ ts, K.lookup p.2 = none) ∧ (∀ t ∈ T, ∃ p ∈ ts, p.2 = t.1) ∧
      ∀ base : Heap, K.In base → base.Ns mainGlobals mg → (∀ p ∈ ts, LamX.TabB base mg p.1 p.2) → FnG l.prog w K mg base 3 fa fd ["_law_script"] (SpF ⟨K, cls, T⟩ Law.F_law) := by
  have e := hfa.symm.trans (PySem.W.mg_of X G a_law)
  cases e
  have F_NoChange_init := fun_mk (st := s_NoChange_init) l_NoChange_init c_NoChange_init k_NoChange_init
  have b_NoChange_init := F_NoChange_init.binds (ps := ["self", "at"]) fun _ _ _ _ _ _ us hl => match us, hl with | [_, _], _ => rfl
  have F_NoPlace_init := fun_mk (st := s_NoPlace_init) l_NoPlace_init c_NoPlace_init k_NoPlace_init
  have b_NoPlace_init := F_NoPlace_init.binds (ps := ["self", "at"]) fun _ _ _ _ _ _ us hl => match us, hl with | [_, _], _ => rfl
  have F_NoEntry_init := fun_mk (st := s_NoEntry_init) l_NoEntry_init c_NoEntry_init k_NoEntry_init
  have b_NoEntry_init := F_NoEntry_init.binds (ps := ["self", "name"]) fun _ _ _ _ _ _ us hl => match us, hl with | [_, _], _ => rfl
  have F_Taken_init := fun_mk (st := s_Taken_init) l_Taken_init c_Taken_init k_Taken_init
  have b_Taken_init := F_Taken_init.binds (ps := ["self", "name"]) fun _ _ _ _ _ _ us hl => match us, hl with | [_, _], _ => rfl
  have F_TooMany_init := fun_mk (st := s_TooMany_init) l_TooMany_init c_TooMany_init k_TooMany_init
  have b_TooMany_init := F_TooMany_init.binds (ps := ["self", "most"]) fun _ _ _ _ _ _ us hl => match us, hl with | [_, _], _ => rfl
  have F_Unsafe_init := fun_mk (st := s_Unsafe_init) l_Unsafe_init c_Unsafe_init k_Unsafe_init
  have b_Unsafe_init := F_Unsafe_init.binds (ps := ["self", "filler", "at"]) fun _ _ _ _ _ _ us hl => match us, hl with | [_, _, _], _ => rfl
  have F_NoSave_init := fun_mk (st := s_NoSave_init) l_NoSave_init c_NoSave_init k_NoSave_init
  have b_NoSave_init := F_NoSave_init.binds (ps := ["self", "number"]) fun _ _ _ _ _ _ us hl => match us, hl with | [_, _], _ => rfl
  have F_NoTree_init := fun_mk (st := s_NoTree_init) l_NoTree_init c_NoTree_init k_NoTree_init
  have b_NoTree_init := F_NoTree_init.binds (ps := ["self", "name"]) fun _ _ _ _ _ _ us hl => match us, hl with | [_, _], _ => rfl
  have F_NoText_init := fun_mk (st := s_NoText_init) l_NoText_init c_NoText_init k_NoText_init
  have b_NoText_init := F_NoText_init.binds (ps := ["self", "row"]) fun _ _ _ _ _ _ us hl => match us, hl with | [_, _], _ => rfl
  have F_l_begun := fun_mk (st := s_l_begun) l_l_begun c_l_begun k_l_begun
  have b_l_begun := F_l_begun.binds (ps := ["_law_script"]) fun _ _ _ _ _ _ us hl => match us, hl with | [_], _ => rfl
  have F_l_next := fun_mk (st := s_l_next) l_l_next c_l_next k_l_next
  have b_l_next := F_l_next.binds (ps := ["_law_draw", "_law_many"]) fun _ _ _ _ _ _ us hl => match us, hl with | [_, _], _ => rfl
  have F_l_pick := fun_mk (st := s_l_pick) l_l_pick c_l_pick k_l_pick
  have b_l_pick := F_l_pick.binds (ps := ["_law_draw", "_law_some"]) fun _ _ _ _ _ _ us hl => match us, hl with | [_, _], _ => rfl
  have F_l_marks := fun_mk (st := s_l_marks) l_l_marks c_l_marks k_l_marks
  have b_l_marks := F_l_marks.binds (ps := ["_law_one"]) fun _ _ _ _ _ _ us hl => match us, hl with | [_], _ => rfl
  have F_law := fun_mk (st := s_law) l_law c_law k_law
  have b_law := F_law.binds (ps := ["_law_script"]) fun _ _ _ _ _ _ us hl => match us, hl with | [_], _ => rfl
  have mk : ∀ base : Heap, (∀ p ∈ ([] : List (Addr × Addr)), LamX.TabB base mg p.1 p.2) → FnG l.prog w K mg base 3 fa _ ["_law_script"] (SpF ⟨K, clsOf [(0, x_ArchiveError), (1, x_NoBytes), (2, x_NoNumber), (3, x_NoTime), (4, x_NoName), (5, x_NoComment), (6, x_NoData), (7, x_NoState), (8, x_NoChange), (9, x_NoFile), (10, x_NoPlace), (11, x_NoEntry), (12, x_Taken), (13, x_TooMany), (14, x_Unsafe), (15, x_NoSave), (16, x_NoTree), (17, x_NoText)], []⟩ Law.F_law) := fun base htb => ok_law (base := base) {
    d := ⟨clsOf [(0, x_ArchiveError), (1, x_NoBytes), (2, x_NoNumber), (3, x_NoTime), (4, x_NoName), (5, x_NoComment), (6, x_NoData), (7, x_NoState), (8, x_NoChange), (9, x_NoFile), (10, x_NoPlace), (11, x_NoEntry), (12, x_Taken), (13, x_TooMany), (14, x_Unsafe), (15, x_NoSave), (16, x_NoTree), (17, x_NoText)], [], ixA [f_NoChange_init, f_NoPlace_init, f_NoEntry_init, f_Taken_init, f_TooMany_init, f_Unsafe_init, f_NoSave_init, f_NoTree_init, f_NoText_init, f_l_begun, f_l_next, f_l_pick, f_l_marks, fa], ixF (fdOf F_NoChange_init) [fdOf F_NoChange_init, fdOf F_NoPlace_init, fdOf F_NoEntry_init, fdOf F_Taken_init, fdOf F_TooMany_init, fdOf F_Unsafe_init, fdOf F_NoSave_init, fdOf F_NoTree_init, fdOf F_NoText_init, fdOf F_l_begun, fdOf F_l_next, fdOf F_l_pick, fdOf F_l_marks, fdOf F_law]⟩
    q0 := {
      kc := kitCB_ok kcB (fun _ h => nomatch h) (fun _ h => nomatch h)
      m_ArchiveError := PySem.W.mg_of X G e_ArchiveError
      m_NoBytes := PySem.W.mg_of X G e_NoBytes
      m_NoNumber := PySem.W.mg_of X G e_NoNumber
      m_NoTime := PySem.W.mg_of X G e_NoTime
      m_NoName := PySem.W.mg_of X G e_NoName
      m_NoComment := PySem.W.mg_of X G e_NoComment
      m_NoData := PySem.W.mg_of X G e_NoData
      m_NoState := PySem.W.mg_of X G e_NoState
      m_NoChange := PySem.W.mg_of X G e_NoChange
      m_NoFile := PySem.W.mg_of X G e_NoFile
      m_NoPlace := PySem.W.mg_of X G e_NoPlace
      m_NoEntry := PySem.W.mg_of X G e_NoEntry
      m_Taken := PySem.W.mg_of X G e_Taken
      m_TooMany := PySem.W.mg_of X G e_TooMany
      m_Unsafe := PySem.W.mg_of X G e_Unsafe
      m_NoSave := PySem.W.mg_of X G e_NoSave
      m_NoTree := PySem.W.mg_of X G e_NoTree
      m_NoText := PySem.W.mg_of X G e_NoText
      z_ValueError := PySem.W.mg_none_of X G z_ValueError
      z_abs := PySem.W.mg_none_of X G z_abs
      z_enumerate := PySem.W.mg_none_of X G z_enumerate
      z_isinstance := PySem.W.mg_none_of X G z_isinstance
      z_len := PySem.W.mg_none_of X G z_len
      z_range := PySem.W.mg_none_of X G z_range
      z_repr := PySem.W.mg_none_of X G z_repr
      F_NoChange_init := F_NoChange_init
      b_NoChange_init := b_NoChange_init
      F_NoPlace_init := F_NoPlace_init
      b_NoPlace_init := b_NoPlace_init
    }
    q1 := {
      F_NoEntry_init := F_NoEntry_init
      b_NoEntry_init := b_NoEntry_init
      F_Taken_init := F_Taken_init
      b_Taken_init := b_Taken_init
      F_TooMany_init := F_TooMany_init
      b_TooMany_init := b_TooMany_init
      F_Unsafe_init := F_Unsafe_init
      b_Unsafe_init := b_Unsafe_init
      F_NoSave_init := F_NoSave_init
      b_NoSave_init := b_NoSave_init
      F_NoTree_init := F_NoTree_init
      b_NoTree_init := b_NoTree_init
      F_NoText_init := F_NoText_init
      b_NoText_init := b_NoText_init
      F_l_begun := F_l_begun
      b_l_begun := b_l_begun
      m_l_begun := PySem.W.mg_of X G a_l_begun
      F_l_next := F_l_next
      b_l_next := b_l_next
      m_l_next := PySem.W.mg_of X G a_l_next
      F_l_pick := F_l_pick
      b_l_pick := b_l_pick
      m_l_pick := PySem.W.mg_of X G a_l_pick
      F_l_marks := F_l_marks
      b_l_marks := b_l_marks
      m_l_marks := PySem.W.mg_of X G a_l_marks
      F_law := F_law
      b_law := b_law
      m_law := PySem.W.mg_of X G a_law
      ox_NoChange := ⟨⟨_, _, _, _, _, _, _, _, _, _, _, _, _, _, _, lo_NoChange, bv_NoChange⟩, sx_NoChange, xx_NoChange, xt_NoChange, xk_NoChange⟩
    }
    q2 := {
      ax_NoChange := a_NoChange_init
      tx_NoChange := tx_NoChange_init
      ox_NoPlace := ⟨⟨_, _, _, _, _, _, _, _, _, _, _, _, _, _, _, lo_NoPlace, bv_NoPlace⟩, sx_NoPlace, xx_NoPlace, xt_NoPlace, xk_NoPlace⟩
      ax_NoPlace := a_NoPlace_init
      tx_NoPlace := tx_NoPlace_init
      ox_NoEntry := ⟨⟨_, _, _, _, _, _, _, _, _, _, _, _, _, _, _, lo_NoEntry, bv_NoEntry⟩, sx_NoEntry, xx_NoEntry, xt_NoEntry, xk_NoEntry⟩
      ax_NoEntry := a_NoEntry_init
      tx_NoEntry := tx_NoEntry_init
      ox_Taken := ⟨⟨_, _, _, _, _, _, _, _, _, _, _, _, _, _, _, lo_Taken, bv_Taken⟩, sx_Taken, xx_Taken, xt_Taken, xk_Taken⟩
      ax_Taken := a_Taken_init
      tx_Taken := tx_Taken_init
      ox_TooMany := ⟨⟨_, _, _, _, _, _, _, _, _, _, _, _, _, _, _, lo_TooMany, bv_TooMany⟩, sx_TooMany, xx_TooMany, xt_TooMany, xk_TooMany⟩
      ax_TooMany := a_TooMany_init
      tx_TooMany := tx_TooMany_init
      ox_Unsafe := ⟨⟨_, _, _, _, _, _, _, _, _, _, _, _, _, _, _, lo_Unsafe, bv_Unsafe⟩, sx_Unsafe, xx_Unsafe, xt_Unsafe, xk_Unsafe⟩
      ax_Unsafe := a_Unsafe_init
      tx_Unsafe := tx_Unsafe_init
      ox_NoSave := ⟨⟨_, _, _, _, _, _, _, _, _, _, _, _, _, _, _, lo_NoSave, bv_NoSave⟩, sx_NoSave, xx_NoSave, xt_NoSave, xk_NoSave⟩
      ax_NoSave := a_NoSave_init
      tx_NoSave := tx_NoSave_init
      ox_NoTree := ⟨⟨_, _, _, _, _, _, _, _, _, _, _, _, _, _, _, lo_NoTree, bv_NoTree⟩, sx_NoTree, xx_NoTree, xt_NoTree, xk_NoTree⟩
      ax_NoTree := a_NoTree_init
      tx_NoTree := tx_NoTree_init
      ox_NoText := ⟨⟨_, _, _, _, _, _, _, _, _, _, _, _, _, _, _, lo_NoText, bv_NoText⟩, sx_NoText, xx_NoText, xt_NoText, xk_NoText⟩
      ax_NoText := a_NoText_init
      tx_NoText := tx_NoText_init
      rd_AE := ⟨rd_AE, rg_AE⟩
      vv_AE := vv_AE
    }
  }
  exact ⟨_, clsOf [(0, x_ArchiveError), (1, x_NoBytes), (2, x_NoNumber), (3, x_NoTime), (4, x_NoName), (5, x_NoComment), (6, x_NoData), (7, x_NoState), (8, x_NoChange), (9, x_NoFile), (10, x_NoPlace), (11, x_NoEntry), (12, x_Taken), (13, x_TooMany), (14, x_Unsafe), (15, x_NoSave), (16, x_NoTree), (17, x_NoText)], [], [], fun s v => .of_eq rfl, (fun _ h => nomatch h), (fun _ h => nomatch h), (fun _ h => nomatch h), fun base _ _ htb => mk base htb⟩
end Law
section
open PySem PySem.W PyProof.Rows
set_option maxHeartbeats 0 in
/-- the end by what is proved behind it (the look at the law takes much memory: it stands ahead) -/
theorem Law.end_of (hK : D.KeptBy Law.F_law 63) : PySem.Challenge.rw_endlist_k15_errors_told_apart.Holds := by
  w_on
  refine Law.top ?_
  k_fill
  refine D.walkT (l := PySem.Challenge.rw_endlist_k15_errors_told_apart) (n := 63) (k := 3) (x := "_law_script") (F := Law.F_law) rfl (by decide) rfl ⟨rfl, by decide, by decide⟩ (fun w h Y => PySem.W.kIn_of Y) ?F ?K
  case F =>
    intro w mg fa h KX G hmg
    refine' Law.all_mk KX G hmg ?e_ArchiveError ?e_NoBytes ?e_NoNumber ?e_NoTime ?e_NoName ?e_NoComment ?e_NoData ?e_NoState ?e_NoChange ?e_NoFile ?e_NoPlace ?e_NoEntry ?e_Taken ?e_TooMany ?e_Unsafe ?e_NoSave ?e_NoTree ?e_NoText ?lo_NoChange ?bv_NoChange ?sx_NoChange ?xx_NoChange ?xt_NoChange ?xk_NoChange ?lo_NoPlace ?bv_NoPlace ?sx_NoPlace ?xx_NoPlace ?xt_NoPlace ?xk_NoPlace ?lo_NoEntry ?bv_NoEntry ?sx_NoEntry ?xx_NoEntry ?xt_NoEntry ?xk_NoEntry ?lo_Taken ?bv_Taken ?sx_Taken ?xx_Taken ?xt_Taken ?xk_Taken ?lo_TooMany ?bv_TooMany ?sx_TooMany ?xx_TooMany ?xt_TooMany ?xk_TooMany ?lo_Unsafe ?bv_Unsafe ?sx_Unsafe ?xx_Unsafe ?xt_Unsafe ?xk_Unsafe ?lo_NoSave ?bv_NoSave ?sx_NoSave ?xx_NoSave ?xt_NoSave ?xk_NoSave ?lo_NoTree ?bv_NoTree ?sx_NoTree ?xx_NoTree ?xt_NoTree ?xk_NoTree ?lo_NoText ?bv_NoText ?sx_NoText ?xx_NoText ?xt_NoText ?xk_NoText ?rd_AE ?rg_AE ?vv_AE ?kcB ?a_NoChange_init ?tx_NoChange_init ?l_NoChange_init ?c_NoChange_init ?k_NoChange_init ?a_NoPlace_init ?tx_NoPlace_init ?l_NoPlace_init ?c_NoPlace_init ?k_NoPlace_init ?a_NoEntry_init ?tx_NoEntry_init ?l_NoEntry_init ?c_NoEntry_init ?k_NoEntry_init ?a_Taken_init ?tx_Taken_init ?l_Taken_init ?c_Taken_init ?k_Taken_init ?a_TooMany_init ?tx_TooMany_init ?l_TooMany_init ?c_TooMany_init ?k_TooMany_init ?a_Unsafe_init ?tx_Unsafe_init ?l_Unsafe_init ?c_Unsafe_init ?k_Unsafe_init ?a_NoSave_init ?tx_NoSave_init ?l_NoSave_init ?c_NoSave_init ?k_NoSave_init ?a_NoTree_init ?tx_NoTree_init ?l_NoTree_init ?c_NoTree_init ?k_NoTree_init ?a_NoText_init ?tx_NoText_init ?l_NoText_init ?c_NoText_init ?k_NoText_init ?a_l_begun ?l_l_begun ?c_l_begun ?k_l_begun ?a_l_next ?l_l_next ?c_l_next ?k_l_next ?a_l_pick ?l_l_pick ?c_l_pick ?k_l_pick ?a_l_marks ?l_l_marks ?c_l_marks ?k_l_marks ?a_law ?l_law ?c_law ?k_law ?z_ValueError ?z_abs ?z_enumerate ?z_isinstance ?z_len ?z_range ?z_repr
    (case e_ArchiveError => k_is); (case e_NoBytes => k_is); (case e_NoNumber => k_is); (case e_NoTime => k_is); (case e_NoName => k_is); (case e_NoComment => k_is); (case e_NoData => k_is); (case e_NoState => k_is); (case e_NoChange => k_is); (case e_NoFile => k_is); (case e_NoPlace => k_is); (case e_NoEntry => k_is); (case e_Taken => k_is); (case e_TooMany => k_is); (case e_Unsafe => k_is); (case e_NoSave => k_is); (case e_NoTree => k_is); (case e_NoText => k_is); (case lo_NoChange => k_is); (case sx_NoChange => k_is); (case xx_NoChange => k_is); (case xt_NoChange => k_is); (case xk_NoChange => k_is); (case lo_NoPlace => k_is); (case sx_NoPlace => k_is); (case xx_NoPlace => k_is); (case xt_NoPlace => k_is); (case xk_NoPlace => k_is); (case lo_NoEntry => k_is); (case sx_NoEntry => k_is); (case xx_NoEntry => k_is); (case xt_NoEntry => k_is); (case xk_NoEntry => k_is); (case lo_Taken => k_is); (case sx_Taken => k_is); (case xx_Taken => k_is); (case xt_Taken => k_is); (case xk_Taken => k_is); (case lo_TooMany => k_is); (case sx_TooMany => k_is); (case xx_TooMany => k_is); (case xt_TooMany => k_is); (case xk_TooMany => k_is); (case lo_Unsafe => k_is); (case sx_Unsafe => k_is); (case xx_Unsafe => k_is); (case xt_Unsafe => k_is); (case xk_Unsafe => k_is); (case lo_NoSave => k_is); (case sx_NoSave => k_is); (case xx_NoSave => k_is); (case xt_NoSave => k_is); (case xk_NoSave => k_is); (case lo_NoTree => k_is); (case sx_NoTree => k_is); (case xx_NoTree => k_is); (case xt_NoTree => k_is); (case xk_NoTree => k_is); (case lo_NoText => k_is); (case sx_NoText => k_is); (case xx_NoText => k_is); (case xt_NoText => k_is); (case xk_NoText => k_is); (case rd_AE => k_is); (case rg_AE => k_is); (case vv_AE => k_is); (case a_NoChange_init => k_is); (case tx_NoChange_init => k_is); (case l_NoChange_init => k_is); (case c_NoChange_init => k_is); (case k_NoChange_init => k_is); (case a_NoPlace_init => k_is); (case tx_NoPlace_init => k_is); (case l_NoPlace_init => k_is); (case c_NoPlace_init => k_is); (case k_NoPlace_init => k_is); (case a_NoEntry_init => k_is); (case tx_NoEntry_init => k_is); (case l_NoEntry_init => k_is); (case c_NoEntry_init => k_is); (case k_NoEntry_init => k_is); (case a_Taken_init => k_is); (case tx_Taken_init => k_is); (case l_Taken_init => k_is); (case c_Taken_init => k_is); (case k_Taken_init => k_is); (case a_TooMany_init => k_is); (case tx_TooMany_init => k_is); (case l_TooMany_init => k_is); (case c_TooMany_init => k_is); (case k_TooMany_init => k_is); (case a_Unsafe_init => k_is); (case tx_Unsafe_init => k_is); (case l_Unsafe_init => k_is); (case c_Unsafe_init => k_is); (case k_Unsafe_init => k_is); (case a_NoSave_init => k_is); (case tx_NoSave_init => k_is); (case l_NoSave_init => k_is); (case c_NoSave_init => k_is); (case k_NoSave_init => k_is); (case a_NoTree_init => k_is); (case tx_NoTree_init => k_is); (case l_NoTree_init => k_is); (case c_NoTree_init => k_is); (case k_NoTree_init => k_is); (case a_NoText_init => k_is); (case tx_NoText_init => k_is); (case l_NoText_init => k_is); (case c_NoText_init => k_is); (case k_NoText_init => k_is); (case a_l_begun => k_is); (case l_l_begun => k_is); (case c_l_begun => k_is); (case k_l_begun => k_is); (case a_l_next => k_is); (case l_l_next => k_is); (case c_l_next => k_is); (case k_l_next => k_is); (case a_l_pick => k_is); (case l_l_pick => k_is); (case c_l_pick => k_is); (case k_l_pick => k_is); (case a_l_marks => k_is); (case l_l_marks => k_is); (case c_l_marks => k_is); (case k_l_marks => k_is); (case a_law => k_is); (case l_law => k_is); (case c_law => k_is); (case k_law => k_is); (case z_ValueError => k_is); (case z_abs => k_is); (case z_enumerate => k_is); (case z_isinstance => k_is); (case z_len => k_is); (case z_range => k_is); (case z_repr => k_is)
    (case bv_NoChange => kernel_rfl)
    (case bv_NoPlace => kernel_rfl)
    (case bv_NoEntry => kernel_rfl)
    (case bv_Taken => kernel_rfl)
    (case bv_TooMany => kernel_rfl)
    (case bv_Unsafe => kernel_rfl)
    (case bv_NoSave => kernel_rfl)
    (case bv_NoTree => kernel_rfl)
    (case bv_NoText => kernel_rfl)
    (case kcB => kernel_rfl)
  case K => exact hK
end

/-! numbers, bytes -/
namespace Law
open PySem L2 PyProof.Rows D
/-- plain things -/
def pl : DV → Bool
  | .non => true
  | .bl _ => true
  | .int _ => true
  | .str _ => true
  | .lst _ => true
  | .tup _ => true
  | .dct _ _ => true
  | _ => false
end Law

namespace Law
open PySem L2 PyProof.Rows D
theorem sp_next {d : DrawSt} {n : Nat} {many : Int} {q : DV → Kd → List CellC → Prop} {E : EK} (ok : DrawOk d (n + 1)) (hm : 0 < many) (hm2 : many < 2 ^ 64) (h : ∀ r d' kd, 0 ≤ r → r < many → DrawOk d' n → q (.int r) kd [.draw d']) : XF F_l_next [.cel 0, .int many] [.draw d] q E := x_next_eqD ok hm hm2 h
theorem sp_pick {ds : List DV} {d : DrawSt} {n : Nat} {q : DV → Kd → List CellC → Prop} {E : EK} (ok : DrawOk d (n + 1)) (hne : 0 < ds.length) (hl : ds.length < 2 ^ 62) (h : ∀ x d', x ∈ ds → DrawOk d' n → q x (nk x .fro) [.draw d']) : XF F_l_pick [.cel 0, .lst ds] [.draw d] q E := by
  unfold F_l_pick
  refine x_wf' rfl ?_
  unfold sv_l_pick
  walk_at "wx"
  refine sp_next ok (by omega) (by omega) fun r d' kd r0 r1 ok' => ?_
  walk_at "wx"
  refine x_wo_ix r0 r1 fun x _ hx => ?_
  walk_at "wx"
  rw [retT_k]
  exact h x d' hx ok'
end Law

/-! k15: all errors, made of values -/
namespace Law
open PySem L2 PyProof.Rows D
theorem xs_nx {f : Sv} {st st' : DS} {k : KS} {E : EK} (e : f st = .ok .nx st') (h : k.nx st') : XS (f st) k E := by
  have : WS (f st) k E := by unfold WS; rw [e]; exact h
  with_unfolding_all exact this
def errL (T U : DV) : List DV := [.exc 1 [] [], .exc 2 [] [], .exc 3 [] [], .exc 4 [] [], .exc 5 [] [], .exc 6 [] [], .exc 7 [] [], .exc 9 [] [], .exc 8 ["at"] [T], .exc 10 ["at"] [T], .exc 11 ["name"] [T], .exc 12 ["name"] [T], .exc 13 ["most"] [T], .exc 14 ["at", "filler"] [U, T], .exc 15 ["number"] [T], .exc 16 ["name"] [T], .exc 17 ["row"] [T]]
theorem turn_run {T U e : DV} {k : Nat} (h : (errL T U)[k]? = some e) (d : DrawSt) (s0 s1 s2 s3 s4 s5 s10 : D.Slot) (b : Bool) :
    b_law_2 ⟨[s0, s1, s2, s3, s4, s5, some (.lst (errL T U), b), some (.int k, false), some (e, false), none, s10], [.draw d]⟩ = .ok .nx ⟨[s0, s1, s2, s3, s4, s5, some (.lst (errL T U), b), some (.int k, false), some (e, false), none, s10], [.draw d]⟩ := by
  have hk : k < 17 := (List.getElem?_eq_some_iff.mp h).1
  rcases k with _ | _ | _ | _ | _ | _ | _ | _ | _ | _ | _ | _ | _ | _ | _ | _ | _ | k
  case succ => omega
  all_goals
    cases h
    cases b <;> kernel_rfl
def someL : List DV := [.non, .bl true, .int 0, .int 5, .int (-1), .str "a", .str "", .tup [], .tup [.int 1, .str "a"], .int (10 ^ Int.toNat 30)]
theorem some_ok {T : DV} (h : T ∈ someL) : RepOk T ∧ RepOk (.lst [T, T, T, T, T, T, T, T, T]) := by
  unfold someL at h
  simp only [List.mem_cons, List.not_mem_nil, or_false] at h
  rcases h with rfl | rfl | rfl | rfl | rfl | rfl | rfl | rfl | rfl | rfl
  all_goals exact ⟨⟨by decide +kernel, by decide +kernel, by decide +kernel⟩, ⟨by decide +kernel, by decide +kernel, by decide +kernel⟩⟩
theorem bk_any {sl : List D.Slot} {cs : List CellC} {as : List (DV × Kd)} {a : DV} {q : QE} (h : ∀ sl', (sl' = sl ∨ sl' = (eatAll ⟨sl, cs⟩ as).sl) → q a (nk a .fro) ⟨sl', cs⟩) : BkT sl as a (nk a .fro) cs q := by
  have hk : kdO (nk a .fro) = nk a .fro := by unfold nk; by_cases hf : flat a = true <;> simp [hf, kdO]
  unfold BkT
  rw [hk]
  split
  · exact h _ (.inl rfl)
  · have e : eatAll ⟨sl, cs⟩ as = ⟨(eatAll ⟨sl, cs⟩ as).sl, cs⟩ := by
      have := eatAll_cs as ⟨sl, cs⟩
      cases hh : eatAll ⟨sl, cs⟩ as with
      | mk x y => rw [hh] at this; simp at this; rw [this]
    rw [e]
    exact h _ (.inr rfl)
theorem x_mkX1 {c i : Nat} {f : Str} {T : DV} {sl : List D.Slot} {cs : List CellC} {q : QE} {E : EK} (e : sl[i]? = some (some (T, false))) (h : q (.exc c [f] [T]) .new ⟨sl, cs⟩) : XE (evMkX c [f] (akCons (evVar i) akNil) ⟨sl, cs⟩) q E := by
  refine x_we_mkX ?_
  refine x_wa_cons ?_
  refine x_we_var e ?_
  refine x_wa_nil ?_
  exact ⟨rfl, h⟩
theorem x_mkX2 {c i j : Nat} {f g : Str} {T U : DV} {sl : List D.Slot} {cs : List CellC} {q : QE} {E : EK} (e : sl[i]? = some (some (T, false))) (e2 : sl[j]? = some (some (U, false))) (h : q (.exc c [g, f] [U, T]) .new ⟨sl, cs⟩) : XE (evMkX c [f, g] (akCons (evVar i) (akCons (evVar j) akNil)) ⟨sl, cs⟩) q E := by
  refine x_we_mkX ?_
  refine x_wa_cons ?_
  refine x_we_var e ?_
  refine x_wa_cons ?_
  refine x_we_var e2 ?_
  refine x_wa_nil ?_
  exact ⟨rfl, h⟩
theorem rest15 {T U : DV} (rT9 : RepOk (.lst [T, T, T, T, T, T, T, T, T])) (rU : RepOk U) {s0 s1 s2 s3 s6 s7 s8 s10 : D.Slot} {d : DrawSt} {nx bk ct : DS → Prop} {rt : QE} {E : EK}
    (h : ∀ s6 s7 s8 s10, nx ⟨[s0, s1, s2, s3, some (T, false), some (U, false), s6, s7, s8, none, s10], [.draw d]⟩) :
    XS (u2_law_2 ⟨[s0, s1, s2, s3, some (T, false), some (U, false), s6, s7, s8, none, s10], [.draw d]⟩) ⟨nx, bk, ct, rt⟩ E := by
  unfold u2_law_2
  repeat' (first | walk_at "wx1" | with_reducible refine x_we_mkP ?_)
  unfold u2_law_3
  repeat' (first | walk_at "wx1" | with_reducible refine x_we_mkP ?_ | with_reducible refine x_mkX1 rfl ?_)
  unfold u2_law_4
  repeat' (first | walk_at "wx1" | with_reducible refine x_mkX1 rfl ?_ | with_reducible refine x_mkX2 rfl rfl ?_)
  unfold u2_law_5
  repeat' walk_at "wx1"
  show XS (forGo (gvTup 2 (gvCons (gvName 7) (gvCons (gvName 8) gvNil))) b_law_2 (enumL (errL T U)) ⟨[s0, s1, s2, s3, some (T, false), some (U, false), some (.lst (errL T U), false), s7, s8, none, s10], [.draw d]⟩) _ _
  refine x_wfor (fun r st => ∃ (k : Nat) (s7 s8 : D.Slot), k ≤ 17 ∧ r = (enumL (errL T U)).drop k ∧ st = ⟨[s0, s1, s2, s3, some (T, false), some (U, false), some (.lst (errL T U), false), s7, s8, none, s10], [.draw d]⟩) _ _ ⟨0, s7, s8, by decide, rfl, rfl⟩ ?_ ?_
  · rintro x r st ⟨k, s7, s8, hk, e1, rfl⟩
    have hlt : k < 17 := by
      by_cases h : k < 17
      · exact h
      · have : k = 17 := by omega
        subst this
        cases e1
    obtain ⟨e, he⟩ : ∃ e, (errL T U)[k]? = some e := ⟨_, List.getElem?_eq_getElem (by exact hlt)⟩
    have e2 : (enumL (errL T U)).drop k = .tup [.int k, e] :: (enumL (errL T U)).drop (k + 1) := by
      rcases k with _ | _ | _ | _ | _ | _ | _ | _ | _ | _ | _ | _ | _ | _ | _ | _ | _ | k
      case succ => omega
      all_goals
        cases he
        rfl
    rw [e2] at e1
    injection e1 with e3 e4
    subst e3 e4
    walk_at "wx"
    refine xs_nx (turn_run he d s0 s1 s2 s3 _ _ s10 false) ?_
    exact ⟨k + 1, _, _, hlt, rfl, rfl⟩
  · rintro st ⟨k, s7, s8, hk, e1, rfl⟩
    unfold u2_law_6
    walk_at "wx"
    unfold u2_law_7
    walk_at "wx"
    unfold u2_law_8
    have rT9b : RepOk (.lst ([T, T, T, T, T, T] ++ [T, T, T])) := rT9
    have rT9c : RepOk (.lst (List.replicate (Int.toNat 9) [T]).flatten) := rT9
    walk_at "wx"
    refine IfK.to (decide_eq_true rfl) ?_
    walk_at "wx"
    exact h _ _ _ _
theorem law_kept : KeptBy F_law 63 := x_kept_of fun ns hl => by
  unfold F_law
  refine x_wf' rfl ?_
  unfold sv_law t_law_1
  walk_at "wx"
  refine x_begun_eqD hl fun d ok => ?_
  walk_at "wx"
  refine ⟨⟨by decide, by decide⟩, ?_⟩
  refine x_wfor (fun r st => ∃ (d : DrawSt) (s2 s3 s4 s5 s6 s7 s8 s10 : D.Slot), st = ⟨[some (.scr ns, false), some (.cel 0, false), s2, s3, s4, s5, s6, s7, s8, none, s10], [.draw d]⟩ ∧ DrawOk d (2 * r.length + 10)) _ _
    ⟨d, none, none, none, none, none, none, none, none, rfl, ?_⟩ ?_ ?_
  · exact ok.mono (by simp [rangeL])
  · rintro x r st ⟨d, s2, s3, s4, s5, s6, s7, s8, s10, rfl, ok⟩
    rw [List.length_cons] at ok
    walk_at "wx"
    unfold b_law_11
    walk_at "wx"
    show XS (u2_law_1 ⟨[some (.scr ns, false), some (.cel 0, false), some (x, false), some (.lst someL, true), s4, s5, s6, s7, s8, none, s10], [.draw d]⟩) _ _
    unfold u2_law_1
    walk_at "wx"
    refine sp_pick (ds := someL) (n := 2 * r.length + 11) (ok.mono (by omega)) (by decide) (by decide) fun T d1 hT ok1 => ?_
    refine bk_any fun sl' hs => ?_
    obtain ⟨b, rfl⟩ : ∃ b, sl' = [some (.scr ns, false), some (.cel 0, false), some (x, false), some (.lst someL, b), s4, s5, s6, s7, s8, none, s10] := by
      rcases hs with rfl | rfl
      · exact ⟨true, rfl⟩
      · exact ⟨false, rfl⟩
    obtain ⟨rT, rT9⟩ := some_ok hT
    cases b
    all_goals
      walk_at "wx"
      refine sp_pick (ds := someL) (n := 2 * r.length + 10) (ok1.mono (by omega)) (by decide) (by decide) fun U d2 hU ok2 => ?_
      obtain ⟨rU, _⟩ := some_ok hU
      refine bk_any fun sl' hs => ?_
      obtain ⟨b, rfl⟩ : ∃ b, sl' = [some (.scr ns, false), some (.cel 0, false), some (x, false), some (.lst someL, b), s4, s5, s6, s7, s8, none, s10] := by
        rcases hs with rfl | rfl
        · exact ⟨_, rfl⟩
        · exact ⟨_, rfl⟩
      walk_at "wx"
      refine rest15 rT9 rU fun s6 s7 s8 s10 => ?_
      exact ⟨d2, _, _, _, _, _, _, _, _, rfl, ok2⟩
  · rintro st ⟨d, s2, s3, s4, s5, s6, s7, s8, s10, rfl, ok⟩
    unfold t_law_2
    walk_at "wx"
    rfl
end Law

theorem PySem.Challenge.cw_endlist_k15_errors_told_apart_holds : PySem.Challenge.rw_endlist_k15_errors_told_apart.Holds :=
  Law.end_of Law.law_kept

