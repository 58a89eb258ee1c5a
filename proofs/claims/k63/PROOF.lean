import PyProof.Rows.All
import Wide.All
import OpenK.AllK
import Wide.FinOn
import HandS.ForMost
import HandS.ForExc
import HandS.Lambda
import HandS.Style
import HandS.TupAny
import HandS.Wide
import HandS.Deep
import HandS.Text
import HandS.Flow
import HandS.IsInst
import HandS.WordsDict
import HandS.RaiseMore
import KE.KExcIs
import HandS.CallSlots
import HandS.Iter
import HandS.Zip
import HandS.Comp
import HandS.Dict
import HandS.WordsExc
import HandS.EndBits
import HandS.ExcIs
import HandS.ExcValue
import HandS.ExcField
import HandS.TryMany
import HandS.SetFor
import HandS.Small
import HandS.Conv
import HandS.Replace
import HandS.Defaults
import PyProof.Draws
import PyProof.EnumMake
import PyProof.TupleIter
import HandS.MakeKwOnly
import HandS.Property
import PyProof.InstNe
import HandS.ExcInit
import HandS.ClsMeth
import HandS.SetBool
import HandS.SetKeys
import HandS.OwnEq
import PyProof.EqAt
import PyProof.NeKinds
import PyProof.ReprLen
import KE.KNestM
import HandS.Head2
import PySem.Challenge.RW_endlist_k63_bytes_as_texts
set_option Elab.async false
set_option linter.all false
set_option maxRecDepth 100000
set_option maxHeartbeats 4000000
/-! H: the law's head by three kernel runs of the top, each a theorem of its own. -/
namespace D
open PySem PySem.W PyProof.Rows PySem.Calls HandSHeadRun
/-- the state behind the top, by the library's twins -/
noncomputable def topEnd (r : OpenRow) (w : World) (os : OsState) : Option SharedT := endF (stepQ (denQ tabQ) r.prog w) 60000 r.prog w os
theorem map_both {α β γ : Type} {o : Option α} {f : α → β} {g : α → γ} {b : β} {c : γ} (h : o.map f = some b) (k : o.map g = some c) : o.map (fun s => (f s, g s)) = some (b, c) := by
  cases o with
  | none => cases h
  | some a => cases h; cases k; rfl
theorem head_h {r : OpenRow} {q : Program} {K : Params → Frag} {as : List Addr} {e : ∀ P, as = (K P).map (·.1)} {Hk : Hook} {loose : List PySem.Str} {d : DefRec} {kwd : List (PySem.Str × PySem.Expr)}
    (r1 : ∀ w os, (topEnd r w os).map (fun s => looksF r.prog (boot_heap w.params) s.abs) = some true)
    (r2 : ∀ w os, (topEnd r w os).map (fun s => seenQ q loose (importedModules r.prog.main.body) (fun s => xlAt q [] s && recOk r.toRowW.records s) s.abs) = some (openGood q loose))
    (hH : Hk = kHook K as e)
    (r3 : ∀ w os, (topEnd r w os).map (fun s => as.map (getT s)) = some ((K w.params).map fun x => some x.2))
    (eo : opening r.prog = plainProg r.prog.main.scope.names) (f : ∀ s, fenceModules? r.prog s = some s)
    (hdef : defOf q r.name = some (d, kwd)) (hp : r.prog.theDef r.name = some (d.params, d.body, d.scope)) (hk : kwWritten? d.params.kwonlyargs d.params.kw_defaults = some kwd)
    (hwr : (!r.writes || r.records.isEmpty) = true) (k1 : r.wellSaid = true) (ok : (chainsOk q && opensWell r.prog && (frees r.toRowW && r.within.isEmpty)) = true) (hb : r.prog.bare) (hw : r.toRowW.promised)
    (call : WalkO q loose (XL q []) Hk.says r.toRowW d kwd fun f vs => PySem.call f vs) : r.Holds := by
  subst hH
  refine head_any (H := kHook K as e) (ob := fun s => as.map (getT s)) (M := 60000) (fun s => List.map_congr_left fun a _ => getT_eq s a) eo f (fun w os => ?_) hdef hp hk hwr k1 ok hb hw call
  exact map_both (r1 w os) (map_both (r2 w os) (r3 w os))
/-- the same, where the top leaves tables for the code of lambdas -/
theorem head_hm {r : OpenRow} {q : Program} {K : Params → Frag} {as ts : List Addr} {e : ∀ P, as = (K P).map (·.1)} {Hk : Hook} {loose : List PySem.Str} {d : DefRec} {kwd : List (PySem.Str × PySem.Expr)}
    (r1 : ∀ w os, (topEnd r w os).map (fun s => looksF r.prog (boot_heap w.params) s.abs) = some true)
    (r2 : ∀ w os, (topEnd r w os).map (fun s => seenQ q loose (importedModules r.prog.main.body) (fun s => xlAt q [] s && recOk r.toRowW.records s) s.abs) = some (openGood q loose))
    (hH : Hk = kmHook K as e ts)
    (r3 : ∀ w os, (topEnd r w os).map (fun s => (as.map (getT s), ts.map (getT s))) = some ((K w.params).map fun x => some x.2, ts.map fun _ => some (tabObj #[])))
    (eo : opening r.prog = plainProg r.prog.main.scope.names) (f : ∀ s, fenceModules? r.prog s = some s)
    (hdef : defOf q r.name = some (d, kwd)) (hp : r.prog.theDef r.name = some (d.params, d.body, d.scope)) (hk : kwWritten? d.params.kwonlyargs d.params.kw_defaults = some kwd)
    (hwr : (!r.writes || r.records.isEmpty) = true) (k1 : r.wellSaid = true) (ok : (chainsOk q && opensWell r.prog && (frees r.toRowW && r.within.isEmpty)) = true) (hb : r.prog.bare) (hw : r.toRowW.promised)
    (call : WalkO q loose (XL q []) Hk.says r.toRowW d kwd fun f vs => PySem.call f vs) : r.Holds := by
  subst hH
  refine head_any (H := kmHook K as e ts) (ob := fun s => (as.map (getT s), ts.map (getT s))) (M := 60000) (fun s => Prod.ext (List.map_congr_left fun a _ => getT_eq s a) (List.map_congr_left fun a _ => getT_eq s a)) eo f (fun w os => ?_) hdef hp hk hwr k1 ok hb hw call
  exact map_both (r1 w os) (map_both (r2 w os) (r3 w os))
end D
namespace Law
open PySem PySem.W PyProof.Rows PySem.Calls HandSHeadRun
def loose0 : List PySem.Str := ["_wall", "ArchiveError", "NoBytes", "NoTime", "NoName", "NoComment", "NoData", "NoFile", "NoText", "GREATEST_BYTE", "is_number", "is_bytes", "need_bytes", "GREATEST_CHECK", "STEPS", "forward", "check", "check_checks", "LONGEST_NAME", "LONGEST_COMMENT", "FIRST_SIGN", "LAST_SIGN", "PERCENT", "is_printable", "is_text", "is_name", "is_comment", "EARLIEST", "LATEST_YEAR", "MONTHS"]
def loose1 : List PySem.Str := ["days_in", "is_time", "MOST_DATA", "FIRST_TIME", "Entry", "HEX", "bytes_text", "bytes_in", "read_bytes", "_law_begun", "_law_next", "_law_pick", "_law_some", "_law_hex", "_law_how", "_law_due", "_law_bent"]
def looseN : List PySem.Str := loose0 ++ loose1
abbrev rowR : OpenRow := OpenLaw.row PySem.Challenge.rw_endlist_k63_bytes_as_texts
abbrev viewQ : Program := view rowR.prog [55]
/-- the top runs through, and leaves the statics as they were -/
theorem run1 (w : World) (os : OsState) : (D.topEnd rowR w os).map (fun s => looksF rowR.prog (boot_heap w.params) s.abs) = some true := by kernel_rfl
/-- what is seen of the top behind it -/
theorem run2 (w : World) (os : OsState) : (D.topEnd rowR w os).map (fun s => seenQ viewQ looseN (importedModules rowR.prog.main.body) (fun s => xlAt viewQ [] s && recOk rowR.toRowW.records s) s.abs) = some (openGood viewQ looseN) := by kernel_rfl
end Law
section
open PySem PySem.W PyProof.Rows
local macro_rules | `(tactic| o_head $H:term) => `(tactic| refine D.head_hm (r := Law.rowR) (q := Law.viewQ) (Hk := $H) (d := HandSHeadRun.topDef Law.rowR.prog 55) (kwd := []) Law.run1 Law.run2 rfl (fun w os => by kernel_rfl) (by kernel_rfl) (fun s => by kernel_rfl) (by kernel_rfl) (by kernel_rfl) (by kernel_rfl) (by rfl) (by first | assumption | decide +kernel) (by decide +kernel) ⟨rfl, rfl, rfl, rfl, rfl, by decide +kernel⟩ ?hw ?hc)
set_option maxHeartbeats 0 in
open_top Law.top for PySem.Challenge.rw_endlist_k63_bytes_as_texts
end

/-! D: deep values, how the abstract heap bears them, the states, the steps. -/
namespace D
open PySem L2

/-- deep values: lists, tuples, dicts, instances as trees; scr: the law's script; cel: a mutable thing that is shared -/
inductive DV where
  | non | bl (b : Bool) | int (i : Int) | str (s : Str)
  | lst (xs : List DV) | tup (xs : List DV) | dct (ks : List Key) (vs : List DV)
  | set (ks : List Key)
  | ins (c : Nat) (ns : List Str) (vs : List DV)
  | exc (c : Nat) (ns : List Str) (vs : List DV)
  | scr (xs : List Int)
  | cel (k : Nat)
  | ty (n : String) | cls (c : Nat)
  | opq
  deriving Inhabited
/-- an exception in flight -/
structure DX where
  c : Nat
  ns : List Str
  vs : List DV
  deriving Inhabited
structure DrawSt where
  digits : Int
  great : List Int
  lumps : List Int
  turn : Int
  deriving Inhabited
inductive CellC where
  | draw (d : DrawSt)
  | obj (d : DV)
  | dead
  deriving Inhabited
structure CellA where
  main : Addr
  more : List Addr
inductive Kd where
  | fro | new | view (i : Nat)
  deriving Inhabited
abbrev Slot := Option (DV × Bool)
structure DS where
  sl : List Slot
  cs : List CellC
  deriving Inhabited
inductive Out (α : Type) where
  | ok (a : α) (st : DS)
  | exc (x : DX) (st : DS)
  | stuck
def Out.bind {α β : Type} (o : Out α) (k : α → DS → Out β) : Out β := match o with
  | .ok a st => k a st
  | .exc x st => .exc x st
  | .stuck => .stuck
abbrev Ev := DS → Out (DV × Kd)

/-- what is fixed for a whole law: the written part, the classes' addresses -/
structure RC where
  K : PySem.W.Frag
  cls : Nat → Addr
  T : List (Addr × Str)

section
variable (C : RC) (ρ : List CellA) (A : Addr → Prop) (H : Hp)
/-- a tuple that the top has written -/
def KT (a : Addr) (xs : List V) : Prop := ∃ (o : Obj) (its : Array Value) (n : Nat), C.K.lookup a = some o ∧ o.cls = .type "tuple" ∧ o.data = .seq its n ∧ its.size ≤ sizeLine ∧ Vals xs its.toList
/-- a list that the top has written -/
def KL (a : Addr) (xs : List V) : Prop := ∃ (o : Obj) (its : Array Value) (n : Nat), C.K.lookup a = some o ∧ o.cls = .type "list" ∧ o.dict = none ∧ o.data = .seq its n ∧ its.size ≤ sizeLine ∧ Vals xs its.toList
/-- an exception object at a, of the class cls, its own dict at d -/
def XO (cls : Value) (d : Option Addr) (a : Addr) : HO := .ext fun h => ∃ (oe : Obj) (vs : Array Value), h.get? a = some oe ∧ Zc cls d oe ∧ oe.data = .fields vs
mutual
inductive Rep : V → DV → Prop where
  | non : Rep .non .non
  | bl (b : Bool) : Rep (.bl b) (.bl b)
  | int (i : Int) : Rep (.int i) (.int i)
  | str (s : Str) : Rep (.str s) (.str s)
  | ty (n : String) : Rep (.ty n) (.ty n)
  | cls (c : Nat) : Rep (.ref (C.cls c)) (.cls c)
  | lst {a : Addr} {xs : List V} {ds : List DV} : ¬ A a → H a = some (.lst xs) → RepL xs ds → Rep (.ref a) (.lst ds)
  | tup {a : Addr} {xs : List V} {ds : List DV} : ¬ A a → H a = some (.tup xs) → RepL xs ds → Rep (.ref a) (.tup ds)
  | ktup {a : Addr} {xs : List V} {ds : List DV} : KT C a xs → RepL xs ds → Rep (.ref a) (.tup ds)
  | dct {a : Addr} {xs : List V} {ks : List Key} {ds : List DV} : ¬ A a → H a = some (.dK (ks.zip xs)) → ks.length = xs.length → RepL xs ds → Rep (.ref a) (.dct ks ds)
  | ins {a dx : Addr} {c : Nat} {xs : List V} {ns : List Str} {ds : List DV} : ¬ A a → H a = some (.ins (C.cls c) dx (ns.zip xs)) → ns.length = xs.length → RepL xs ds → Rep (.ref a) (.ins c ns ds)
  | scr {a : Addr} {o : Obj} {ns : List Int} : ¬ A a → H a = some (.frz o (.lst (ns.map V.int))) → Rep (.ref a) (.scr ns)
  | kscr {a : Addr} {ns : List Int} : KL C a (ns.map V.int) → Rep (.ref a) (.scr ns)
  | cel {k : Nat} {c : CellA} : ρ[k]? = some c → Rep (.ref c.main) (.cel k)
  | opq (a : Addr) : Rep (.ref a) .opq
  | exc {a dx : Addr} {c : Nat} {xs : List V} {ns : List Str} {ds : List DV} : ¬ A a → H a = some (XO (.ref (C.cls c)) (some dx) a) → ¬ A dx → H dx = some (.xd (ns.zip xs)) → ns.length = xs.length → RepL xs ds → Rep (.ref a) (.exc c ns ds)
  | exc0 {a : Addr} {c : Nat} : ¬ A a → H a = some (XO (.ref (C.cls c)) none a) → Rep (.ref a) (.exc c [] [])
inductive RepL : List V → List DV → Prop where
  | nil : RepL [] []
  | cons {v : V} {vs : List V} {d : DV} {ds : List DV} : Rep v d → RepL vs ds → RepL (v :: vs) (d :: ds)
end
end

/-- no table of code objects -/
def NT : HO → Prop
  | .tbl _ => False
  | _ => True
section
variable {C : RC} {ρ ρ' : List CellA} {A A' : Addr → Prop} {H H' : Hp}
theorem RepL.length : ∀ {vs : List V} {ds : List DV}, RepL C ρ A H vs ds → vs.length = ds.length
  | _, _, .nil => rfl
  | _, _, .cons _ t => by simp [RepL.length t]
theorem RepL.get : ∀ {vs : List V} {ds : List DV} {i : Nat} {d : DV}, RepL C ρ A H vs ds → ds[i]? = some d → ∃ v, vs[i]? = some v ∧ Rep C ρ A H v d
  | _, _, _, _, .nil, e => by simp at e
  | _, _, 0, _, .cons r _, e => by simp at e; subst e; exact ⟨_, rfl, r⟩
  | _, _, i + 1, d, .cons _ t, e => by
    obtain ⟨v, h1, h2⟩ := RepL.get (i := i) (d := d) t (by simpa using e)
    exact ⟨v, by simpa using h1, h2⟩
theorem RepL.append : ∀ {vs ws : List V} {ds es : List DV}, RepL C ρ A H vs ds → RepL C ρ A H ws es → RepL C ρ A H (vs ++ ws) (ds ++ es)
  | _, _, _, _, .nil, s => s
  | _, _, _, _, .cons r t, s => .cons r (RepL.append t s)
theorem RepL.take : ∀ {vs : List V} {ds : List DV} (n : Nat), RepL C ρ A H vs ds → RepL C ρ A H (vs.take n) (ds.take n)
  | _, _, 0, _ => .nil
  | _, _, _ + 1, .nil => .nil
  | _, _, n + 1, .cons r t => .cons r (RepL.take n t)
theorem RepL.drop : ∀ {vs : List V} {ds : List DV} (n : Nat), RepL C ρ A H vs ds → RepL C ρ A H (vs.drop n) (ds.drop n)
  | _, _, 0, r => r
  | _, _, _ + 1, .nil => .nil
  | _, _, n + 1, .cons _ t => RepL.drop n t
theorem RepL.set {v : V} {d : DV} (r : Rep C ρ A H v d) : ∀ {vs : List V} {ds : List DV} (i : Nat), RepL C ρ A H vs ds → RepL C ρ A H (vs.set i v) (ds.set i d)
  | _, _, _, .nil => .nil
  | _, _, 0, .cons _ t => .cons r t
  | _, _, i + 1, .cons q t => .cons q (RepL.set r i t)
theorem RepL.reverse : ∀ {vs : List V} {ds : List DV}, RepL C ρ A H vs ds → RepL C ρ A H vs.reverse ds.reverse
  | _, _, .nil => .nil
  | _, _, .cons q t => by
    rw [List.reverse_cons, List.reverse_cons]
    exact RepL.append (RepL.reverse t) (.cons q .nil)
mutual
theorem Rep.mv (hp : ρ <+: ρ') (hk : ∀ a o, H a = some o → ¬ A a → NT o → H' a = some o) (ha : ∀ a, A' a → A a ∨ H a = none) : ∀ {v : V} {d : DV}, Rep C ρ A H v d → Rep C ρ' A' H' v d
  | _, _, .non => .non
  | _, _, .bl b => .bl b
  | _, _, .int i => .int i
  | _, _, .str s => .str s
  | _, _, .ty n => .ty n
  | _, _, .cls c => .cls c
  | _, _, .lst n e r => .lst (fun z => (ha _ z).elim n fun q => by rw [e] at q; cases q) (hk _ _ e n trivial) (RepL.mv hp hk ha r)
  | _, _, .tup n e r => .tup (fun z => (ha _ z).elim n fun q => by rw [e] at q; cases q) (hk _ _ e n trivial) (RepL.mv hp hk ha r)
  | _, _, .ktup k r => .ktup k (RepL.mv hp hk ha r)
  | _, _, .dct n e l r => .dct (fun z => (ha _ z).elim n fun q => by rw [e] at q; cases q) (hk _ _ e n trivial) l (RepL.mv hp hk ha r)
  | _, _, .ins n e l r => .ins (fun z => (ha _ z).elim n fun q => by rw [e] at q; cases q) (hk _ _ e n trivial) l (RepL.mv hp hk ha r)
  | _, _, .scr n e => .scr (fun z => (ha _ z).elim n fun q => by rw [e] at q; cases q) (hk _ _ e n trivial)
  | _, _, .kscr k => .kscr k
  | _, _, .cel e => .cel (by
      obtain ⟨t, rfl⟩ := hp
      rw [List.getElem?_append_left (List.getElem?_eq_some_iff.mp e).1]; exact e)
  | _, _, .opq a => .opq a
  | _, _, .exc n e n2 e2 l r => .exc (fun z => (ha _ z).elim n fun q => by rw [e] at q; cases q) (hk _ _ e n trivial) (fun z => (ha _ z).elim n2 fun q => by rw [e2] at q; cases q) (hk _ _ e2 n2 trivial) l (RepL.mv hp hk ha r)
  | _, _, .exc0 n e => .exc0 (fun z => (ha _ z).elim n fun q => by rw [e] at q; cases q) (hk _ _ e n trivial)
theorem RepL.mv (hp : ρ <+: ρ') (hk : ∀ a o, H a = some o → ¬ A a → NT o → H' a = some o) (ha : ∀ a, A' a → A a ∨ H a = none) : ∀ {vs : List V} {ds : List DV}, RepL C ρ A H vs ds → RepL C ρ' A' H' vs ds
  | _, _, .nil => .nil
  | _, _, .cons r t => .cons (Rep.mv hp hk ha r) (RepL.mv hp hk ha t)
end
end

/-- a thing that may be written -/
def WR : HO → Prop
  | .lst _ => True
  | .dK _ => True
  | .ins _ _ _ => True
  | _ => False
theorem tabs_but {T : List (Addr × Str)} {H H' : Hp} (t : LamX.Tabs T H) (h : ∀ a o, H a = some o → ¬ WR o → H' a = some o) : LamX.Tabs T H' := fun q hq => by
  obtain ⟨ps, h1, h2, h3⟩ := t q hq
  refine ⟨ps, h _ _ h1 fun z => z, h2, fun pos cv hc => ?_⟩
  obtain ⟨c, e1, e2⟩ := h3 pos cv hc
  exact ⟨c, e1, h _ _ e2 fun z => z⟩
theorem tabs_write {T : List (Addr × Str)} {H : Hp} {p : Addr} {o' : HO} (t : LamX.Tabs T H) (hw : ∀ o, H p = some o → WR o) : LamX.Tabs T (upd H p o') :=
  tabs_but t fun a o e n => by rw [upd_ne (fun (z : a = p) => n (hw o (by rw [← z]; exact e)))]; exact e
/-! ### cells -/
def CM (ρ : List CellA) (a : Addr) : Prop := ∃ c ∈ ρ, a = c.main ∨ a ∈ c.more
def kDigits : Key := .inr "digits"
def kGreat : Key := .inr "great"
def kLumps : Key := .inr "lumps"
def kTurn : Key := .inr "turn"
/-- the draw's dict at a, its two lists at g and l -/
def DrawAt (H : Hp) (c : CellA) (d : DrawSt) : Prop := ∃ g l, c.more = [g, l] ∧ c.main ≠ g ∧ c.main ≠ l ∧ g ≠ l ∧
  H c.main = some (.dK [(kDigits, .int d.digits), (kGreat, .ref g), (kLumps, .ref l), (kTurn, .int d.turn)]) ∧ H g = some (.lst (d.great.map V.int)) ∧ H l = some (.lst (d.lumps.map V.int))
section
variable (C : RC) (ρ : List CellA) (A : Addr → Prop) (H : Hp)
/-- the content of what is held at p alone -/
def Cont (p : Addr) : DV → Prop
  | .lst ds => ∃ xs, H p = some (.lst xs) ∧ RepL C ρ A H xs ds
  | .dct ks ds => ∃ xs, H p = some (.dK (ks.zip xs)) ∧ ks.length = xs.length ∧ RepL C ρ A H xs ds
  | .ins c ns ds => ∃ dx xs, H p = some (.ins (C.cls c) dx (ns.zip xs)) ∧ ns.length = xs.length ∧ RepL C ρ A H xs ds
  | _ => False
def CellOk (c : CellA) : CellC → Prop
  | .draw d => DrawAt H c d
  | .obj d => c.more = [] ∧ Cont C ρ A H c.main d
  | .dead => True
end
theorem Cont.mv {C : RC} {ρ ρ' : List CellA} {A A' : Addr → Prop} {H H' : Hp} {p : Addr} (hp : ρ <+: ρ') (hk : ∀ a o, H a = some o → ¬ A a → NT o → H' a = some o) (ha : ∀ a, A' a → A a ∨ H a = none)
    (hpp : H' p = H p) : ∀ {d : DV}, Cont C ρ A H p d → Cont C ρ' A' H' p d
  | .lst _, ⟨xs, e, r⟩ => ⟨xs, hpp.trans e, r.mv hp hk ha⟩
  | .dct _ _, ⟨xs, e, l, r⟩ => ⟨xs, hpp.trans e, l, r.mv hp hk ha⟩
  | .ins _ _ _, ⟨dx, xs, e, l, r⟩ => ⟨dx, xs, hpp.trans e, l, r.mv hp hk ha⟩
theorem Cont.some {C : RC} {ρ : List CellA} {A : Addr → Prop} {H : Hp} {p : Addr} : ∀ {d : DV}, Cont C ρ A H p d → H p ≠ none
  | .lst _, ⟨xs, e, r⟩ => by rw [e]; exact fun z => nomatch z
  | .dct _ _, ⟨xs, e, l, r⟩ => by rw [e]; exact fun z => nomatch z
  | .ins _ _ _, ⟨dx, xs, e, l, r⟩ => by rw [e]; exact fun z => nomatch z
theorem Cont.nt {C : RC} {ρ : List CellA} {A : Addr → Prop} {H : Hp} {p : Addr} : ∀ {d : DV}, Cont C ρ A H p d → ∃ o, H p = Option.some o ∧ NT o
  | .lst _, ⟨xs, e, r⟩ => ⟨_, e, trivial⟩
  | .dct _ _, ⟨xs, e, l, r⟩ => ⟨_, e, trivial⟩
  | .ins _ _ _, ⟨dx, xs, e, l, r⟩ => ⟨_, e, trivial⟩
/-- held alone, it is a deep value like another, where p need not be kept away -/
theorem Cont.rep {C : RC} {ρ : List CellA} {A A' : Addr → Prop} {H : Hp} {p : Addr} (ha : ∀ a, A' a → A a) (hp : ¬ A' p) : ∀ {d : DV}, Cont C ρ A H p d → Rep C ρ A' H (.ref p) d
  | .lst _, ⟨xs, e, r⟩ => .lst hp e (r.mv (List.prefix_refl _) (fun _ _ e _ _ => e) fun a z => .inl (ha a z))
  | .dct _ _, ⟨xs, e, l, r⟩ => .dct hp e l (r.mv (List.prefix_refl _) (fun _ _ e _ _ => e) fun a z => .inl (ha a z))
  | .ins _ _ _, ⟨dx, xs, e, l, r⟩ => .ins hp e l (r.mv (List.prefix_refl _) (fun _ _ e _ _ => e) fun a z => .inl (ha a z))

/-! ### the state -/
section
variable (ρ : List CellA) (O : Addr → Prop) (st : DS) (σ : L2.St)
def ownAt (i : Nat) (p : Addr) : Prop := ∃ d, st.sl[i]? = some (some (d, true)) ∧ σ[i]? = some (some (.ref p))
def Av (a : Addr) : Prop := O a ∨ CM ρ a ∨ ∃ i, ownAt st σ i a
end
/-- what is fixed for a def's run: O what the caller wants kept away from what is handed in, H0 the heap at the entry -/
structure BC where
  C : RC
  O : Addr → Prop
  H0 : Hp
structure CellsOk (C : RC) (ρ : List CellA) (A : Addr → Prop) (H : Hp) (cs : List CellC) : Prop where
  len : ρ.length = cs.length
  ok : ∀ (k : Nat) (c : CellA) (x : CellC), ρ[k]? = some c → cs[k]? = some x → CellOk C ρ A H c x
  dis : ∀ (i j : Nat) (c c' : CellA), ρ[i]? = some c → ρ[j]? = some c' → i ≠ j → ∀ a, (a = c.main ∨ a ∈ c.more) → ¬ (a = c'.main ∨ a ∈ c'.more)
structure Rel (B : BC) (ρ : List CellA) (st : DS) (σ : L2.St) (H : Hp) : Prop where
  len : st.sl.length = σ.length
  fro : ∀ (i : Nat) (d : DV), st.sl[i]? = some (some (d, false)) → ∃ v, σ[i]? = some (some v) ∧ Rep B.C ρ (Av ρ B.O st σ) H v d
  own : ∀ (i : Nat) (d : DV), st.sl[i]? = some (some (d, true)) → ∃ p, σ[i]? = some (some (.ref p)) ∧ Cont B.C ρ (Av ρ B.O st σ) H p d ∧ ¬ CM ρ p ∧ ¬ B.O p ∧ B.H0 p = none
  dis : ∀ i j p, ownAt st σ i p → ownAt st σ j p → i = j
  dom : ∀ a, B.H0 a ≠ none → H a ≠ none
  odom : ∀ a, B.O a → H a ≠ none
  cel : CellsOk B.C ρ (Av ρ B.O st σ) H st.cs
  cdom : ∀ a, CM ρ a → H a ≠ none
  tabs : LamX.Tabs B.C.T H
structure Step (B : BC) (σ : L2.St) (ρ : List CellA) (st : DS) (H : Hp) (ρ' : List CellA) (st' : DS) (H' : Hp) : Prop where
  pre : ρ <+: ρ'
  rel : Rel B ρ' st' σ H'
  fr : ∀ a o, H a = some o → ¬ CM ρ a → NT o → H' a = some o
  sub : ∀ i p, ownAt st' σ i p → ownAt st σ i p
  sl : ∀ (i : Nat) (d : DV) (b : Bool), st'.sl[i]? = some (some (d, b)) → ∃ c, st.sl[i]? = some (some (d, c))
  cm : ∀ a, CM ρ' a → CM ρ a ∨ H a = none
  dm : ∀ a, H a ≠ none → H' a ≠ none
section
variable {B : BC} {σ : L2.St} {ρ ρ1 ρ2 : List CellA} {st st1 st2 : DS} {H H1 H2 : Hp}
theorem Step.refl (r : Rel B ρ st σ H) : Step B σ ρ st H ρ st H := ⟨List.prefix_refl _, r, fun _ _ e _ _ => e, fun _ _ z => z, fun _ _ b z => ⟨b, z⟩, fun _ z => .inl z, fun _ z => z⟩
theorem Step.av (s : Step B σ ρ st H ρ1 st1 H1) : ∀ a, Av ρ1 B.O st1 σ a → Av ρ B.O st σ a ∨ H a = none := fun a z => by
  rcases z with z | z | ⟨i, z⟩
  · exact .inl (.inl z)
  · exact (s.cm a z).imp (fun z => .inr (.inl z)) id
  · exact .inl (.inr (.inr ⟨i, s.sub i a z⟩))
theorem none_of_dm {a : Addr} (dm : ∀ a, H a ≠ none → H1 a ≠ none) (h : H1 a = none) : H a = none := by
  cases e : H a with
  | none => rfl
  | some o => exact absurd h (dm a (by rw [e]; exact fun z => nomatch z))
theorem Step.trans (a : Step B σ ρ st H ρ1 st1 H1) (b : Step B σ ρ1 st1 H1 ρ2 st2 H2) : Step B σ ρ st H ρ2 st2 H2 where
  pre := a.pre.trans b.pre
  rel := b.rel
  fr := fun p o e n t => b.fr p o (a.fr p o e n t) (fun z => (a.cm p z).elim n fun q => by rw [e] at q; cases q) t
  sub := fun i p z => a.sub i p (b.sub i p z)
  sl := fun i d c z => let ⟨c', z'⟩ := b.sl i d c z; a.sl i d c' z'
  cm := fun p z => (b.cm p z).elim (a.cm p) fun q => .inr (none_of_dm a.dm q)
  dm := fun p z => b.dm p (a.dm p z)
theorem Av.cm {ρ : List CellA} {O : Addr → Prop} {st : DS} {σ : L2.St} {a : Addr} (h : CM ρ a) : Av ρ O st σ a := .inr (.inl h)
theorem Rep.step (s : Step B σ ρ st H ρ1 st1 H1) {v : V} {d : DV} (r : Rep B.C ρ (Av ρ B.O st σ) H v d) : Rep B.C ρ1 (Av ρ1 B.O st1 σ) H1 v d :=
  r.mv s.pre (fun a o e n t => s.fr a o e (fun z => n (.cm z)) t) s.av
theorem RepL.step (s : Step B σ ρ st H ρ1 st1 H1) {v : List V} {d : List DV} (r : RepL B.C ρ (Av ρ B.O st σ) H v d) : RepL B.C ρ1 (Av ρ1 B.O st1 σ) H1 v d :=
  r.mv s.pre (fun a o e n t => s.fr a o e (fun z => n (.cm z)) t) s.av
end

def isCont : DV → Bool
  | .lst _ => true | .dct _ _ => true | .ins _ _ _ => true | _ => false
/-! ### the kinds of a result -/
/-- a new thing holds nothing that holds it -/
def NewC (B : BC) (ρ : List CellA) (st : DS) (σ : L2.St) (H : Hp) (v : V) (d : DV) : Prop := ∀ p, v = .ref p → isCont d = true → Cont B.C ρ (fun a => Av ρ B.O st σ a ∨ a = p) H p d
def RepK (B : BC) (ρ : List CellA) (st : DS) (σ : L2.St) (H : Hp) (kd : Kd) (v : V) (d : DV) : Prop := match kd with
  | .fro => Rep B.C ρ (Av ρ B.O st σ) H v d
  | .new => Rep B.C ρ (Av ρ B.O st σ) H v d ∧ NewC B ρ st σ H v d
  | .view i => ∃ p, v = .ref p ∧ σ[i]? = some (some (.ref p)) ∧ Cont B.C ρ (Av ρ B.O st σ) H p d ∧ ¬ CM ρ p ∧ ¬ B.O p ∧ (∀ j, ownAt st σ j p → j = i) ∧ B.H0 p = none
def Fresh (H : Hp) (kd : Kd) (v : V) : Prop := match kd with
  | .new => ∀ p, v = .ref p → H p = none
  | _ => True
section
variable {B : BC} {σ : L2.St} {ρ ρ1 ρ2 : List CellA} {st st1 st2 : DS} {H H1 H2 : Hp} {kd : Kd} {v : V} {d : DV}
theorem RepK.step (s : Step B σ ρ st H ρ1 st1 H1) (r : RepK B ρ st σ H kd v d) : RepK B ρ1 st1 σ H1 kd v d := by
  cases kd with
  | fro => exact Rep.step s r
  | new =>
    obtain ⟨r, n⟩ := r
    refine ⟨Rep.step s r, fun p ep hc => ?_⟩
    have c := n p ep hc
    obtain ⟨o, eo, nt⟩ := c.nt
    subst ep
    have hn : ¬ CM ρ p := fun z => by
      cases r with
      | lst n' _ _ => exact n' (.inr (.inl z))
      | dct n' _ _ _ => exact n' (.inr (.inl z))
      | ins n' _ _ _ => exact n' (.inr (.inl z))
      | _ => cases hc
    refine c.mv s.pre (fun a o e n t => s.fr a o e (fun z => n (.inl (.cm z))) t) (fun a z => ?_) ((s.fr p o eo hn nt).trans eo.symm)
    rcases z with z | z
    · exact (s.av a z).imp .inl id
    · exact .inl (.inr z)
  | view i =>
    obtain ⟨p, rfl, e, c, n1, n2, u, n3⟩ := r
    obtain ⟨o, eo, nt⟩ := c.nt
    refine ⟨p, rfl, e, c.mv s.pre (fun a o e n t => s.fr a o e (fun z => n (.cm z)) t) s.av ((s.fr p o eo n1 nt).trans eo.symm), fun z => (s.cm p z).elim n1 fun q => ?_, n2, fun j oj => u j (s.sub j p oj), n3⟩
    rw [eo] at q; cases q
theorem Fresh.dm (dm : ∀ a, H a ≠ none → H1 a ≠ none) (f : Fresh H1 kd v) : Fresh H kd v := by
  cases kd with
  | new => exact fun p e => none_of_dm dm (f p e)
  | fro => trivial
  | view i => trivial
end
end D

/-! D: what a run's answer asks (Res), the readings that say «D's answer» (RD ..), their laws. -/
namespace D
open PySem L2

/-- an exception as it lies: its class, its own dict -/
def XRep (B : BC) (ρ : List CellA) (st : DS) (σ : L2.St) (H : Hp) (x : DX) (cls : Value) (d : Option Addr) : Prop :=
  cls = .ref (B.C.cls x.c) ∧ ((x.ns = [] ∧ x.vs = [] ∧ d = none) ∨ ∃ a vs, d = some a ∧ ¬ Av ρ B.O st σ a ∧ H a = some (.xd (x.ns.zip vs)) ∧ x.ns.length = vs.length ∧ RepL B.C ρ (Av ρ B.O st σ) H vs x.vs)
theorem XRep.step {B : BC} {σ : L2.St} {ρ ρ1 : List CellA} {st st1 : DS} {H H1 : Hp} {x : DX} {cls : Value} {d : Option Addr} (s : Step B σ ρ st H ρ1 st1 H1) (r : XRep B ρ st σ H x cls d) : XRep B ρ1 st1 σ H1 x cls d := by
  obtain ⟨e, r⟩ := r
  refine ⟨e, ?_⟩
  rcases r with r | ⟨a, vs, e1, n, e2, l, r⟩
  · exact .inl r
  · exact .inr ⟨a, vs, e1, fun z => (s.av a z).elim n fun q => (by rw [e2] at q; cases q), s.fr a _ e2 (fun z => n (.cm z)) trivial, l, RepL.step s r⟩

section
variable (B : BC) (W : WX) (σ : L2.St)
/-- what D's answer asks -/
def Res {α : Type} (ρ : List CellA) (st : DS) (H : Hp) (o : Out α) (G : α → DS → List CellA → Hp → Prop) : Prop := match o with
  | .ok a st' => ∀ ρ' H', Step B σ ρ st H ρ' st' H' → G a st' ρ' H'
  | .exc x st' => ∀ ρ' H' cls d, Step B σ ρ st H ρ' st' H' → XRep B ρ' st' σ H' x cls d → W cls d σ H'
  | .stuck => False
end
section
variable {B : BC} {W : WX} {σ : L2.St} {ρ : List CellA} {st : DS} {H : Hp} {α β : Type} {o : Out α}
theorem Res.imp {G G' : α → DS → List CellA → Hp → Prop} (r : Res B W σ ρ st H o G) (h : ∀ a st' ρ' H', Step B σ ρ st H ρ' st' H' → G a st' ρ' H' → G' a st' ρ' H') : Res B W σ ρ st H o G' := by
  cases o with
  | ok a st' => exact fun ρ' H' s => h _ _ _ _ s (r ρ' H' s)
  | exc x st' => exact r
  | stuck => exact r
theorem Res.bind {k : α → DS → Out β} {G : β → DS → List CellA → Hp → Prop} (r : Res B W σ ρ st H (o.bind k) G) : Res B W σ ρ st H o fun a st1 ρ1 H1 => Res B W σ ρ1 st1 H1 (k a st1) G := by
  cases o with
  | ok a st1 =>
    intro ρ1 H1 s
    have r' : Res B W σ ρ st H (k a st1) G := r
    cases e : k a st1 with
    | ok b st2 =>
      rw [e] at r'
      exact fun ρ2 H2 s2 => r' ρ2 H2 (s.trans s2)
    | exc x st2 =>
      rw [e] at r'
      exact fun ρ2 H2 cls d s2 q => r' ρ2 H2 cls d (s.trans s2) q
    | stuck =>
      rw [e] at r'
      exact r'
  | exc x st' => exact r
  | stuck => exact r
/-- an answer at once -/
theorem Res.now {a : α} {G : α → DS → List CellA → Hp → Prop} (rel : Rel B ρ st σ H) (r : Res B W σ ρ st H (.ok a st) G) : G a st ρ H := r ρ H (.refl rel)
end

/-- behind an expression: every value that is D's -/
def GE (B : BC) (σ : L2.St) (H : Hp) (Q : VK) : DV × Kd → DS → List CellA → Hp → Prop := fun a st' ρ' H' => ∀ v, RepK B ρ' st' σ H' a.2 v a.1 → Fresh H a.2 v → Q v H'
def RD (B : BC) (W : WX) (f : Ev) : TE := fun σ H Q => ∃ ρ st, Rel B ρ st σ H ∧ Res B W σ ρ st H (f st) (GE B σ H Q)
def PD (X : Cx) (B : BC) (W : WX) (e : Expr) (f : Ev) : Prop := PE X e (RD B W f)
theorem PE.mono {X : Cx} {e : Expr} {t t' : TE} (h : PE X e t) (m : ∀ σ H Q, t' σ H Q → t σ H Q) : PE X e t' := ⟨fun pins s σ H Q I r => h.run pins s σ H Q I (m _ _ _ r)⟩
theorem PT.mono {X : Cx} {e : Expr} {t t' : TT} (h : PT X e t) (m : ∀ σ H Q, t' σ H Q → t σ H Q) : PT X e t' := ⟨fun pins s σ H Q I r => h.run pins s σ H Q I (m _ _ _ r)⟩
theorem PA.mono {X : Cx} {e : List Expr} {t t' : TA} (h : PA X e t) (m : ∀ σ H Q, t' σ H Q → t σ H Q) : PA X e t' := ⟨fun pos pins s σ H Q I r => h.run pos pins s σ H Q I (m _ _ _ r)⟩
theorem PS.mono {X : Cx} {e : Stmt} {t t' : TS} (h : PS X e t) (m : ∀ D σ H, t' D σ H → t D σ H) : PS X e t' := ⟨fun pins s σ H D I r => h.run pins s σ H D I (m _ _ _ r)⟩
theorem PSs.mono {X : Cx} {e : List Stmt} {t t' : TS} (h : PSs X e t) (m : ∀ D σ H, t' D σ H → t D σ H) : PSs X e t' := ⟨fun pins s σ H D I r => h.run pins s σ H D I (m _ _ _ r)⟩

section
variable {X : Cx} {B : BC} {W : WX} {σ : L2.St} {ρ ρ1 : List CellA} {st st1 : DS} {H H1 : Hp} {f : Ev} {e a b : Expr} {pos : Pos}
/-- the reading of a part, from the answer of the whole -/
theorem RD.go {G : DV × Kd → DS → List CellA → Hp → Prop} {Q : VK} (rel : Rel B ρ st σ H) (r : Res B W σ ρ st H (f st) G)
    (h : ∀ a st' ρ' H', Step B σ ρ st H ρ' st' H' → G a st' ρ' H' → ∀ v, RepK B ρ' st' σ H' a.2 v a.1 → Fresh H a.2 v → Q v H') : RD B W f σ H Q :=
  ⟨ρ, st, rel, r.imp h⟩
/-- a flat value is there in every state -/
def flat : DV → Bool
  | .non => true | .bl _ => true | .int _ => true | .str _ => true | .ty _ => true | _ => false
def flatV' : DV → V
  | .bl b => .bl b | .int i => .int i | .str s => .str s | .ty n => .ty n | _ => .non
theorem Rep.flat {C : RC} {ρ : List CellA} {A : Addr → Prop} {H : Hp} : ∀ {d : DV}, flat d = true → Rep C ρ A H (flatV' d) d
  | .non, _ => .non | .bl b, _ => .bl b | .int i, _ => .int i | .str s, _ => .str s | .ty n, _ => .ty n
theorem Rep.flat_eq {C : RC} {ρ : List CellA} {A : Addr → Prop} {H : Hp} {v : V} {d : DV} (h : D.flat d = true) (r : Rep C ρ A H v d) : v = flatV' d := by
  cases r <;> first | rfl | cases h

/-! ### names and constants -/
/-- the slot i -/
def evVar (i : Nat) : Ev := fun st => match st.sl[i]? with
  | some (some (d, false)) => .ok (d, .fro) st
  | some (some (d, true)) => .ok (d, .view i) st
  | _ => .stuck
theorem pd_var {i : Nat} (h : PE X e (tVar i)) : PD X B W e (evVar i) := by
  refine PE.mono h fun σ H Q ⟨ρ, st, rel, r⟩ => ?_
  unfold evVar at r
  split at r
  · rename_i d hs
    obtain ⟨v, e, q⟩ := rel.fro i d hs
    exact ⟨v, e, Res.now rel r v q trivial⟩
  · rename_i d hs
    obtain ⟨p, e, c, n1, n2, n3⟩ := rel.own i d hs
    exact ⟨.ref p, e, Res.now rel r _ ⟨p, rfl, e, c, n1, n2, fun j oj => rel.dis j i p oj ⟨d, hs, e⟩, n3⟩ trivial⟩
  · exact r.elim
def evC (d : DV) : Ev := fun st => .ok (d, .new) st
theorem pd_c {v : V} {d : DV} (h : PE X e (tC v)) (r : ∀ C ρ A H, Rep C ρ A H v d) (hv : ∀ p, v ≠ .ref p) : PD X B W e (evC d) :=
  PE.mono h fun σ H Q ⟨ρ, st, rel, q⟩ => Res.now rel q v ⟨r _ _ _ _, fun p z => absurd z (hv p)⟩ fun p z => absurd z (hv p)
end

/-! ### a new object -/
section
variable {X : Cx} {B : BC} {W : WX} {σ : L2.St} {ρ ρ1 : List CellA} {st st1 : DS} {H H1 : Hp}
theorem Rel.alloc {p : Addr} {o : HO} (r : Rel B ρ st σ H) (hp : H p = none) : Rel B ρ st σ (upd H p o) := by
  have kp : ∀ a u, H a = some u → upd H p o a = some u := fun a u e => by rw [upd_ne (ne_of_none e hp)]; exact e
  have av : ∀ a, Av ρ B.O st σ a → Av ρ B.O st σ a ∨ H a = none := fun a z => .inl z
  refine ⟨r.len, fun i d h => ?_, fun i d h => ?_, r.dis, fun a z => ?_, fun a z => (by obtain ⟨u, eu⟩ := Option.ne_none_iff_exists'.mp (r.odom a z); rw [kp a u eu]; exact fun z => nomatch z), ⟨r.cel.len, fun k c x h1 h2 => ?_, r.cel.dis⟩, fun a z => ?_, r.tabs.ext kp⟩
  · obtain ⟨v, e, q⟩ := r.fro i d h
    exact ⟨v, e, q.mv (List.prefix_refl _) (fun a u e _ _ => kp a u e) av⟩
  · obtain ⟨q, e, c, n1, n2, n3⟩ := r.own i d h
    obtain ⟨u, eu⟩ := Option.ne_none_iff_exists'.mp c.some
    exact ⟨q, e, c.mv (List.prefix_refl _) (fun a u e _ _ => kp a u e) av ((kp _ _ eu).trans eu.symm), n1, n2, n3⟩
  · obtain ⟨u, eu⟩ := Option.ne_none_iff_exists'.mp (r.dom a z)
    rw [kp a u eu]; exact fun z => nomatch z
  · have q := r.cel.ok k c x h1 h2
    cases x with
    | draw d =>
      obtain ⟨g, l, e, n1, n2, n3, a, b, c⟩ := q
      exact ⟨g, l, e, n1, n2, n3, kp _ _ a, kp _ _ b, kp _ _ c⟩
    | obj d =>
      obtain ⟨e, q⟩ := q
      obtain ⟨u, eu⟩ := Option.ne_none_iff_exists'.mp q.some
      exact ⟨e, q.mv (List.prefix_refl _) (fun a u e _ _ => kp a u e) av ((kp _ _ eu).trans eu.symm)⟩
    | dead => trivial
  · obtain ⟨u, eu⟩ := Option.ne_none_iff_exists'.mp (r.cdom a z)
    rw [kp a u eu]; exact fun z => nomatch z
theorem Step.alloc {p : Addr} {o : HO} (r : Rel B ρ st σ H) (hp : H p = none) : Step B σ ρ st H ρ st (upd H p o) where
  pre := List.prefix_refl _
  rel := r.alloc hp
  fr := fun a u e _ _ => by rw [upd_ne (ne_of_none e hp)]; exact e
  sub := fun _ _ z => z
  sl := fun _ _ b z => ⟨b, z⟩
  cm := fun _ z => .inl z
  dm := fun a z => by
    obtain ⟨u, eu⟩ := Option.ne_none_iff_exists'.mp z
    rw [upd_ne (ne_of_none eu hp), eu]; exact fun z => nomatch z
theorem Rel.av_dom (r : Rel B ρ st σ H) {a : Addr} (h : Av ρ B.O st σ a) : H a ≠ none := by
  rcases h with h | h | ⟨i, d, h1, h2⟩
  · exact r.odom a h
  · exact r.cdom a h
  · obtain ⟨p, e, c, _⟩ := r.own i d h1
    rw [h2] at e
    cases e
    exact c.some
theorem Rel.av_fresh (r : Rel B ρ st σ H) {p : Addr} (hp : H p = none) : ¬ Av ρ B.O st σ p := fun z => r.av_dom z hp
/-- a new list of things that are borne -/
theorem Rep.newLst {xs : List V} {ds : List DV} {p : Addr} (rel : Rel B ρ st σ H) (hp : H p = none) (r : RepL B.C ρ (Av ρ B.O st σ) H xs ds) : Rep B.C ρ (Av ρ B.O st σ) (upd H p (.lst xs)) (.ref p) (.lst ds) :=
  .lst (rel.av_fresh hp) upd_same (RepL.step (Step.alloc rel hp) r)
/-- a new list -/
theorem RepK.newLst {xs : List V} {ds : List DV} {p : Addr} (rel : Rel B ρ st σ H) (hp : H p = none) (r : RepL B.C ρ (Av ρ B.O st σ) H xs ds) : RepK B ρ st σ (upd H p (.lst xs)) .new (.ref p) (.lst ds) :=
  ⟨Rep.newLst rel hp r, fun q e _ => by cases e; exact ⟨xs, upd_same, r.mv (List.prefix_refl _) (fun a o e _ _ => by rw [upd_ne (ne_of_none e hp)]; exact e) fun a z => z.imp id fun z => by rw [z]; exact hp⟩⟩
theorem Rep.newTup {xs : List V} {ds : List DV} {p : Addr} (rel : Rel B ρ st σ H) (hp : H p = none) (r : RepL B.C ρ (Av ρ B.O st σ) H xs ds) : Rep B.C ρ (Av ρ B.O st σ) (upd H p (.tup xs)) (.ref p) (.tup ds) :=
  .tup (rel.av_fresh hp) upd_same (RepL.step (Step.alloc rel hp) r)
theorem Rep.newDct {xs : List V} {ks : List Key} {ds : List DV} {p : Addr} (rel : Rel B ρ st σ H) (hp : H p = none) (hl : ks.length = xs.length) (r : RepL B.C ρ (Av ρ B.O st σ) H xs ds) : Rep B.C ρ (Av ρ B.O st σ) (upd H p (.dK (ks.zip xs))) (.ref p) (.dct ks ds) :=
  .dct (rel.av_fresh hp) upd_same hl (RepL.step (Step.alloc rel hp) r)
theorem RepK.newTup {xs : List V} {ds : List DV} {p : Addr} (rel : Rel B ρ st σ H) (hp : H p = none) (r : RepL B.C ρ (Av ρ B.O st σ) H xs ds) : RepK B ρ st σ (upd H p (.tup xs)) .new (.ref p) (.tup ds) :=
  ⟨Rep.newTup rel hp r, fun q e h => by cases h⟩
theorem RepK.newDct {xs : List V} {ks : List Key} {ds : List DV} {p : Addr} (rel : Rel B ρ st σ H) (hp : H p = none) (hl : ks.length = xs.length) (r : RepL B.C ρ (Av ρ B.O st σ) H xs ds) : RepK B ρ st σ (upd H p (.dK (ks.zip xs))) .new (.ref p) (.dct ks ds) :=
  ⟨Rep.newDct rel hp hl r, fun q e _ => by cases e; exact ⟨xs, upd_same, hl, r.mv (List.prefix_refl _) (fun a o e _ _ => by rw [upd_ne (ne_of_none e hp)]; exact e) fun a z => z.imp id fun z => by rw [z]; exact hp⟩⟩
end

/-! ### to consume a result: what was a slot's own is shared from now on -/
def dropSl : List Slot → Nat → List Slot
  | [], _ => []
  | s :: r, 0 => (match s with | some (d, _) => some (d, false) | none => none) :: r
  | s :: r, i + 1 => s :: dropSl r i
theorem dropSl_len : ∀ (l : List Slot) (i : Nat), (dropSl l i).length = l.length
  | [], _ => rfl
  | _ :: _, 0 => rfl
  | s :: r, i + 1 => by show (dropSl r i).length + 1 = r.length + 1; rw [dropSl_len r i]
theorem dropSl_ne : ∀ (l : List Slot) (i j : Nat), j ≠ i → (dropSl l i)[j]? = l[j]?
  | [], _, _, _ => rfl
  | _ :: _, 0, 0, h => absurd rfl h
  | _ :: _, 0, j + 1, _ => rfl
  | _ :: _, i + 1, 0, _ => rfl
  | _ :: r, i + 1, j + 1, h => dropSl_ne r i j fun z => h (by rw [z])
theorem dropSl_at : ∀ (l : List Slot) (i : Nat) (d : DV) (b : Bool), (dropSl l i)[i]? = some (some (d, b)) → b = false ∧ ∃ c, l[i]? = some (some (d, c))
  | [], _, _, _, h => by cases h
  | none :: _, 0, _, _, h => by cases h
  | some (d', c) :: _, 0, d, b, h => by
    cases h
    exact ⟨rfl, c, rfl⟩
  | _ :: r, i + 1, d, b, h => dropSl_at r i d b h
def DS.drop (st : DS) (i : Nat) : DS := { st with sl := dropSl st.sl i }
section
variable {X : Cx} {B : BC} {W : WX} {σ : L2.St} {ρ ρ1 : List CellA} {st st1 : DS} {H H1 : Hp}
theorem drop_own {i j : Nat} {p : Addr} (h : ownAt (st.drop i) σ j p) : ownAt st σ j p ∧ j ≠ i := by
  obtain ⟨d, e, e2⟩ := h
  by_cases hj : j = i
  · subst hj
    have := (dropSl_at st.sl j d true e).1
    cases this
  · exact ⟨⟨d, by rw [← dropSl_ne st.sl i j hj]; exact e, e2⟩, hj⟩
theorem drop_av {i : Nat} {a : Addr} (h : Av ρ B.O (st.drop i) σ a) : Av ρ B.O st σ a := by
  rcases h with h | h | ⟨j, h⟩
  · exact .inl h
  · exact .inr (.inl h)
  · exact .inr (.inr ⟨j, (drop_own h).1⟩)
theorem Rel.drop (r : Rel B ρ st σ H) (i : Nat) : Rel B ρ (st.drop i) σ H := by
  have mv : ∀ a, Av ρ B.O (st.drop i) σ a → Av ρ B.O st σ a ∨ H a = none := fun a z => .inl (drop_av z)
  refine ⟨(dropSl_len _ _).trans r.len, fun j d h => ?_, fun j d h => ?_, fun j k p h1 h2 => r.dis j k p (drop_own h1).1 (drop_own h2).1, r.dom, r.odom, ⟨r.cel.len, fun k c x h1 h2 => ?_, r.cel.dis⟩, r.cdom, r.tabs⟩
  · by_cases hj : j = i
    · subst hj
      obtain ⟨_, c, e⟩ := dropSl_at st.sl j d false h
      cases c with
      | false =>
        obtain ⟨v, e1, q⟩ := r.fro j d e
        exact ⟨v, e1, q.mv (List.prefix_refl _) (fun _ _ e _ _ => e) mv⟩
      | true =>
        obtain ⟨p, e1, q, n1, n2, n3⟩ := r.own j d e
        refine ⟨.ref p, e1, q.rep (fun a z => drop_av z) fun z => ?_⟩
        rcases z with z | z | ⟨k, z⟩
        · exact n2 z
        · exact n1 z
        · obtain ⟨z1, z2⟩ := drop_own z
          exact z2 (r.dis k j p z1 ⟨d, e, e1⟩)
    · have h' : st.sl[j]? = some (some (d, false)) := by rw [← dropSl_ne st.sl i j hj]; exact h
      obtain ⟨v, e1, q⟩ := r.fro j d h'
      exact ⟨v, e1, q.mv (List.prefix_refl _) (fun _ _ e _ _ => e) mv⟩
  · by_cases hj : j = i
    · subst hj
      have := (dropSl_at st.sl j d true h).1
      cases this
    · have h' : st.sl[j]? = some (some (d, true)) := by rw [← dropSl_ne st.sl i j hj]; exact h
      obtain ⟨p, e1, q, n⟩ := r.own j d h'
      exact ⟨p, e1, q.mv (List.prefix_refl _) (fun _ _ e _ _ => e) mv rfl, n⟩
  · have q := r.cel.ok k c x h1 h2
    cases x with
    | draw d => exact q
    | obj d => exact ⟨q.1, q.2.mv (List.prefix_refl _) (fun _ _ e _ _ => e) mv rfl⟩
    | dead => trivial
theorem Step.drop (r : Rel B ρ st σ H) (i : Nat) : Step B σ ρ st H ρ (st.drop i) H where
  pre := List.prefix_refl _
  rel := r.drop i
  fr := fun _ _ e _ _ => e
  sub := fun _ _ z => (drop_own z).1
  sl := fun j d b z => by
    by_cases hj : j = i
    · subst hj
      exact (dropSl_at st.sl j d b z).2
    · exact ⟨b, by rw [← dropSl_ne st.sl i j hj]; exact z⟩
  cm := fun _ z => .inl z
  dm := fun _ z => z
/-- the state behind the consumption of a result -/
def DS.eat (st : DS) : Kd → DS
  | .view i => st.drop i
  | _ => st
theorem Step.eat (r : Rel B ρ st σ H) (kd : Kd) : Step B σ ρ st H ρ (st.eat kd) H := by
  cases kd with
  | view i => exact Step.drop r i
  | fro => exact .refl r
  | new => exact .refl r
theorem RepK.eat {kd : Kd} {v : V} {d : DV} (r : RepK B ρ st σ H kd v d) : Rep B.C ρ (Av ρ B.O (st.eat kd) σ) H v d := by
  cases kd with
  | view i =>
    obtain ⟨p, rfl, e, c, n1, n2, u, n3⟩ := r
    refine c.rep (fun a z => drop_av z) fun z => ?_
    rcases z with z | z | ⟨k, z⟩
    · exact n2 z
    · exact n1 z
    · obtain ⟨z1, z2⟩ := drop_own z
      exact z2 (u k z1)
  | fro => exact r
  | new => exact r.1
end
end D

/-! D: operators and comparisons on deep values. -/
namespace D
open PySem L2 PyProof.Rows

section
variable {B : BC} {σ : L2.St} {ρ : List CellA} {st : DS} {H : Hp} {kd : Kd} {v : V}
/-! ### what a result of a kind tells -/
theorem RepK.lst {ds : List DV} (r : RepK B ρ st σ H kd v (.lst ds)) : ∃ p xs, v = .ref p ∧ H p = some (.lst xs) ∧ RepL B.C ρ (Av ρ B.O st σ) H xs ds := by
  cases kd with
  | view i => obtain ⟨p, rfl, _, ⟨xs, e, q⟩, _⟩ := r; exact ⟨p, xs, rfl, e, q⟩
  | fro => cases (show Rep _ _ _ _ _ _ from r) with | lst n e q => exact ⟨_, _, rfl, e, q⟩
  | new => cases (show Rep _ _ _ _ _ _ from r.1) with | lst n e q => exact ⟨_, _, rfl, e, q⟩
theorem RepK.dct {ks : List Key} {ds : List DV} (r : RepK B ρ st σ H kd v (.dct ks ds)) : ∃ p xs, v = .ref p ∧ H p = some (.dK (ks.zip xs)) ∧ ks.length = xs.length ∧ RepL B.C ρ (Av ρ B.O st σ) H xs ds := by
  cases kd with
  | view i => obtain ⟨p, rfl, _, ⟨xs, e, l, q⟩, _⟩ := r; exact ⟨p, xs, rfl, e, l, q⟩
  | fro => cases (show Rep _ _ _ _ _ _ from r) with | dct n e l q => exact ⟨_, _, rfl, e, l, q⟩
  | new => cases (show Rep _ _ _ _ _ _ from r.1) with | dct n e l q => exact ⟨_, _, rfl, e, l, q⟩
theorem RepK.ins {c : Nat} {ns : List Str} {ds : List DV} (r : RepK B ρ st σ H kd v (.ins c ns ds)) : ∃ p dx xs, v = .ref p ∧ H p = some (.ins (B.C.cls c) dx (ns.zip xs)) ∧ ns.length = xs.length ∧ RepL B.C ρ (Av ρ B.O st σ) H xs ds := by
  cases kd with
  | view i => obtain ⟨p, rfl, _, ⟨dx, xs, e, l, q⟩, _⟩ := r; exact ⟨p, dx, xs, rfl, e, l, q⟩
  | fro => cases (show Rep _ _ _ _ _ _ from r) with | ins n e l q => exact ⟨_, _, _, rfl, e, l, q⟩
  | new => cases (show Rep _ _ _ _ _ _ from r.1) with | ins n e l q => exact ⟨_, _, _, rfl, e, l, q⟩
theorem Rep.sqt {C : RC} {A : Addr → Prop} {ds : List DV} (r : Rep C ρ A H v (.tup ds)) : ∃ p xs, v = .ref p ∧ SqT C.K H p xs ∧ RepL C ρ A H xs ds := by
  cases r with
  | tup n e q => exact ⟨_, _, rfl, .inl (.inl e), q⟩
  | ktup k q => exact ⟨_, _, rfl, .inr k, q⟩
theorem RepK.tup {ds : List DV} (r : RepK B ρ st σ H kd v (.tup ds)) : ∃ p xs, v = .ref p ∧ SqT B.C.K H p xs ∧ RepL B.C ρ (Av ρ B.O st σ) H xs ds := by
  cases kd with
  | view i => obtain ⟨p, rfl, _, c, _⟩ := r; cases c
  | fro => exact Rep.sqt r
  | new => exact Rep.sqt r.1
theorem RepK.flat {d : DV} (hf : D.flat d = true) (r : RepK B ρ st σ H kd v d) : v = flatV' d := by
  cases kd with
  | view i => obtain ⟨p, rfl, _, c, _⟩ := r; cases d <;> first | (exact absurd hf Bool.false_ne_true) | cases c
  | fro => exact Rep.flat_eq hf r
  | new => exact Rep.flat_eq hf r.1
theorem RepK.int {i : Int} (r : RepK B ρ st σ H kd v (.int i)) : v = .int i := RepK.flat rfl r
theorem RepK.bl {b : Bool} (r : RepK B ρ st σ H kd v (.bl b)) : v = .bl b := RepK.flat rfl r
theorem RepK.str {s : Str} (r : RepK B ρ st σ H kd v (.str s)) : v = .str s := RepK.flat rfl r
theorem RepK.non (r : RepK B ρ st σ H kd v .non) : v = .non := RepK.flat rfl r
/-- a flat answer -/
theorem RepK.mkF {d : DV} (hf : D.flat d = true) : RepK B ρ st σ H .new (flatV' d) d := ⟨Rep.flat hf, fun p e _ => by cases d <;> first | cases e | cases hf⟩
theorem fresh_flat {d : DV} (hf : D.flat d = true) : Fresh H .new (flatV' d) := fun p e => by
  cases d <;> first | cases e | cases hf
end

/-! ### deep values as data -/
mutual
def toP : DV → Option PyData
  | .non => some .none
  | .bl b => some (.bool b)
  | .int i => some (.int i)
  | .str s => some (.str s)
  | .lst ds => (toPs ds).map .list
  | .tup ds => (toPs ds).map .tuple
  | _ => none
def toPs : List DV → Option (List PyData)
  | [] => some []
  | d :: ds => match toP d, toPs ds with
    | some p, some ps => some (p :: ps)
    | _, _ => none
end
section
variable {C : RC} {ρ : List CellA} {A : Addr → Prop} {H : Hp}
mutual
theorem Rep.dp : ∀ {v : V} {d : DV} {p : PyData}, Rep C ρ A H v d → toP d = some p → Dp C.K H v p
  | _, _, _, .non, e => by cases e; exact .non
  | _, _, _, .bl b, e => by cases e; exact .bl b
  | _, _, _, .int i, e => by cases e; exact .int i
  | _, _, _, .str s, e => by cases e; exact .str s
  | _, _, _, .ty n, e => by cases e
  | _, _, _, .cls c, e => by cases e
  | _, _, p, .lst (ds := ds) n h r, e => by
    cases e2 : toPs ds with
    | none => simp [toP, e2] at e
    | some ps =>
      simp [toP, e2] at e
      subst e
      exact .lst (.inl (.inl h)) (RepL.dp r e2)
  | _, _, p, .tup (ds := ds) n h r, e => by
    cases e2 : toPs ds with
    | none => simp [toP, e2] at e
    | some ps =>
      simp [toP, e2] at e
      subst e
      exact .tup (.inl (.inl h)) (RepL.dp r e2)
  | _, _, p, .ktup (ds := ds) h r, e => by
    cases e2 : toPs ds with
    | none => simp [toP, e2] at e
    | some ps =>
      simp [toP, e2] at e
      subst e
      exact .tup (.inr h) (RepL.dp r e2)
  | _, _, _, .dct _ _ _ _, e => by cases e
  | _, _, _, .ins _ _ _ _, e => by cases e
  | _, _, _, .scr _ _, e => by cases e
  | _, _, _, .kscr _, e => by cases e
  | _, _, _, .cel _, e => by cases e
theorem RepL.dp : ∀ {vs : List V} {ds : List DV} {ps : List PyData}, RepL C ρ A H vs ds → toPs ds = some ps → DpAll C.K H vs ps
  | _, _, _, .nil, e => by cases e; exact .nil
  | _, _, ps, .cons (d := d) (ds := ds) r t, e => by
    cases e1 : toP d with
    | none => simp [toPs, e1] at e
    | some p =>
      cases e2 : toPs ds with
      | none => simp [toPs, e1, e2] at e
      | some qs =>
        simp [toPs, e1, e2] at e
        subst e
        exact .cons (Rep.dp r e1) (RepL.dp t e2)
end
end
theorem RepK.dp {B : BC} {σ : L2.St} {ρ : List CellA} {st : DS} {H : Hp} {kd : Kd} {v : V} {d : DV} {p : PyData} (r : RepK B ρ st σ H kd v d) (e : toP d = some p) : Dp B.C.K H v p := by
  cases kd with
  | view i =>
    obtain ⟨q, rfl, _, c, _⟩ := r
    cases d with
    | lst ds =>
      obtain ⟨xs, h, r⟩ := c
      cases e2 : toPs ds with
      | none => simp [toP, e2] at e
      | some ps =>
        simp [toP, e2] at e
        subst e
        exact .lst (.inl (.inl h)) (RepL.dp r e2)
    | dct => cases e
    | ins => cases e
    | _ => cases c
  | fro => exact Rep.dp r e
  | new => exact Rep.dp r.1 e

/-! ### two-place operations -/
abbrev Op2 := DV → DV → Option (DV × Kd)
/-- what a value-rule r asks is given by D's operation -/
def OpS (C : RC) (r : R2) (f : Op2) : Prop := ∀ (B : BC), B.C = C → ∀ (σ : L2.St) (ρ : List CellA) (st : DS) (H : Hp) (ka kb : Kd) (x y : V) (a b : DV) (c : DV × Kd) (Q : VK), Rel B ρ st σ H → RepK B ρ st σ H ka x a → RepK B ρ st σ H kb y b → f a b = some c →
  (∀ v H', Step B σ ρ st H ρ st H' → RepK B ρ st σ H' c.2 v c.1 → Fresh H c.2 v → Q v H') → r x y H Q
def evOp (f : Op2) (ea eb : Ev) : Ev := fun st => (ea st).bind fun a st1 => (eb st1).bind fun b st2 => match f a.1 b.1 with
  | some c => .ok c st2
  | none => .stuck
section
variable {X : Cx} {B : BC} {W : WX} {a b c : Expr} {fa fb fc : Ev} {pos : Pos} {r r' : R2} {f g : Op2}
theorem tOp_of (hs : OpS B.C r f) {σ : L2.St} {H : Hp} {Q : VK} (h : RD B W (evOp f fa fb) σ H Q) : tOp r (RD B W fa) (RD B W fb) σ H Q := by
  obtain ⟨ρ, st, rel, res⟩ := h
  refine RD.go rel (Res.bind res) fun a st1 ρ1 H1 s1 r1 x rx fx => ?_
  refine RD.go s1.rel (Res.bind r1) fun b st2 ρ2 H2 s2 r2 y ry fy => ?_
  cases e : f a.1 b.1 with
  | none => rw [e] at r2; exact r2.elim
  | some c =>
    rw [e] at r2
    exact hs B rfl σ ρ2 st2 H2 a.2 b.2 x y a.1 b.1 c Q s2.rel (RepK.step s2 rx) ry e fun v H' s3 rv fv => r2 _ _ s3 v rv ((fv.dm s2.dm).dm s1.dm)
theorem pd_bin {op : Operator} (ho : OpR X (binaryOp op) r) (hs : OpS B.C r f) (ha : PD X B W a fa) (hb : PD X B W b fb) : PD X B W (.BinOp a op b pos) (evOp f fa fb) :=
  PE.mono (pe_op ho ha hb) fun _ _ _ h => tOp_of hs h
theorem pd_cmp {op : CmpOp} (ho : OpR X (compareOp op) r) (hs : OpS B.C r f) (ha : PD X B W a fa) (hb : PD X B W b fb) (hm : behindInMarks op b = false) : PD X B W (.Compare a [op] [b] pos) (evOp f fa fb) :=
  PE.mono (pe_cmpR ho ha hb hm) fun _ _ _ h => tOp_of hs h
theorem OpS.or {r r' : R2} {C : RC} (h : OpS C r f) (h' : OpS C r' g) : OpS C (fun x y H Q => r x y H Q ∨ r' x y H Q) (fun a b => match f a b with | some c => some c | none => g a b) := by
  intro B hB σ ρ st H ka kb x y a b c Q rel rx ry e q
  cases e1 : f a b with
  | some c' =>
    simp only [e1] at e
    cases e
    exact .inl (h B hB σ ρ st H ka kb x y a b c Q rel rx ry e1 q)
  | none =>
    simp only [e1] at e
    exact .inr (h' B hB σ ρ st H ka kb x y a b c Q rel rx ry e q)
/-- a rule by D's own cases -/
theorem OpS.orB {r r' : R2} {C : RC} {f g k : Op2} (h : OpS C r f) (h' : OpS C r' g) (e : ∀ a b c, k a b = some c → f a b = some c ∨ g a b = some c) : OpS C (fun x y H Q => r x y H Q ∨ r' x y H Q) k := by
  intro B hB σ ρ st H ka kb x y a b c Q rel rx ry e1 q
  rcases e a b c e1 with e2 | e2
  · exact .inl (h B hB σ ρ st H ka kb x y a b c Q rel rx ry e2 q)
  · exact .inr (h' B hB σ ρ st H ka kb x y a b c Q rel rx ry e2 q)
end

/-- ints under a condition -/
def iOp (P : Int → Int → Bool) (g : Int → Int → Int) : Op2
  | .int i, .int j => if P i j then some (.int (g i j), .new) else none
  | _, _ => none
theorem ops_int0 {C : RC} {g : Int → Int → Int} : OpS C (rI0 fun i j => .int (g i j)) (iOp (fun _ _ => true) g) := by
  intro B hB σ ρ st H ka kb x y a b c Q rel rx ry e q
  cases a <;> try (cases e; done)
  cases b <;> try (cases e; done)
  rename_i i j
  cases e
  obtain rfl := rx.int
  obtain rfl := ry.int
  exact ⟨i, j, rfl, rfl, q _ _ (.refl rel) (RepK.mkF (d := .int (g i j)) rfl) (fresh_flat (d := .int (g i j)) rfl)⟩

/-! ### + -/
def catL : Op2
  | .lst xs, .lst ys => if xs.length + ys.length ≤ sizeLine then some (.lst (xs ++ ys), .new) else none
  | _, _ => none
theorem ops_catL {C : RC} : OpS C rCat catL := by
  intro B hB σ ρ st H ka kb x y a b c Q rel rx ry e q
  cases a <;> try (cases e; done)
  cases b <;> try (cases e; done)
  rename_i xs ys
  by_cases hp : xs.length + ys.length ≤ sizeLine
  · simp only [catL, hp, if_true] at e
    cases e
    obtain ⟨p, vs, rfl, e1, r1⟩ := rx.lst
    obtain ⟨p2, ws, rfl, e2, r2⟩ := ry.lst
    refine ⟨p, p2, vs, ws, rfl, rfl, e1, e2, by rw [r1.length, r2.length]; exact hp, fun n hn => ?_⟩
    exact q _ _ (Step.alloc rel hn) (RepK.newLst rel hn (r1.append r2)) fun m em => by cases em; exact hn
  · simp only [catL, hp, if_false] at e
    cases e
def catS : Op2
  | .str x, .str y => if x.length + y.length ≤ sizeLine then some (.str (x ++ y), .new) else none
  | _, _ => none
theorem ops_catS {C : RC} : OpS C (fun x y H Q => ∃ i j, x = .str i ∧ y = .str j ∧ i.length + j.length ≤ sizeLine ∧ Q (.str (i ++ j)) H) catS := by
  intro B hB σ ρ st H ka kb x y a b c Q rel rx ry e q
  cases a <;> try (cases e; done)
  cases b <;> try (cases e; done)
  rename_i i j
  by_cases hp : i.length + j.length ≤ sizeLine
  · simp only [catS, hp, if_true] at e
    cases e
    obtain rfl := rx.str
    obtain rfl := ry.str
    exact ⟨i, j, rfl, rfl, hp, q _ _ (.refl rel) (RepK.mkF (d := .str (i ++ j)) rfl) (fresh_flat (d := .str (i ++ j)) rfl)⟩
  · simp only [catS, hp, if_false] at e
    cases e
def catT : Op2
  | .tup xs, .tup ys => if xs.length + ys.length ≤ sizeLine then some (.tup (xs ++ ys), .fro) else none
  | _, _ => none
theorem Rep.ofSqt {C : RC} {ρ : List CellA} {A : Addr → Prop} {H : Hp} {v : V} {ds : List DV} {B : BC} {σ : L2.St} {st : DS} {kd : Kd} (r : RepK B ρ st σ H kd v (.tup ds)) : Rep B.C ρ (Av ρ B.O st σ) H v (.tup ds) := by
  cases kd with
  | view i => obtain ⟨p, rfl, _, c, _⟩ := r; cases c
  | fro => exact r
  | new => exact r.1
theorem ops_catT {C : RC} : OpS C (rCatA C.K) catT := by
  intro B hB σ ρ st H ka kb x y a b c Q rel rx ry e q
  subst hB
  cases a <;> try (cases e; done)
  cases b <;> try (cases e; done)
  rename_i xs ys
  by_cases hp : xs.length + ys.length ≤ sizeLine
  · simp only [catT, hp, if_true] at e
    cases e
    have wx := Rep.ofSqt (C := B.C) (A := Av ρ B.O st σ) rx
    have wy := Rep.ofSqt (C := B.C) (A := Av ρ B.O st σ) ry
    obtain ⟨p, vs, rfl, e1, r1⟩ := rx.tup
    obtain ⟨p2, ws, rfl, e2, r2⟩ := ry.tup
    refine ⟨p, p2, vs, ws, rfl, rfl, e1, e2, by rw [r1.length, r2.length]; exact hp, fun ex => ?_, fun nx ey => ?_, fun nx ny n hn => ?_⟩
    · subst ex
      have : xs = [] := List.eq_nil_of_length_eq_zero (by rw [← r1.length]; rfl)
      subst this
      exact q _ _ (.refl rel) wy trivial
    · subst ey
      have : ys = [] := List.eq_nil_of_length_eq_zero (by rw [← r2.length]; rfl)
      subst this
      rw [List.append_nil] at q
      exact q _ _ (.refl rel) wx trivial
    · exact q _ _ (Step.alloc rel hn) (Rep.newTup rel hn (r1.append r2)) trivial
  · simp only [catT, hp, if_false] at e
    cases e
def dAdd : Op2
  | .int i, .int j => some (.int (i + j), .new)
  | .lst xs, .lst ys => if xs.length + ys.length ≤ sizeLine then some (.lst (xs ++ ys), .new) else none
  | .str x, .str y => if x.length + y.length ≤ sizeLine then some (.str (x ++ y), .new) else none
  | .tup xs, .tup ys => if xs.length + ys.length ≤ sizeLine then some (.tup (xs ++ ys), .fro) else none
  | .int i, .bl k => some (.int (i + b2i k), .new)
  | _, _ => none
def rAddIB : R2 := fun x y H Q => ∃ i k, x = .int i ∧ y = .bl k ∧ Q (.int (i + b2i k)) H
def addIB : Op2
  | .int i, .bl k => some (.int (i + b2i k), .new)
  | _, _ => none
theorem ops_addIB {C : RC} : OpS C rAddIB addIB := by
  intro B hB σ ρ st H ka kb x y a b c Q rel rx ry e q
  cases a <;> try (cases e; done)
  cases b <;> try (cases e; done)
  rename_i i k
  cases e
  obtain rfl := rx.int
  obtain rfl := ry.bl
  exact ⟨i, k, rfl, rfl, q _ _ (.refl rel) (RepK.mkF (d := .int (i + b2i k)) rfl) (fresh_flat (d := .int (i + b2i k)) rfl)⟩
def rAddAll (K : PySem.W.Frag) : R2 := fun x y H Q => (rI0 fun i j => .int (i + j)) x y H Q ∨ (rCat x y H Q ∨ ((∃ i j, x = .str i ∧ y = .str j ∧ i.length + j.length ≤ sizeLine ∧ Q (.str (i ++ j)) H) ∨ (rCatA K x y H Q ∨ rAddIB x y H Q)))
theorem opr_add {X : Cx} : OpR X (binaryOp .Add) (rAddAll X.K) := OpR.or op_add (OpR.or op_cat (OpR.or op_add_str (OpR.or op_catA op_add_ib)))
theorem ops_add {C : RC} : OpS C (rAddAll C.K) dAdd := by
  refine OpS.orB ops_int0 (OpS.orB ops_catL (OpS.orB ops_catS (OpS.orB ops_catT ops_addIB (k := fun a b => match catT a b with | some c => some c | none => addIB a b) ?_) (k := fun a b => match catS a b with | some c => some c | none => match catT a b with | some c => some c | none => addIB a b) ?_)
    (k := fun a b => match catL a b with | some c => some c | none => match catS a b with | some c => some c | none => match catT a b with | some c => some c | none => addIB a b) ?_) ?_
  · intro a b c e
    split at e
    · rename_i h; rw [← e]; exact .inl h
    · exact .inr e
  · intro a b c e
    split at e
    · rename_i h; rw [← e]; exact .inl h
    · exact .inr e
  · intro a b c e
    split at e
    · rename_i h; rw [← e]; exact .inl h
    · exact .inr e
  · intro a b c e
    unfold dAdd at e
    split at e
    · exact .inl e
    all_goals first
      | (cases e; done)
      | (refine .inr ?_; simp only [catL, catS, catT, addIB]; exact e)
      | (refine .inr ?_; simp only [catL, catS, catT, addIB]; split at e <;> first | (cases e; rename_i h; simp [h]; done) | (cases e; done))
end D

/-! D: the other operators, comparisons, in, is. -/
namespace D
open PySem L2 PyProof.Rows

/-- an answer that is flat and leaves all as it is -/
theorem ansF {B : BC} {σ : L2.St} {ρ : List CellA} {st : DS} {H : Hp} {Q : VK} {d : DV} (hf : flat d = true) (rel : Rel B ρ st σ H)
    (q : ∀ v H', Step B σ ρ st H ρ st H' → RepK B ρ st σ H' .new v d → Fresh H .new v → Q v H') : Q (flatV' d) H := q _ _ (.refl rel) (RepK.mkF hf) (fresh_flat hf)

/-! ### - * // % ** << >> & | ^ -/
def dSub : Op2 | .int i, .int j => some (.int (i - j), .new) | _, _ => none
theorem ops_sub {C : RC} : OpS C (rI0 fun i j => .int (i - j)) dSub := by
  intro B hB σ ρ st H ka kb x y a b c Q rel rx ry e q
  cases a <;> try (cases e; done)
  cases b <;> try (cases e; done)
  rename_i i j
  cases e
  obtain rfl := rx.int
  obtain rfl := ry.int
  exact ⟨i, j, rfl, rfl, ansF (d := .int (i - j)) rfl rel q⟩
def fits64 (i : Int) : Bool := decide (-(2 ^ 64) < i) && decide (i < 2 ^ 64)
theorem fits64_of {i : Int} (h : fits64 i = true) : -(2 ^ 64) < i ∧ i < 2 ^ 64 := by
  unfold fits64 at h
  rw [Bool.and_eq_true, decide_eq_true_iff, decide_eq_true_iff] at h
  exact h
/-! a text so many times -/
section
open SX PySem.Builtin PySem.Builtin.Str
def repS (s : Str) (n : Nat) : Str := ⟨(List.replicate n s.cps.toList).flatten.toArray⟩
theorem repS_fold (x : Str) : ∀ n : Nat, ∀ acc : Array Nat, (List.replicate n x.cps).foldl (· ++ ·) acc = acc ++ (List.replicate n x.cps.toList).flatten.toArray
  | 0, acc => by simp
  | n + 1, acc => by
    rw [List.replicate_succ, List.foldl_cons, repS_fold x n, List.replicate_succ, List.flatten_cons]
    apply Array.toList_inj.mp
    simp [Array.toList_append]
theorem repS_eq (x : Str) (n : Nat) : repS x n = ⟨(List.replicate n x.cps).foldl (· ++ ·) #[]⟩ := by
  rw [repS_fold]
  unfold repS
  congr 1
  simp
theorem repS_len (x : Str) (n : Nat) : (repS x n).length = n * x.length := by
  show (List.toArray _).size = n * x.cps.size
  rw [List.size_toArray, List.length_flatten, List.map_replicate, List.sum_replicate_nat]
  simp
def rMulS : R2 := fun x y H Q => ∃ s k, x = .str s ∧ y = .int k ∧ 0 ≤ k ∧ k ≤ 4096 ∧ s.length ≤ 1000 ∧ Q (.str (repS s k.toNat)) H
theorem op_mulS {X : Cx} : OpR X (binaryOp .Mult) rMulS := by
  intro pins s σ H x y v u Q I rx ry h
  obtain ⟨a, k, rfl, rfl, h0, h1, hz, q⟩ := h
  obtain ⟨t, rfl⟩ := rx
  obtain ⟨t', rfl⟩ := ry
  have hk : a.length * k.toNat ≤ 1000 * 4096 := Nat.mul_le_mul hz (by omega)
  refine P.mul_str (by simp; omega) (fun h2 h3 => ?_) (fun h2 h3 => ?_) ?_
  · have hk' : (a.length : Int) * k ≤ 2 ^ 63 - 1 := by
      have : ((a.length * k.toNat : Nat) : Int) = (a.length : Int) * k := by
        rw [Int.natCast_mul, Int.toNat_of_nonneg h0]
      omega
    have := (Int.le_ediv_iff_mul_le (show 0 < k by omega)).mpr hk'
    omega
  · unfold tooLong
    have : sizeLine = 16777216 := rfl
    exact decide_eq_false (by omega)
  · have sl : sizeLine = 16777216 := rfl
    split
    · have : k = 0 := by omega
      subst this
      exact ⟨Nat.zero_le _, .str (repS a (Int.toNat 0)), H, I.tok _, ⟨_, rfl⟩, q⟩
    · split
      · rename_i h3
        have e : repS a k.toNat = a := by
          rw [Bool.or_eq_true, beq_iff_eq, beq_iff_eq] at h3
          rcases h3 with rfl | h3
          · show Str.mk _ = _
            simp
          · have : a.cps = #[] := Array.size_eq_zero_iff.mp h3
            have e2 : a = ⟨#[]⟩ := by rw [← this]
            rw [e2]
            show Str.mk _ = _
            simp
        rw [e] at q
        exact ⟨.str a, H, I, ⟨_, rfl⟩, q⟩
      · rw [repS_eq] at q
        refine ⟨?_, .str _, H, I.tok _, ⟨_, rfl⟩, q⟩
        rw [← repS_eq, repS_len, Nat.mul_comm]
        omega
end
def dMul : Op2
  | .int i, .int j => if fits64 i || fits64 j then some (.int (i * j), .new) else none
  | .lst xs, .int k => if -(2 ^ 63) ≤ k ∧ k < 2 ^ 63 ∧ xs.length * k.toNat ≤ sizeLine then some (.lst (List.replicate k.toNat xs).flatten, .new) else none
  | .str s, .int k => if 0 ≤ k ∧ k ≤ 4096 ∧ s.length ≤ 1000 then some (.str (repS s k.toNat), .new) else none
  | _, _ => none
theorem RepL.rep {C : RC} {ρ : List CellA} {A : Addr → Prop} {H : Hp} {vs : List V} {ds : List DV} (r : RepL C ρ A H vs ds) : ∀ n : Nat, RepL C ρ A H (List.replicate n vs).flatten (List.replicate n ds).flatten
  | 0 => .nil
  | n + 1 => by
    rw [List.replicate_succ, List.replicate_succ, List.flatten_cons, List.flatten_cons]
    exact r.append (RepL.rep r n)
theorem ops_mul {C : RC} : OpS C (fun x y H Q => (rI CMul (fun i j => .int (i * j)) x y H Q ∨ rRep x y H Q) ∨ rMulS x y H Q) dMul := by
  intro B hB σ ρ st H ka kb x y a b c Q rel rx ry e q
  cases a <;> try (cases e; done)
  · rename_i i
    cases b <;> try (cases e; done)
    rename_i j
    simp only [dMul] at e
    split at e
    · rename_i h
      cases e
      obtain rfl := rx.int
      obtain rfl := ry.int
      refine .inl (.inl ⟨i, j, rfl, rfl, ?_, ansF (d := .int (i * j)) rfl rel q⟩)
      rw [Bool.or_eq_true] at h
      exact h.imp fits64_of fits64_of
    · cases e
  · rename_i z
    cases b <;> try (cases e; done)
    rename_i k
    simp only [dMul] at e
    split at e
    · rename_i h
      cases e
      obtain rfl := rx.str
      obtain rfl := ry.int
      exact .inr ⟨z, k, rfl, rfl, h.1, h.2.1, h.2.2, ansF (d := .str (repS z k.toNat)) rfl rel q⟩
    · cases e
  · rename_i ds
    cases b <;> try (cases e; done)
    rename_i k
    simp only [dMul] at e
    split at e
    · rename_i h
      cases e
      obtain ⟨p, vs, rfl, e1, r1⟩ := rx.lst
      obtain rfl := ry.int
      refine .inl (.inr ⟨p, k, vs, rfl, rfl, e1, h.1, h.2.1, by rw [r1.length]; exact h.2.2, fun n hn => ?_⟩)
      exact q _ _ (Step.alloc rel hn) (RepK.newLst rel hn (r1.rep _)) fun m em => by cases em; exact hn
    · cases e
def dDiv : Op2 | .int i, .int j => if 0 < j ∧ j < 2 ^ 64 then some (.int (i / j), .new) else none | _, _ => none
theorem ops_div {C : RC} : OpS C (rI CDivW fun i j => .int (i / j)) dDiv := by
  intro B hB σ ρ st H ka kb x y a b c Q rel rx ry e q
  cases a <;> try (cases e; done)
  cases b <;> try (cases e; done)
  rename_i i j
  simp only [dDiv] at e
  split at e
  · rename_i h
    cases e
    obtain rfl := rx.int
    obtain rfl := ry.int
    refine ⟨i, j, rfl, rfl, ⟨h.1, ?_⟩, ansF (d := .int (i / j)) rfl rel q⟩
    have h0 : j.natAbs ≠ 0 := by omega
    have h1 : j.natAbs < 2 ^ 64 := by omega
    exact Nat.lt_trans ((Nat.log2_lt h0).mpr h1) (by decide)
  · cases e
def dMod : Op2 | .int i, .int j => if 0 < j then some (.int (i % j), .new) else none | _, _ => none
theorem ops_mod {C : RC} : OpS C (rI (fun _ j => 0 < j) fun i j => .int (i % j)) dMod := by
  intro B hB σ ρ st H ka kb x y a b c Q rel rx ry e q
  cases a <;> try (cases e; done)
  cases b <;> try (cases e; done)
  rename_i i j
  simp only [dMod] at e
  split at e
  · rename_i h
    cases e
    obtain rfl := rx.int
    obtain rfl := ry.int
    exact ⟨i, j, rfl, rfl, h, ansF (d := .int (i % j)) rfl rel q⟩
  · cases e
def powOk (i j : Int) : Bool := decide (0 ≤ j) && decide (j ≤ 1000000) && decide (i.natAbs < 2 ^ 64)
theorem powOk_of {i j : Int} (h : powOk i j = true) : CPow i j := by
  unfold powOk at h
  rw [Bool.and_eq_true, Bool.and_eq_true, decide_eq_true_iff, decide_eq_true_iff, decide_eq_true_iff] at h
  exact ⟨h.1.1, h.1.2, h.2⟩
def dPow : Op2 | .int i, .int j => if powOk i j then some (.int (i ^ j.toNat), .new) else none | _, _ => none
theorem ops_pow {C : RC} : OpS C (rI CPow fun i j => .int (i ^ j.toNat)) dPow := by
  intro B hB σ ρ st H ka kb x y a b c Q rel rx ry e q
  cases a <;> try (cases e; done)
  cases b <;> try (cases e; done)
  rename_i i j
  simp only [dPow] at e
  split at e
  · rename_i h
    cases e
    obtain rfl := rx.int
    obtain rfl := ry.int
    exact ⟨i, j, rfl, rfl, powOk_of h, ansF (d := .int (i ^ j.toNat)) rfl rel q⟩
  · cases e
def dShl : Op2 | .int i, .int j => if powOk i j then some (.int (i * 2 ^ j.toNat), .new) else none | _, _ => none
theorem ops_shl {C : RC} : OpS C (rI CPow fun i j => .int (i * 2 ^ j.toNat)) dShl := by
  intro B hB σ ρ st H ka kb x y a b c Q rel rx ry e q
  cases a <;> try (cases e; done)
  cases b <;> try (cases e; done)
  rename_i i j
  simp only [dShl] at e
  split at e
  · rename_i h
    cases e
    obtain rfl := rx.int
    obtain rfl := ry.int
    exact ⟨i, j, rfl, rfl, powOk_of h, ansF (d := .int (i * 2 ^ j.toNat)) rfl rel q⟩
  · cases e
def dShr : Op2 | .int i, .int j => if 0 ≤ j then some (.int (i / 2 ^ j.toNat), .new) else none | _, _ => none
theorem ops_shr {C : RC} : OpS C (rI (fun _ j => 0 ≤ j) fun i j => .int (i / 2 ^ j.toNat)) dShr := by
  intro B hB σ ρ st H ka kb x y a b c Q rel rx ry e q
  cases a <;> try (cases e; done)
  cases b <;> try (cases e; done)
  rename_i i j
  simp only [dShr] at e
  split at e
  · rename_i h
    cases e
    obtain rfl := rx.int
    obtain rfl := ry.int
    exact ⟨i, j, rfl, rfl, h, ansF (d := .int (i / 2 ^ j.toNat)) rfl rel q⟩
  · cases e
def dBit (g : Int → Int → Int) : Op2 | .int i, .int j => some (.int (g i j), .new) | _, _ => none
theorem ops_bit {C : RC} {g : Int → Int → Int} : OpS C (rI0 fun i j => .int (g i j)) (dBit g) := by
  intro B hB σ ρ st H ka kb x y a b c Q rel rx ry e q
  cases a <;> try (cases e; done)
  cases b <;> try (cases e; done)
  rename_i i j
  cases e
  obtain rfl := rx.int
  obtain rfl := ry.int
  exact ⟨i, j, rfl, rfl, ansF (d := .int (g i j)) rfl rel q⟩
abbrev dAnd := dBit Builtin.bitAnd
abbrev dOr := dBit Builtin.bitOr
abbrev dXor := dBit Builtin.bitXor
def dBin : Operator → Op2
  | .Add => dAdd | .Sub => dSub | .Mult => dMul | .FloorDiv => dDiv | .Mod => dMod | .Pow => dPow | .LShift => dShl | .RShift => dShr
  | .BitAnd => dAnd | .BitOr => dOr | .BitXor => dXor | _ => fun _ _ => none
theorem op_bin {X : Cx} {B : BC} (hC : B.C.K = X.K) : ∀ op : Operator, ∃ r, OpR X (binaryOp op) r ∧ OpS B.C r (dBin op)
  | .Add => ⟨rAddAll X.K, opr_add, by rw [← hC]; exact ops_add⟩
  | .Sub => ⟨_, op_sub, ops_sub⟩
  | .Mult => ⟨_, OpR.or (OpR.or op_mul op_rep) op_mulS, ops_mul⟩
  | .FloorDiv => ⟨_, op_fdivW, ops_div⟩
  | .Mod => ⟨_, op_mod, ops_mod⟩
  | .Pow => ⟨_, op_pow, ops_pow⟩
  | .LShift => ⟨_, op_shl, ops_shl⟩
  | .RShift => ⟨_, op_shr, ops_shr⟩
  | .BitAnd => ⟨_, op_and, ops_bit⟩
  | .BitOr => ⟨_, op_or, ops_bit⟩
  | .BitXor => ⟨_, op_xor, ops_bit⟩
  | .MatMult => ⟨fun _ _ _ _ => False, fun _ _ _ _ _ _ _ _ _ _ _ _ h => h.elim, fun _ _ _ _ _ _ _ _ _ _ _ _ _ _ _ _ _ e _ => nomatch e⟩
  | .Div => ⟨fun _ _ _ _ => False, fun _ _ _ _ _ _ _ _ _ _ _ _ h => h.elim, fun _ _ _ _ _ _ _ _ _ _ _ _ _ _ _ _ _ e _ => nomatch e⟩

/-! ### == != -/
def dEqv (a b : DV) : Option Bool := match toP a, toP b with
  | some p, some q => if SeqAt.shaped p && SeqAt.shaped q then some (PyData.eqv p q) else none
  | _, _ => none
def eqD : DV → DV → Option Bool
  | .int i, .int j => some (decide (i = j))
  | .str x, .str y => some (decide (x = y))
  | .bl x, .bl y => some (decide (x = y))
  | .non, .non => some true
  | .non, .int _ => some false
  | .int _, .non => some false
  | .non, .str _ => some false
  | .str _, .non => some false
  | a, b => dEqv a b
def dEq : Op2 := fun a b => (eqD a b).map fun k => (.bl k, .new)
def dNe : Op2 := fun a b => (eqD a b).map fun k => (.bl (!k), .new)
theorem eqD_cases {a b : DV} {k : Bool} (h : eqD a b = some k) : (flat a = true ∧ flat b = true ∧ scal (flatV' a) (flatV' b) = true ∧ decide (flatV' a = flatV' b) = k) ∨ dEqv a b = some k := by
  unfold eqD at h
  split at h
  all_goals first
    | exact .inr h
    | (refine .inl ⟨rfl, rfl, rfl, ?_⟩; cases h; first | rfl | (rw [decide_eq_decide]; exact ⟨fun e => by injection e, fun e => by rw [e]⟩) | (exact decide_eq_false fun z => nomatch z) | exact decide_eq_true rfl)
theorem dEqv_of {B : BC} {σ : L2.St} {ρ : List CellA} {st : DS} {H : Hp} {ka kb : Kd} {x y : V} {a b : DV} {k : Bool} (h : dEqv a b = some k) (rx : RepK B ρ st σ H ka x a) (ry : RepK B ρ st σ H kb y b) :
    ∃ d e, Dp B.C.K H x d ∧ Dp B.C.K H y e ∧ SeqAt.shaped d = true ∧ SeqAt.shaped e = true ∧ PyData.eqv d e = k := by
  unfold dEqv at h
  split at h
  · rename_i p q h1 h2
    split at h
    · rename_i hs
      rw [Bool.and_eq_true] at hs
      cases h
      exact ⟨p, q, rx.dp h1, ry.dp h2, hs.1, hs.2, rfl⟩
    · cases h
  · cases h
theorem ops_eq {C : RC} : OpS C (fun x y H Q => rEq x y H Q ∨ rEqD C.K x y H Q) dEq := by
  intro B hB σ ρ st H ka kb x y a b c Q rel rx ry e q
  subst hB
  unfold dEq at e
  cases h : eqD a b with
  | none => rw [h] at e; cases e
  | some k =>
    rw [h] at e
    cases e
    rcases eqD_cases h with ⟨f1, f2, s, e⟩ | h
    · obtain rfl := rx.flat f1
      obtain rfl := ry.flat f2
      exact .inl ⟨s, by rw [e]; exact ansF (d := .bl k) rfl rel q⟩
    · obtain ⟨d, e, h1, h2, h3, h4, h5⟩ := dEqv_of h rx ry
      exact .inr ⟨d, e, h1, h2, h3, h4, by rw [h5]; exact ansF (d := .bl k) rfl rel q⟩
theorem ops_ne {C : RC} : OpS C (fun x y H Q => rNe x y H Q ∨ rNeD C.K x y H Q) dNe := by
  intro B hB σ ρ st H ka kb x y a b c Q rel rx ry e q
  subst hB
  unfold dNe at e
  cases h : eqD a b with
  | none => rw [h] at e; cases e
  | some k =>
    rw [h] at e
    cases e
    rcases eqD_cases h with ⟨f1, f2, s, e⟩ | h
    · obtain rfl := rx.flat f1
      obtain rfl := ry.flat f2
      exact .inl ⟨s, by rw [e]; exact ansF (d := .bl (!k)) rfl rel q⟩
    · obtain ⟨d, e, h1, h2, h3, h4, h5⟩ := dEqv_of h rx ry
      exact .inr ⟨d, e, h1, h2, h3, h4, by rw [h5]; exact ansF (d := .bl (!k)) rfl rel q⟩

/-! ### < <= > >= -/
def dLt : Op2 | .int i, .int j => some (.bl (decide (i < j)), .new) | _, _ => none
def dLe : Op2 | .int i, .int j => some (.bl (decide (i ≤ j)), .new) | _, _ => none
def dGt : Op2 | .int i, .int j => some (.bl (decide (j < i)), .new) | _, _ => none
def dGe : Op2 | .int i, .int j => some (.bl (decide (j ≤ i)), .new) | _, _ => none
theorem ops_rel {C : RC} {g : Int → Int → Bool} {f : Op2} (hf : ∀ a b c, f a b = some c → ∃ i j, a = .int i ∧ b = .int j ∧ c = (.bl (g i j), .new)) : OpS C (rI0 fun i j => .bl (g i j)) f := by
  intro B hB σ ρ st H ka kb x y a b c Q rel rx ry e q
  obtain ⟨i, j, rfl, rfl, rfl⟩ := hf a b c e
  obtain rfl := rx.int
  obtain rfl := ry.int
  exact ⟨i, j, rfl, rfl, ansF (d := .bl (g i j)) rfl rel q⟩
theorem ints_inv {f : Int → Int → DV × Kd} {a b : DV} {c : DV × Kd} (e : (match a, b with | .int i, .int j => some (f i j) | _, _ => none) = some c) : ∃ i j, a = .int i ∧ b = .int j ∧ c = f i j := by
  split at e
  · cases e
    exact ⟨_, _, rfl, rfl, rfl⟩
  · cases e
theorem ops_lt {C : RC} : OpS C (rI0 fun i j => .bl (decide (i < j))) dLt := ops_rel fun _ _ _ e => ints_inv (f := fun i j => (.bl (decide (i < j)), .new)) e
theorem ops_le {C : RC} : OpS C (rI0 fun i j => .bl (decide (i ≤ j))) dLe := ops_rel fun _ _ _ e => ints_inv (f := fun i j => (.bl (decide (i ≤ j)), .new)) e
theorem ops_gt {C : RC} : OpS C (rI0 fun i j => .bl (decide (j < i))) dGt := ops_rel fun _ _ _ e => ints_inv (f := fun i j => (.bl (decide (j < i)), .new)) e
theorem ops_ge {C : RC} : OpS C (rI0 fun i j => .bl (decide (j ≤ i))) dGe := ops_rel fun _ _ _ e => ints_inv (f := fun i j => (.bl (decide (j ≤ i)), .new)) e

/-! ### is, is not (None, bools) -/
def isD : DV → DV → Option Bool
  | .non, .non => some true
  | _, .non => some false
  | .bl a, .bl b => some (decide (a = b))
  | _, _ => none
def dIs : Op2 := fun a b => (isD a b).map fun k => (.bl k, .new)
def dIsNot : Op2 := fun a b => (isD a b).map fun k => (.bl (!k), .new)
theorem RepK.non_iff {B : BC} {σ : L2.St} {ρ : List CellA} {st : DS} {H : Hp} {kd : Kd} {v : V} {d : DV} (r : RepK B ρ st σ H kd v d) (h : d ≠ .non) : v ≠ .non := by
  intro e
  subst e
  cases kd with
  | view i => obtain ⟨p, e, _⟩ := r; cases e
  | fro => cases (show Rep _ _ _ _ _ _ from r); exact h rfl
  | new => cases (show Rep _ _ _ _ _ _ from r.1); exact h rfl
theorem isD_cases {a b : DV} {k : Bool} (h : isD a b = some k) : (b = .non ∧ ((a = .non ∧ k = true) ∨ (a ≠ .non ∧ k = false))) ∨ ∃ x y, a = .bl x ∧ b = .bl y ∧ k = decide (x = y) := by
  unfold isD at h
  split at h
  · cases h
    exact .inl ⟨rfl, .inl ⟨rfl, rfl⟩⟩
  · rename_i h1
    cases h
    exact .inl ⟨rfl, .inr ⟨h1, rfl⟩⟩
  · cases h
    exact .inr ⟨_, _, rfl, rfl, rfl⟩
  · cases h
theorem ops_is {C : RC} : OpS C (fun x y H Q => (y = .non ∧ Q (.bl (decide (x = .non))) H) ∨ rIsB x y H Q) dIs := by
  intro B hB σ ρ st H ka kb x y a b c Q rel rx ry e q
  unfold dIs at e
  cases h : isD a b with
  | none => rw [h] at e; cases e
  | some k =>
    rw [h] at e
    cases e
    have hc := isD_cases h
    clear h
    rcases hc with ⟨rfl, h⟩ | ⟨i, j, rfl, rfl, rfl⟩
    · obtain rfl := ry.non
      refine .inl ⟨rfl, ?_⟩
      rcases h with ⟨rfl, rfl⟩ | ⟨h, rfl⟩
      · obtain rfl := rx.non
        rw [decide_eq_true rfl]
        exact ansF (d := .bl true) rfl rel q
      · rw [decide_eq_false (rx.non_iff h)]
        exact ansF (d := .bl false) rfl rel q
    · obtain rfl := rx.bl
      obtain rfl := ry.bl
      exact .inr ⟨i, j, rfl, rfl, ansF (d := .bl (decide (i = j))) rfl rel q⟩
theorem ops_isNot {C : RC} : OpS C (fun x y H Q => (y = .non ∧ Q (.bl (!decide (x = .non))) H) ∨ rNotB x y H Q) dIsNot := by
  intro B hB σ ρ st H ka kb x y a b c Q rel rx ry e q
  unfold dIsNot at e
  cases h : isD a b with
  | none => rw [h] at e; cases e
  | some k =>
    rw [h] at e
    cases e
    have hc := isD_cases h
    clear h
    rcases hc with ⟨rfl, h⟩ | ⟨i, j, rfl, rfl, rfl⟩
    · obtain rfl := ry.non
      refine .inl ⟨rfl, ?_⟩
      rcases h with ⟨rfl, rfl⟩ | ⟨h, rfl⟩
      · obtain rfl := rx.non
        rw [decide_eq_true rfl]
        exact ansF (d := .bl false) rfl rel q
      · rw [decide_eq_false (rx.non_iff h)]
        exact ansF (d := .bl true) rfl rel q
    · obtain rfl := rx.bl
      obtain rfl := ry.bl
      exact .inr ⟨i, j, rfl, rfl, ansF (d := .bl (!decide (i = j))) rfl rel q⟩

/-! ### in, not in -/
def flat4 : DV → Bool
  | .non => true | .bl _ => true | .int _ => true | .str _ => true | _ => false
theorem flat_of4 {d : DV} (h : flat4 d = true) : flat d = true := by cases d <;> first | rfl | cases h
theorem flatV_of4 {d : DV} (h : flat4 d = true) : flatV (flatV' d) = true := by cases d <;> first | rfl | cases h
/-- == of flat values -/
def eqF : DV → DV → Bool
  | .non, .non => true
  | .bl a, .bl b => a == b
  | .bl a, .int b => (if a then 1 else 0) == b
  | .int a, .bl b => a == (if b then 1 else 0)
  | .int a, .int b => a == b
  | .str a, .str b => a == b
  | _, _ => false
theorem eqF_V {a b : DV} (ha : flat4 a = true) (hb : flat4 b = true) : eqV (flatV' a) (flatV' b) = eqF a b := by
  cases a <;> cases b <;> first | rfl | (cases ha; done) | (cases hb; done)
theorem RepL.flat {C : RC} {ρ : List CellA} {A : Addr → Prop} {H : Hp} : ∀ {vs : List V} {ds : List DV}, RepL C ρ A H vs ds → ds.all flat4 = true → vs = ds.map flatV'
  | _, _, .nil, _ => rfl
  | _, _, .cons r t, h => by
    rw [List.all_cons, Bool.and_eq_true] at h
    rw [List.map_cons, Rep.flat_eq (flat_of4 h.1) r, RepL.flat t h.2]
theorem all_flatV : ∀ {ds : List DV}, ds.all flat4 = true → (ds.map flatV').all flatV = true
  | [], _ => rfl
  | d :: ds, h => by
    rw [List.all_cons, Bool.and_eq_true] at h
    rw [List.map_cons, List.all_cons, flatV_of4 h.1, all_flatV h.2]
    rfl
theorem inV_F {a : DV} (ha : flat4 a = true) : ∀ {ds : List DV}, ds.all flat4 = true → inV (flatV' a) (ds.map flatV') = ds.any fun d => eqF d a
  | [], _ => rfl
  | d :: ds, h => by
    rw [List.all_cons, Bool.and_eq_true] at h
    have ih := inV_F ha h.2
    unfold inV at ih ⊢
    rw [List.map_cons, List.any_cons, List.any_cons, ih, eqF_V h.1 ha]
def keyD : DV → Option Key
  | .int i => some (.inl i)
  | .str s => some (.inr s)
  | _ => none
theorem keyD_V {d : DV} {k : Key} (h : keyD d = some k) : flat d = true ∧ flatV' d = kV k := by
  cases d <;> first | (cases h; done) | (cases h; exact ⟨rfl, rfl⟩)
def inD : DV → DV → Option Bool
  | .str i, .str j => some (!(Builtin.Str.occurrences j i 0 j.length 1).isEmpty)
  | a, .lst ds => if flat4 a && ds.all flat4 then some (ds.any fun d => eqF d a) else
      match toP a, toPs ds with
      | some p, some ps => if SeqAt.shaped p && SeqAt.shaped (.list ps) then some (ps.any fun z => PyData.eqv z p) else none
      | _, _ => none
  | a, .tup ds => if flat4 a && ds.all flat4 then some (ds.any fun d => eqF d a) else none
  | a, .dct ks _ => (keyD a).map fun k => ks.any fun j => decide (j = k)
  | _, _ => none
def dIn : Op2 := fun a b => (inD a b).map fun k => (.bl k, .new)
def dNotIn : Op2 := fun a b => (inD a b).map fun k => (.bl (!k), .new)
/-- y in d, d a dict -/
def rInDct (neg : Bool) : R2 := fun y x H Q => ∃ a o, x = .ref a ∧ DGet H a y o ∧ Q (.bl (if neg then !o.isSome else o.isSome)) H
theorem op_inDct {X : Cx} (hu : X.A.units + 1 < cLine) : OpR X (compareOp .In) (rInDct false) := by
  intro pins s σ H y x u v Q I ry rx h
  obtain ⟨a, o, rfl, g, q⟩ := h
  cases rx
  exact d_in hu I g ry fun s' I' => ⟨.bl _, H, I', rfl, q⟩
theorem op_notInDct {X : Cx} (hu : X.A.units + 1 < cLine) : OpR X (compareOp .NotIn) (rInDct true) := by
  intro pins s σ H y x u v Q I ry rx h
  obtain ⟨a, o, rfl, g, q⟩ := h
  cases rx
  exact d_notIn hu I g ry fun s' I' => ⟨.bl _, H, I', rfl, q⟩
theorem valV_zip (k : Key) : ∀ (ks : List Key) (xs : List V), ks.length = xs.length → (valV (ks.zip xs) k).isSome = ks.any fun j => decide (j = k) := by
  intro ks xs hl
  rw [← valV_any]
  induction ks generalizing xs with
  | nil => rfl
  | cons j ks ih =>
    cases xs with
    | nil => cases hl
    | cons x xs =>
      rw [List.zip_cons_cons, List.any_cons, List.any_cons, ih xs (by simpa using hl)]
def rInStr (neg : Bool) : R2 := fun x y H Q => ∃ i j, x = .str i ∧ y = .str j ∧ Q (.bl (if neg then !(!(Builtin.Str.occurrences j i 0 j.length 1).isEmpty) else !(Builtin.Str.occurrences j i 0 j.length 1).isEmpty)) H
def rInDD (K : PySem.W.Frag) (neg : Bool) : R2 := fun x y H Q => ∃ d ds, Dp K H x d ∧ Dp K H y (.list ds) ∧ SeqAt.shaped d = true ∧ SeqAt.shaped (.list ds) = true ∧ Q (.bl (if neg then !(ds.any fun z => PyData.eqv z d) else ds.any fun z => PyData.eqv z d)) H
def rInAll (K : PySem.W.Frag) (neg : Bool) : R2 := fun x y H Q => rInStr neg x y H Q ∨ (rIn K neg x y H Q ∨ (rInDD K neg x y H Q ∨ rInDct neg x y H Q))
theorem opr_in {X : Cx} (hu : X.A.units + 65 < cLine) : OpR X (compareOp .In) (rInAll X.K false) :=
  OpR.or op_in_str (OpR.or op_in_seq (OpR.or (op_inD hu) (op_inDct (by omega))))
theorem opr_notIn {X : Cx} (hu : X.A.units + 65 < cLine) : OpR X (compareOp .NotIn) (rInAll X.K true) :=
  OpR.or op_notin_str (OpR.or op_notIn_seq (OpR.or (op_notInD hu) (op_notInDct (by omega))))
theorem in_all {B : BC} {σ : L2.St} {ρ : List CellA} {st : DS} {H : Hp} {ka kb : Kd} {x y : V} {a b : DV} {k : Bool} {Q : VK} (neg : Bool) (rx : RepK B ρ st σ H ka x a) (ry : RepK B ρ st σ H kb y b) (h : inD a b = some k)
    (q : Q (.bl (if neg then !k else k)) H) : rInAll B.C.K neg x y H Q := by
  cases b with
  | str j =>
    cases a <;> try (cases h; done)
    rename_i i
    cases h
    obtain rfl := rx.str
    obtain rfl := ry.str
    exact .inl ⟨i, j, rfl, rfl, q⟩
  | lst ds =>
    simp only [inD] at h
    split at h
    · rename_i hf
      cases h
      rw [Bool.and_eq_true] at hf
      obtain rfl := rx.flat (flat_of4 hf.1)
      obtain ⟨p, vs, rfl, e1, r1⟩ := ry.lst
      have ev := r1.flat hf.2
      subst ev
      exact .inr (.inl ⟨p, _, rfl, .inl (.inl (.inl e1)), flatV_of4 hf.1, all_flatV hf.2, by rw [inV_F hf.1 hf.2]; exact q⟩)
    · split at h
      · rename_i p ps h1 h2
        split at h
        · rename_i hs
          cases h
          rw [Bool.and_eq_true] at hs
          refine .inr (.inr (.inl ⟨p, ps, rx.dp h1, ry.dp (by simp [toP, h2]), hs.1, hs.2, q⟩))
        · cases h
      · cases h
  | tup ds =>
    simp only [inD] at h
    split at h
    · rename_i hf
      cases h
      rw [Bool.and_eq_true] at hf
      obtain rfl := rx.flat (flat_of4 hf.1)
      obtain ⟨p, vs, rfl, e1, r1⟩ := ry.tup
      have ev := r1.flat hf.2
      subst ev
      exact .inr (.inl ⟨p, _, rfl, .inr e1, flatV_of4 hf.1, all_flatV hf.2, by rw [inV_F hf.1 hf.2]; exact q⟩)
    · cases h
  | dct ks ds =>
    have h' : (keyD a).map (fun k => ks.any fun j => decide (j = k)) = some k := by cases a <;> exact h
    cases hk : keyD a with
    | none => rw [hk] at h'; cases h'
    | some key =>
      rw [hk] at h'
      cases h'
      obtain ⟨f, e⟩ := keyD_V hk
      obtain rfl := rx.flat f
      obtain ⟨p, xs, rfl, e1, hl, r1⟩ := ry.dct
      refine .inr (.inr (.inr ⟨p, valV (ks.zip xs) key, rfl, ?_, ?_⟩))
      · rw [e]
        exact DGet.k e1
      · rw [valV_zip key ks xs hl]
        exact q
  | _ =>
    unfold inD at h
    split at h
    all_goals first
      | (rename_i z; cases z; done)
      | (cases h; done)
theorem ops_in {C : RC} : OpS C (rInAll C.K false) dIn := by
  intro B hB σ ρ st H ka kb x y a b c Q rel rx ry e q
  subst hB
  unfold dIn at e
  cases h : inD a b with
  | none => rw [h] at e; cases e
  | some k =>
    rw [h] at e
    cases e
    exact in_all false rx ry h (ansF (d := .bl k) rfl rel q)
theorem ops_notIn {C : RC} : OpS C (rInAll C.K true) dNotIn := by
  intro B hB σ ρ st H ka kb x y a b c Q rel rx ry e q
  subst hB
  unfold dNotIn at e
  cases h : inD a b with
  | none => rw [h] at e; cases e
  | some k =>
    rw [h] at e
    cases e
    exact in_all true rx ry h (ansF (d := .bl (!k)) rfl rel q)
def dCmp : CmpOp → Op2
  | .Eq => dEq | .NotEq => dNe | .Lt => dLt | .LtE => dLe | .Gt => dGt | .GtE => dGe | .Is => dIs | .IsNot => dIsNot | .In => dIn | .NotIn => dNotIn
theorem op_cmp {X : Cx} {B : BC} (hC : B.C.K = X.K) (hu : X.A.units + 65 < cLine) : ∀ op : CmpOp, ∃ r, OpR X (compareOp op) r ∧ OpS B.C r (dCmp op)
  | .Eq => ⟨_, OpR.or op_eq (op_eqD (by omega)), by rw [← hC]; exact ops_eq⟩
  | .NotEq => ⟨_, OpR.or op_ne (op_neD (by omega)), by rw [← hC]; exact ops_ne⟩
  | .Lt => ⟨_, op_lt, ops_lt⟩
  | .LtE => ⟨_, op_le, ops_le⟩
  | .Gt => ⟨_, op_gt, ops_gt⟩
  | .GtE => ⟨_, op_ge, ops_ge⟩
  | .Is => ⟨_, OpR.or op_isN op_isBl, ops_is⟩
  | .IsNot => ⟨_, OpR.or op_notN op_notBl, ops_isNot⟩
  | .In => ⟨_, opr_in hu, by rw [← hC]; exact ops_in⟩
  | .NotIn => ⟨_, opr_notIn hu, by rw [← hC]; exact ops_notIn⟩
end D

/-! D: truth, tests, and | or | not, chains, conditional expressions, displays. -/
namespace D
open PySem L2 PyProof.Rows

/-! ### truth -/
def truD : DV → Option Bool
  | .non => some false
  | .bl b => some b
  | .int i => some (i != 0)
  | .str s => if s.length ≤ sizeLine then some ((s.length : Int) != 0) else none
  | .lst ds => some (!ds.isEmpty)
  | .tup ds => some (!ds.isEmpty)
  | .dct ks _ => some (!ks.isEmpty)
  | _ => none
theorem RepL.isEmpty {C : RC} {ρ : List CellA} {A : Addr → Prop} {H : Hp} {vs : List V} {ds : List DV} (r : RepL C ρ A H vs ds) : vs.isEmpty = ds.isEmpty := by cases r <;> rfl
theorem truD_of {B : BC} {σ : L2.St} {ρ : List CellA} {st : DS} {H : Hp} {kd : Kd} {x : V} {a : DV} {k : Bool} (rx : RepK B ρ st σ H kd x a) (h : truD a = some k) : TruV B.C.K x H k := by
  cases a <;> try (cases h; done)
  · obtain rfl := rx.non; cases h; rfl
  · obtain rfl := rx.bl; cases h; rfl
  · obtain rfl := rx.int; cases h; rfl
  · obtain rfl := rx.str
    simp only [truD] at h
    split at h
    · rename_i hs; cases h; exact ⟨hs, rfl⟩
    · cases h
  · obtain ⟨p, xs, rfl, e, r⟩ := rx.lst
    cases h
    exact .inl ⟨xs, .inl (.inl e), by rw [r.isEmpty]⟩
  · obtain ⟨p, xs, rfl, e, r⟩ := rx.tup
    cases h
    exact .inr (.inl ⟨xs, e, by rw [r.isEmpty]⟩)
  · obtain ⟨p, xs, rfl, e, l, r⟩ := rx.dct
    cases h
    refine .inr (.inr ⟨_, e, ?_⟩)
    rename_i ks vs
    cases ks with
    | nil => rfl
    | cons k ks =>
      cases xs with
      | nil => cases l
      | cons x xs => rfl
abbrev Tv := DS → Out Bool
def GT (σ : L2.St) (Q : Bool → Hp → Prop) : Bool → DS → List CellA → Hp → Prop := fun b _ _ H' => Q b H'
def RT (B : BC) (W : WX) (f : Tv) : TT := fun σ H Q => ∃ ρ st, Rel B ρ st σ H ∧ Res B W σ ρ st H (f st) (GT σ Q)
def PTD (X : Cx) (B : BC) (W : WX) (e : Expr) (f : Tv) : Prop := PT X e (RT B W f)
theorem RT.go {B : BC} {W : WX} {f : Tv} {σ : L2.St} {ρ : List CellA} {st : DS} {H : Hp} {G : Bool → DS → List CellA → Hp → Prop} {Q : Bool → Hp → Prop} (rel : Rel B ρ st σ H) (r : Res B W σ ρ st H (f st) G)
    (h : ∀ b st' ρ' H', Step B σ ρ st H ρ' st' H' → G b st' ρ' H' → Q b H') : RT B W f σ H Q := ⟨ρ, st, rel, r.imp h⟩
def tvE (f : Ev) : Tv := fun st => (f st).bind fun a st1 => match truD a.1 with
  | some k => .ok k st1
  | none => .stuck
def tvB (f : Ev) : Tv := fun st => (f st).bind fun a st1 => match a.1 with
  | .bl k => .ok k st1
  | _ => .stuck
section
variable {X : Cx} {B : BC} {W : WX} {a b c e : Expr} {rest : List Expr} {fa fb fc f : Ev} {ta tb : Tv} {pos : Pos} {r r' : R2} {g g' : Op2}
theorem ptd_truth (hC : B.C.K = X.K) (h : PD X B W e f) (he : ∀ whole, isTrue e X.env whole = (do let v ← whole; standAt e.pos; holding [v] (truthy v))) : PTD X B W e (tvE f) := by
  refine PT.mono (pt_truth h he) fun σ H Q ⟨ρ, st, rel, res⟩ => ?_
  refine RD.go rel (Res.bind res) fun a st1 ρ1 H1 s1 r1 x rx fx => ?_
  cases e : truD a.1 with
  | none => rw [e] at r1; exact r1.elim
  | some k =>
    rw [e] at r1
    exact ⟨k, by rw [← hC]; exact truD_of rx e, Res.now s1.rel r1⟩
/-- a reading that gives a bool, as a test -/
theorem ptd_of {t : TE} (h : PT X e (tTest t)) (ht : ∀ σ H Q, RD B W f σ H Q → t σ H Q) : PTD X B W e (tvB f) := by
  refine PT.mono h fun σ H Q ⟨ρ, st, rel, res⟩ => ?_
  refine ht σ H _ ?_
  refine RD.go rel (Res.bind res) fun a st1 ρ1 H1 s1 r1 x rx fx => ?_
  obtain ⟨d, kd⟩ := a
  cases d <;> try exact r1.elim
  obtain rfl := rx.bl
  exact ⟨_, rfl, Res.now s1.rel r1⟩
theorem ptd_cmp {op : CmpOp} (ho : OpR X (compareOp op) r) (hs : OpS B.C r g) (ha : PD X B W a fa) (hb : PD X B W b fb) (hm : behindInMarks op b = false) : PTD X B W (.Compare a [op] [b] pos) (tvB (evOp g fa fb)) :=
  ptd_of (pt_cmpR ho ha hb hm) fun _ _ _ h => tOp_of hs h
/-- a op b op' c -/
def evChain (g g' : Op2) (ea eb ec : Ev) : Ev := fun st => (ea st).bind fun a st1 => (eb st1).bind fun b st2 => match g a.1 b.1 with
  | some (.bl true, _) => (ec st2).bind fun c st3 => (match g' b.1 c.1 with
    | some r => .ok r st3
    | none => .stuck)
  | some (.bl false, _) => .ok (.bl false, .new) st2
  | _ => .stuck
theorem tChain_of (hs : OpS B.C r g) (hs' : OpS B.C r' g') {σ : L2.St} {H : Hp} {Q : VK} (h : RD B W (evChain g g' fa fb fc) σ H Q) : tChain r r' (RD B W fa) (RD B W fb) (RD B W fc) σ H Q := by
  obtain ⟨ρ, st, rel, res⟩ := h
  refine RD.go rel (Res.bind res) fun a st1 ρ1 H1 s1 r1 x rx fx => ?_
  refine RD.go s1.rel (Res.bind r1) fun b st2 ρ2 H2 s2 r2 y ry fy => ?_
  split at r2
  · rename_i kd e
    refine hs B rfl σ ρ2 st2 H2 a.2 b.2 x y a.1 b.1 _ _ s2.rel (RepK.step s2 rx) ry e fun v H3 s3 rv fv => ?_
    have ev : v = .bl true := RepK.bl rv
    refine ⟨true, ev, ?_⟩
    rw [if_pos rfl]
    have r3 := (show Res B W σ ρ2 st2 H2 ((fc st2).bind _) _ from r2)
    -- from the heap behind the comparison
    have r3' : Res B W σ ρ2 st2 H3 ((fc st2).bind fun c st3 => match g' b.1 c.1 with | some r => Out.ok r st3 | none => Out.stuck) (GE B σ H Q) := by
      revert r3
      cases ((fc st2).bind fun c st3 => match g' b.1 c.1 with | some r => Out.ok r st3 | none => Out.stuck) with
      | ok a st' => exact fun r3 ρ' H' s => r3 ρ' H' (s3.trans s)
      | exc x st' => exact fun r3 ρ' H' cls d s => r3 ρ' H' cls d (s3.trans s)
      | stuck => exact id
    refine RD.go s3.rel (Res.bind r3') fun c st4 ρ4 H4 s4 r4 z rz fz => ?_
    cases e4 : g' b.1 c.1 with
    | none => rw [e4] at r4; exact r4.elim
    | some u =>
      rw [e4] at r4
      exact hs' B rfl σ ρ4 st4 H4 b.2 c.2 y z b.1 c.1 u Q s4.rel (RepK.step s4 (RepK.step s3 ry)) rz e4 fun v H' s5 rv fv =>
        r4 _ _ s5 v rv ((((fv.dm s4.dm).dm s3.dm).dm s2.dm).dm s1.dm)
  · rename_i kd e
    refine hs B rfl σ ρ2 st2 H2 a.2 b.2 x y a.1 b.1 _ _ s2.rel (RepK.step s2 rx) ry e fun v H3 s3 rv fv => ?_
    have ev : v = .bl false := RepK.bl rv
    refine ⟨false, ev, ?_⟩
    rw [if_neg Bool.false_ne_true]
    exact r2 _ _ s3 _ (RepK.mkF (d := .bl false) rfl) (fresh_flat (d := .bl false) rfl)
  · exact r2.elim
theorem pd_chain {op op' : CmpOp} (ho : OpR X (compareOp op) r) (ho' : OpR X (compareOp op') r') (hs : OpS B.C r g) (hs' : OpS B.C r' g') (ha : PD X B W a fa) (hb : PD X B W b fb) (hc : PD X B W c fc) (hm : lastMarks [op, op'] [b, c] = false) :
    PD X B W (.Compare a [op, op'] [b, c] pos) (evChain g g' fa fb fc) := PE.mono (pe_chain ho ho' ha hb hc hm) fun _ _ _ h => tChain_of hs hs' h
/-! ### tests: and, or, not -/
def tvAnd (ta tb : Tv) : Tv := fun st => (ta st).bind fun k st1 => if k = true then tb st1 else .ok false st1
def tvOr (ta tb : Tv) : Tv := fun st => (ta st).bind fun k st1 => if k = true then .ok true st1 else tb st1
def tvNot (ta : Tv) : Tv := fun st => (ta st).bind fun k st1 => .ok (!k) st1
def PWD (X : Cx) (B : BC) (W : WX) (e : Expr) (f : Tv) : Prop := PW X e (RT B W f)
theorem PW.mono {t t' : TT} (h : PW X e t) (m : ∀ σ H Q, t' σ H Q → t σ H Q) : PW X e t' := ⟨fun whole pins s σ H Q I r => h.run whole pins s σ H Q I (m _ _ _ r)⟩
theorem pwd_and1 (ha : PTD X B W a ta) : PWD X B W (.BoolOp .And [a] pos) ta := pw_and1 ha
theorem pwd_or1 (ha : PTD X B W a ta) : PWD X B W (.BoolOp .Or [a] pos) ta := pw_or1 ha
theorem pwd_and (ha : PTD X B W a ta) (hb : PWD X B W (.BoolOp .And (b :: rest) pos) tb) : PWD X B W (.BoolOp .And (a :: b :: rest) pos) (tvAnd ta tb) := by
  refine PW.mono (pw_and ha hb) fun σ H Q ⟨ρ, st, rel, res⟩ => ?_
  refine RT.go rel (Res.bind res) fun k st1 ρ1 H1 s1 r1 => ?_
  cases k with
  | true => exact ⟨ρ1, st1, s1.rel, r1⟩
  | false => exact Res.now s1.rel r1
theorem pwd_or (ha : PTD X B W a ta) (hb : PWD X B W (.BoolOp .Or (b :: rest) pos) tb) : PWD X B W (.BoolOp .Or (a :: b :: rest) pos) (tvOr ta tb) := by
  refine PW.mono (pw_or ha hb) fun σ H Q ⟨ρ, st, rel, res⟩ => ?_
  refine RT.go rel (Res.bind res) fun k st1 ρ1 H1 s1 r1 => ?_
  cases k with
  | false => exact ⟨ρ1, st1, s1.rel, r1⟩
  | true => exact Res.now s1.rel r1
theorem PWD.pt (h : PWD X B W e ta) : PTD X B W e ta := L2.PW.pt h
theorem ptd_not (ha : PTD X B W a ta) : PTD X B W (.UnaryOp .Not a pos) (tvNot ta) := by
  refine PT.mono (pt_not ha) fun σ H Q ⟨ρ, st, rel, res⟩ => ?_
  exact RT.go rel (Res.bind res) fun k st1 ρ1 H1 s1 r1 => Res.now s1.rel r1

/-! ### the same as values -/
def evAnd (fa fb : Ev) : Ev := fun st => (fa st).bind fun a st1 => match truD a.1 with
  | some true => fb st1
  | some false => .ok a st1
  | none => .stuck
def evOr (fa fb : Ev) : Ev := fun st => (fa st).bind fun a st1 => match truD a.1 with
  | some true => .ok a st1
  | some false => fb st1
  | none => .stuck
def evNot (fa : Ev) : Ev := fun st => (fa st).bind fun a st1 => match truD a.1 with
  | some k => .ok (.bl (!k), .new) st1
  | none => .stuck
theorem GE.dm {σ : L2.St} {H H1 : Hp} {Q : VK} (dm : ∀ a, H a ≠ none → H1 a ≠ none) : ∀ a st ρ H', GE B σ H Q a st ρ H' → GE B σ H1 Q a st ρ H' := fun a st ρ H' q v r f => q v r (f.dm dm)
theorem pd_and (hC : B.C.K = X.K) (ha : PD X B W a fa) (hb : PD X B W (.BoolOp .And (b :: rest) pos) fb) : PD X B W (.BoolOp .And (a :: b :: rest) pos) (evAnd fa fb) := by
  refine PE.mono (pe_andT ha hb) fun σ H Q ⟨ρ, st, rel, res⟩ => ?_
  refine RD.go rel (Res.bind res) fun a st1 ρ1 H1 s1 r1 x rx fx => ?_
  cases e : truD a.1 with
  | none => rw [e] at r1; exact r1.elim
  | some k =>
    refine ⟨k, by rw [← hC]; exact truD_of rx e, ?_⟩
    rw [e] at r1
    cases k with
    | true => exact ⟨ρ1, st1, s1.rel, r1.imp fun _ _ _ _ _ => GE.dm s1.dm _ _ _ _⟩
    | false => exact Res.now s1.rel r1 x rx fx
theorem pd_or (hC : B.C.K = X.K) (ha : PD X B W a fa) (hb : PD X B W (.BoolOp .Or (b :: rest) pos) fb) : PD X B W (.BoolOp .Or (a :: b :: rest) pos) (evOr fa fb) := by
  refine PE.mono (pe_orT ha hb) fun σ H Q ⟨ρ, st, rel, res⟩ => ?_
  refine RD.go rel (Res.bind res) fun a st1 ρ1 H1 s1 r1 x rx fx => ?_
  cases e : truD a.1 with
  | none => rw [e] at r1; exact r1.elim
  | some k =>
    refine ⟨k, by rw [← hC]; exact truD_of rx e, ?_⟩
    rw [e] at r1
    cases k with
    | false => exact ⟨ρ1, st1, s1.rel, r1.imp fun _ _ _ _ _ => GE.dm s1.dm _ _ _ _⟩
    | true => exact Res.now s1.rel r1 x rx fx
theorem pd_one {op : BoolOp} (ha : PD X B W a fa) : PD X B W (.BoolOp op [a] pos) fa := pe_one ha
theorem pd_not (hC : B.C.K = X.K) (ha : PD X B W a fa) : PD X B W (.UnaryOp .Not a pos) (evNot fa) := by
  refine PE.mono (pe_notT ha) fun σ H Q ⟨ρ, st, rel, res⟩ => ?_
  refine RD.go rel (Res.bind res) fun a st1 ρ1 H1 s1 r1 x rx fx => ?_
  cases e : truD a.1 with
  | none => rw [e] at r1; exact r1.elim
  | some k =>
    rw [e] at r1
    exact ⟨k, by rw [← hC]; exact truD_of rx e, Res.now s1.rel r1 _ (RepK.mkF (d := .bl (!k)) rfl) (fresh_flat (d := .bl (!k)) rfl)⟩
def evIf (t : Tv) (fa fb : Ev) : Ev := fun st => (t st).bind fun k st1 => if k = true then fa st1 else fb st1
theorem pd_ifExp (hc : PTD X B W c ta) (ha : PD X B W a fa) (hb : PD X B W b fb) : PD X B W (.IfExp c a b pos) (evIf ta fa fb) := by
  refine PE.mono (pe_ifExp hc ha hb) fun σ H Q ⟨ρ, st, rel, res⟩ => ?_
  refine RT.go rel (Res.bind res) fun k st1 ρ1 H1 s1 r1 => ?_
  cases k with
  | true => exact ⟨ρ1, st1, s1.rel, (show Res B W σ ρ1 st1 H1 (fa st1) _ from r1).imp fun _ _ _ _ _ => GE.dm s1.dm _ _ _ _⟩
  | false => exact ⟨ρ1, st1, s1.rel, (show Res B W σ ρ1 st1 H1 (fb st1) _ from r1).imp fun _ _ _ _ _ => GE.dm s1.dm _ _ _ _⟩
/-- -a -/
def evNeg (fa : Ev) : Ev := fun st => (fa st).bind fun a st1 => match a.1 with
  | .int i => .ok (.int (-i), .new) st1
  | _ => .stuck
theorem pd_neg (ha : PD X B W a fa) : PD X B W (.UnaryOp .USub a pos) (evNeg fa) := by
  refine PE.mono (pe_un un_neg ha) fun σ H Q ⟨ρ, st, rel, res⟩ => ?_
  refine RD.go rel (Res.bind res) fun a st1 ρ1 H1 s1 r1 x rx fx => ?_
  obtain ⟨d, kd⟩ := a
  cases d <;> try exact r1.elim
  rename_i i
  obtain rfl := rx.int
  exact ⟨i, rfl, Res.now s1.rel r1 _ (RepK.mkF (d := .int (-i)) rfl) (fresh_flat (d := .int (-i)) rfl)⟩
end

/-! ### argument lists, each consumed; displays -/
abbrev Av' := DS → Out (List DV)
def evNil : Av' := fun st => .ok [] st
/-- an item that is consumed -/
def evCons (f : Ev) (g : Av') : Av' := fun st => (f st).bind fun a st1 => (g (st1.eat a.2)).bind fun ds st2 => .ok (a.1 :: ds) st2
def GA (B : BC) (σ : L2.St) (Q : List V → Hp → Prop) : List DV → DS → List CellA → Hp → Prop := fun ds st' ρ' H' => ∀ vs, RepL B.C ρ' (Av ρ' B.O st' σ) H' vs ds → Q vs H'
def RA (B : BC) (W : WX) (f : Av') : TA := fun σ H Q => ∃ ρ st, Rel B ρ st σ H ∧ Res B W σ ρ st H (f st) (GA B σ Q)
def PAD (X : Cx) (B : BC) (W : WX) (es : List Expr) (f : Av') : Prop := PA X es (RA B W f)
theorem RA.go {B : BC} {W : WX} {f : Av'} {σ : L2.St} {ρ : List CellA} {st : DS} {H : Hp} {G : List DV → DS → List CellA → Hp → Prop} {Q : List V → Hp → Prop} (rel : Rel B ρ st σ H) (r : Res B W σ ρ st H (f st) G)
    (h : ∀ ds st' ρ' H', Step B σ ρ st H ρ' st' H' → G ds st' ρ' H' → ∀ vs, RepL B.C ρ' (Av ρ' B.O st' σ) H' vs ds → Q vs H') : RA B W f σ H Q := ⟨ρ, st, rel, r.imp h⟩
section
variable {X : Cx} {B : BC} {W : WX} {e : Expr} {es : List Expr} {f : Ev} {g : Av'} {pos : Pos}
/-- an answer seen from a later state -/
theorem Res.from {σ : L2.St} {ρ ρ1 : List CellA} {st st1 : DS} {H H1 : Hp} {α : Type} {o : Out α} {G : α → DS → List CellA → Hp → Prop} (s : Step B σ ρ st H ρ1 st1 H1) (r : Res B W σ ρ st H o G) : Res B W σ ρ1 st1 H1 o G := by
  cases o with
  | ok a st' => exact fun ρ' H' s2 => r ρ' H' (s.trans s2)
  | exc x st' => exact fun ρ' H' cls d s2 => r ρ' H' cls d (s.trans s2)
  | stuck => exact r
theorem pad_nil : PAD X B W [] evNil := PA.mono pa_nil fun σ H Q ⟨ρ, st, rel, res⟩ => Res.now rel res [] .nil
theorem pad_cons (he : PD X B W e f) (hr : PAD X B W es g) (hs : starEach (e :: es) X.env = (false, eval e X.env) :: starEach es X.env) : PAD X B W (e :: es) (evCons f g) := by
  refine PA.mono (pa_cons he hr hs) fun σ H Q ⟨ρ, st, rel, res⟩ => ?_
  refine RD.go rel (Res.bind res) fun a st1 ρ1 H1 s1 r1 x rx fx => ?_
  have s2 := Step.eat s1.rel a.2
  refine RA.go s2.rel (Res.bind (Res.from s2 r1)) fun ds st3 ρ3 H3 s3 r3 vs rv => ?_
  exact Res.now s3.rel r3 (x :: vs) (.cons (Rep.step s3 rx.eat) rv)
def evLst (g : Av') : Ev := fun st => (g st).bind fun ds st1 => if ds.length ≤ sizeLine then .ok (.lst ds, .new) st1 else .stuck
def evTup (g : Av') : Ev := fun st => (g st).bind fun ds st1 => if ds.length ≤ sizeLine then .ok (.tup ds, .new) st1 else .stuck
theorem pd_lst (h : PAD X B W es g) : PD X B W (.List es pos) (evLst g) := by
  refine PE.mono (pe_lst h) fun σ H Q ⟨ρ, st, rel, res⟩ => ?_
  refine RA.go rel (Res.bind res) fun ds st1 ρ1 H1 s1 r1 vs rv => ?_
  split at r1
  · rename_i hl
    refine ⟨by rw [rv.length]; exact hl, fun p hp => ?_⟩
    exact r1 _ _ (Step.alloc s1.rel hp) _ (RepK.newLst s1.rel hp rv) fun q e => by cases e; exact none_of_dm s1.dm hp
  · exact r1.elim
theorem pd_tup {k : Nat} (h : PAD X B W es g) : PD X B W (.Tuple es k pos) (evTup g) := by
  refine PE.mono (pe_tup h) fun σ H Q ⟨ρ, st, rel, res⟩ => ?_
  refine RA.go rel (Res.bind res) fun ds st1 ρ1 H1 s1 r1 vs rv => ?_
  split at r1
  · rename_i hl
    refine ⟨by rw [rv.length]; exact hl, fun p hp => ?_⟩
    exact r1 _ _ (Step.alloc s1.rel hp) _ (RepK.newTup s1.rel hp rv) fun q e => by cases e; exact none_of_dm s1.dm hp
  · exact r1.elim
end
end D

/-! D: subscripts, slices, attributes. -/
namespace D
open PySem L2 PyProof.Rows

/-! ### a[i] -/
def dctGet : List Key → List DV → Key → Option DV
  | k :: ks, d :: ds, j => if k = j then some d else dctGet ks ds j
  | _, _, _ => none
def ixD : DV → DV → Option DV
  | .lst ds, .int i => atI ds i
  | .tup ds, .int i => atI ds i
  | .str z, .int i => if z.length ≤ sizeLine then (atI z.cps.toList i).map fun c => .str ⟨#[c]⟩ else none
  | .dct ks ds, .int i => dctGet ks ds (.inl i)
  | .dct ks ds, .str s => dctGet ks ds (.inr s)
  | _, _ => none
def dIx : Op2 := fun a b => (ixD a b).map fun d => (d, .fro)
def rIxDct : R2 := fun x y H Q => ∃ a v, x = .ref a ∧ DGet H a y (some v) ∧ Q v H
theorem ix_dct {X : Cx} (hu : X.A.units + 1 < cLine) : IxR X rIxDct := by
  intro value slice pins s σ H x y v u Q I rx ry h hs
  obtain ⟨a, w, rfl, g, q⟩ := h
  obtain rfl : v = Value.ref a := rx
  exact tail_any (dict_typeIs I g) slot_dict_getitem.lookup (d_getItem hu I g ry fun w' s' I' r => ⟨w, H, I', r, q⟩) hs
def rIxAll (K : PySem.W.Frag) : R2 := fun x y H Q => rIxL K x y H Q ∨ (rIxT K x y H Q ∨ (rIxS x y H Q ∨ rIxDct x y H Q))
theorem ixr_all {X : Cx} (hu : X.A.units + 1 < cLine) : IxR X (rIxAll X.K) := IxR.or ix_list (IxR.or ix_tup (IxR.or ix_str (ix_dct hu)))
theorem atI_rep {C : RC} {ρ : List CellA} {A : Addr → Prop} {H : Hp} {vs : List V} {ds : List DV} {i : Int} {d : DV} (r : RepL C ρ A H vs ds) (h : atI ds i = some d) : ∃ v, atI vs i = some v ∧ Rep C ρ A H v d := by
  unfold atI at h ⊢
  rw [r.length]
  cases e : ixN ds.length i with
  | none => rw [e] at h; cases h
  | some j =>
    rw [e, Option.bind_some] at h
    obtain ⟨v, h1, h2⟩ := r.get h
    exact ⟨v, by rw [Option.bind_some]; exact h1, h2⟩
theorem dctGet_rep {C : RC} {ρ : List CellA} {A : Addr → Prop} {H : Hp} {j : Key} {d : DV} : ∀ {ks : List Key} {vs : List V} {ds : List DV}, ks.length = vs.length → RepL C ρ A H vs ds → dctGet ks ds j = some d →
    ∃ v, valV (ks.zip vs) j = some v ∧ Rep C ρ A H v d
  | [], _, _, _, _, h => by cases h
  | k :: ks, _, _, hl, .nil, h => by cases hl
  | k :: ks, v :: vs, d' :: ds, hl, .cons r t, h => by
    unfold dctGet at h
    rw [List.zip_cons_cons]
    by_cases e : k = j
    · rw [if_pos e] at h
      cases h
      exact ⟨v, valV_pos e, r⟩
    · rw [if_neg e] at h
      obtain ⟨w, h1, h2⟩ := dctGet_rep (by simpa using hl) t h
      exact ⟨w, by rw [valV_neg e]; exact h1, h2⟩
theorem fro_of {B : BC} {σ : L2.St} {ρ : List CellA} {st : DS} {H : Hp} {Q : VK} {d : DV} {v : V} (rel : Rel B ρ st σ H) (r : Rep B.C ρ (Av ρ B.O st σ) H v d)
    (q : ∀ v H', Step B σ ρ st H ρ st H' → RepK B ρ st σ H' .fro v d → Fresh H .fro v → Q v H') : Q v H := q v H (.refl rel) r trivial
theorem ops_ix {C : RC} : OpS C (rIxAll C.K) dIx := by
  intro B hB σ ρ st H ka kb x y a b c Q rel rx ry e q
  subst hB
  unfold dIx at e
  cases h : ixD a b with
  | none => rw [h] at e; cases e
  | some d =>
    rw [h] at e
    cases e
    cases a <;> try (cases h; done)
    · rename_i z
      cases b <;> try (cases h; done)
      rename_i i
      simp only [ixD] at h
      split at h
      · rename_i hz
        cases h2 : atI z.cps.toList i with
        | none => rw [h2] at h; cases h
        | some c =>
          rw [h2] at h
          cases h
          obtain rfl := rx.str
          obtain rfl := ry.int
          exact .inr (.inr (.inl ⟨z, i, c, rfl, rfl, hz, h2, fro_of rel (.str _) q⟩))
      · cases h
    · rename_i ds
      cases b <;> try (cases h; done)
      rename_i i
      obtain ⟨p, vs, rfl, e1, r1⟩ := rx.lst
      obtain rfl := ry.int
      obtain ⟨v, h1, h2⟩ := atI_rep r1 h
      exact .inl ⟨p, vs, i, v, rfl, rfl, .inl (.inl e1), h1, fro_of rel h2 q⟩
    · rename_i ds
      cases b <;> try (cases h; done)
      rename_i i
      obtain ⟨p, vs, rfl, e1, r1⟩ := rx.tup
      obtain rfl := ry.int
      obtain ⟨v, h1, h2⟩ := atI_rep r1 h
      exact .inr (.inl ⟨p, vs, i, v, rfl, rfl, e1, h1, fro_of rel h2 q⟩)
    · rename_i ks ds
      cases b <;> try (cases h; done)
      · rename_i i
        obtain ⟨p, vs, rfl, e1, hl, r1⟩ := rx.dct
        obtain rfl := ry.int
        obtain ⟨v, h1, h2⟩ := dctGet_rep hl r1 h
        exact .inr (.inr (.inr ⟨p, v, rfl, by rw [← h1]; exact DGet.k (k := .inl i) e1, fro_of rel h2 q⟩))
      · rename_i s
        obtain ⟨p, vs, rfl, e1, hl, r1⟩ := rx.dct
        obtain rfl := ry.str
        obtain ⟨v, h1, h2⟩ := dctGet_rep hl r1 h
        exact .inr (.inr (.inr ⟨p, v, rfl, by rw [← h1]; exact DGet.k (k := .inr s) e1, fro_of rel h2 q⟩))
section
variable {X : Cx} {B : BC} {W : WX} {a b e : Expr} {fa fb f : Ev} {pos : Pos}
theorem pd_ix (hC : B.C.K = X.K) (hu : X.A.units + 1 < cLine) (ha : PD X B W a fa) (hb : PD X B W b fb) (hs : PlainIx b) : PD X B W (.Subscript a b pos) (evOp dIx fa fb) :=
  PE.mono (pe_ix (ixr_all hu) ha hb hs) fun _ _ _ h => tOp_of (by rw [← hC]; exact ops_ix) h
end

/-! ### slices -/
def cutL {α : Type} (xs : List α) (lo hi : Option Int) : List α := (xs.drop (HT.sIx xs.length 0 lo)).take (HT.sIx xs.length xs.length hi - HT.sIx xs.length 0 lo)
theorem RepL.cut {C : RC} {ρ : List CellA} {A : Addr → Prop} {H : Hp} {vs : List V} {ds : List DV} (lo hi : Option Int) (r : RepL C ρ A H vs ds) : RepL C ρ A H (cutV vs lo hi) (cutL ds lo hi) := by
  unfold cutV cutL
  rw [r.length]
  exact (r.drop _).take _
def dSl (a : DV) (lo hi : Option Int) : Option (DV × Kd) := match a with
  | .lst ds => some (.lst (cutL ds lo hi), .new)
  | .tup ds => some (.tup (cutL ds lo hi), .fro)
  | .str z => if z.length ≤ sizeLine then some (.str (cutS z lo hi), .new) else none
  | _ => none
/-- a part of a slice -/
abbrev Pv := DS → Out (Option Int)
def pvNone : Pv := fun st => .ok none st
def pvSome (f : Ev) : Pv := fun st => (f st).bind fun a st1 => match a.1 with
  | .int i => .ok (some i) st1
  | _ => .stuck
def GO (Q : Option Int → Hp → Prop) : Option Int → DS → List CellA → Hp → Prop := fun o _ _ H' => Q o H'
def RO (B : BC) (W : WX) (f : Pv) : TO := fun σ H Q => ∃ ρ st, Rel B ρ st σ H ∧ Res B W σ ρ st H (f st) (GO Q)
def POD (X : Cx) (B : BC) (W : WX) (e : Option Expr) (f : Pv) : Prop := PO X e (RO B W f)
theorem PO.mono {X : Cx} {e : Option Expr} {t t' : TO} (h : PO X e t) (m : ∀ σ H Q, t' σ H Q → t σ H Q) : PO X e t' := ⟨fun pins s σ H Q I r => h.run pins s σ H Q I (m _ _ _ r)⟩
theorem RO.go {B : BC} {W : WX} {f : Pv} {σ : L2.St} {ρ : List CellA} {st : DS} {H : Hp} {G : Option Int → DS → List CellA → Hp → Prop} {Q : Option Int → Hp → Prop} (rel : Rel B ρ st σ H) (r : Res B W σ ρ st H (f st) G)
    (h : ∀ o st' ρ' H', Step B σ ρ st H ρ' st' H' → G o st' ρ' H' → Q o H') : RO B W f σ H Q := ⟨ρ, st, rel, r.imp h⟩
def evSl (fa : Ev) (lo hi : Pv) : Ev := fun st => (fa st).bind fun a st1 => (lo st1).bind fun l st2 => (hi st2).bind fun u st3 => match dSl a.1 l u with
  | some r => .ok r st3
  | none => .stuck
section
variable {X : Cx} {B : BC} {W : WX} {a b e : Expr} {lo hi : Option Expr} {fa fb f : Ev} {fl fh : Pv} {pos p2 : Pos}
theorem pod_none : POD X B W none pvNone := PO.mono po_none fun σ H Q ⟨ρ, st, rel, res⟩ => Res.now rel res
theorem pod_some (h : PD X B W e f) : POD X B W (some e) (pvSome f) := by
  refine PO.mono (po_some h) fun σ H Q ⟨ρ, st, rel, res⟩ => ?_
  refine RD.go rel (Res.bind res) fun a st1 ρ1 H1 s1 r1 x rx fx => ?_
  obtain ⟨d, kd⟩ := a
  cases d <;> try exact r1.elim
  obtain rfl := rx.int
  exact ⟨_, rfl, Res.now s1.rel r1⟩
def rSlAll (K : PySem.W.Frag) : V → Option Int → Option Int → Hp → VK → Prop := fun x lo hi H Q => (∃ a xs, x = .ref a ∧ SqL K H a xs ∧ ∀ p, H p = none → Q (.ref p) (upd H p (.lst (cutV xs lo hi)))) ∨ (rSlA K x lo hi H Q ∨ rSlS x lo hi H Q)
theorem slr_all : SlR X (rSlAll X.K) := SlR.or sl_list (SlR.or sl_tupA sl_str)
theorem cut_whole {α : Type} {xs : List α} {lo hi : Option Int} (h1 : HT.sIx xs.length 0 lo = 0) (h2 : HT.sIx xs.length xs.length hi = xs.length) : cutL xs lo hi = xs := by
  unfold cutL
  rw [h1, h2, List.drop_zero, Nat.sub_zero, List.take_length]
theorem pd_slice (hC : B.C.K = X.K) (ha : PD X B W a fa) (hl : POD X B W lo fl) (hh : POD X B W hi fh) : PD X B W (.Subscript a (.Slice lo hi none p2) pos) (evSl fa fl fh) := by
  refine PE.mono (pe_slice slr_all ha hl hh) fun σ H Q ⟨ρ, st, rel, res⟩ => ?_
  refine RD.go rel (Res.bind res) fun a st1 ρ1 H1 s1 r1 x rx fx => ?_
  refine RO.go s1.rel (Res.bind r1) fun l st2 ρ2 H2 s2 r2 => ?_
  refine RO.go s2.rel (Res.bind r2) fun u st3 ρ3 H3 s3 r3 => ?_
  have s13 := s2.trans s3
  have rx3 := RepK.step s13 rx
  have s03 := s1.trans s13
  rw [← hC]
  obtain ⟨d, kd⟩ := a
  dsimp only at rx3 r3
  cases e : dSl d l u with
  | none => rw [e] at r3; exact r3.elim
  | some c =>
    rw [e] at r3
    cases d <;> try (cases e; done)
    · rename_i z
      simp only [dSl] at e
      split at e
      · rename_i hz
        cases e
        obtain rfl := rx3.str
        exact .inr (.inr ⟨z, rfl, hz, Res.now s3.rel r3 _ (RepK.mkF (d := .str (cutS z l u)) rfl) (fresh_flat (d := .str (cutS z l u)) rfl)⟩)
      · cases e
    · rename_i ds
      cases e
      obtain ⟨p, vs, rfl, e1, rl⟩ := rx3.lst
      refine .inl ⟨p, vs, rfl, .inl (.inl e1), fun n hn => ?_⟩
      exact r3 _ _ (Step.alloc s3.rel hn) _ (RepK.newLst s3.rel hn (rl.cut l u)) fun q e => by cases e; exact none_of_dm s03.dm hn
    · rename_i ds
      cases e
      have wx := Rep.ofSqt (C := B.C) (A := Av ρ3 B.O st3 σ) rx3
      obtain ⟨p, vs, rfl, e1, rl⟩ := rx3.tup
      refine .inr (.inl ⟨p, vs, rfl, e1, fun hw => ?_, fun hw n hn => ?_⟩)
      · rw [rl.length] at hw
        rw [cut_whole hw.1 hw.2] at r3
        exact Res.now s3.rel r3 _ wx trivial
      · exact r3 _ _ (Step.alloc s3.rel hn) _ (Rep.newTup s3.rel hn (rl.cut l u)) trivial
end

/-! ### a[::-1] -/
section
variable {prog : Program} {w : World} {A : Around} {E : Value → Shared → Prop} {s : Shared}
end
section
variable {X : Cx} {B : BC} {W : WX}
def evRev (fa : Ev) : Ev := fun st => (fa st).bind fun a st1 => match a.1 with
  | .lst ds => .ok (.lst ds.reverse, .new) st1
  | .tup ds => .ok (.tup ds.reverse, .fro) st1
  | _ => .stuck
end

/-! ### o.f -/
def fldGet : List Str → List DV → Str → Option DV
  | k :: ks, d :: ds, j => if k = j then some d else fldGet ks ds j
  | _, _, _ => none
theorem fldGet_rep {C : RC} {ρ : List CellA} {A : Addr → Prop} {H : Hp} {j : Str} {d : DV} : ∀ {ks : List Str} {vs : List V} {ds : List DV}, ks.length = vs.length → RepL C ρ A H vs ds → fldGet ks ds j = some d →
    ∃ v, (ks.zip vs).lookup j = some v ∧ Rep C ρ A H v d
  | [], _, _, _, _, h => by cases h
  | k :: ks, _, _, hl, .nil, h => by cases hl
  | k :: ks, v :: vs, d' :: ds, hl, .cons r t, h => by
    unfold fldGet at h
    rw [List.zip_cons_cons, List.lookup_cons]
    by_cases e : k = j
    · rw [if_pos e] at h
      cases h
      exact ⟨v, by rw [e, beq_self_eq_true], r⟩
    · rw [if_neg e] at h
      obtain ⟨w, h1, h2⟩ := fldGet_rep (by simpa using hl) t h
      refine ⟨w, ?_, h2⟩
      rw [show (j == k) = false from beq_eq_false_iff_ne.mpr fun z => e z.symm]
      exact h1
end D

/-! D: calls of built-ins. -/
namespace D
open PySem L2 PyProof.Rows

/-! ### several results, not consumed -/
abbrev Ak := DS → Out (List (DV × Kd))
def akNil : Ak := fun st => .ok [] st
def akCons (f : Ev) (g : Ak) : Ak := fun st => (f st).bind fun a st1 => (g st1).bind fun as st2 => .ok (a :: as) st2
inductive RepKs (B : BC) (ρ : List CellA) (st : DS) (σ : L2.St) (H : Hp) : List V → List (DV × Kd) → Prop where
  | nil : RepKs B ρ st σ H [] []
  | cons {v : V} {vs : List V} {a : DV × Kd} {as : List (DV × Kd)} : RepK B ρ st σ H a.2 v a.1 → RepKs B ρ st σ H vs as → RepKs B ρ st σ H (v :: vs) (a :: as)
def GK (B : BC) (σ : L2.St) (Q : List V → Hp → Prop) : List (DV × Kd) → DS → List CellA → Hp → Prop := fun as st' ρ' H' => ∀ vs, RepKs B ρ' st' σ H' vs as → Q vs H'
def RK (B : BC) (W : WX) (f : Ak) : TA := fun σ H Q => ∃ ρ st, Rel B ρ st σ H ∧ Res B W σ ρ st H (f st) (GK B σ Q)
def PKD (X : Cx) (B : BC) (W : WX) (es : List Expr) (f : Ak) : Prop := PA X es (RK B W f)
section
variable {X : Cx} {B : BC} {W : WX} {e : Expr} {es : List Expr} {f : Ev} {g : Ak} {pos : Pos}
theorem RK.go {σ : L2.St} {ρ : List CellA} {st : DS} {H : Hp} {G : List (DV × Kd) → DS → List CellA → Hp → Prop} {Q : List V → Hp → Prop} (rel : Rel B ρ st σ H) (r : Res B W σ ρ st H (g st) G)
    (h : ∀ as st' ρ' H', Step B σ ρ st H ρ' st' H' → G as st' ρ' H' → ∀ vs, RepKs B ρ' st' σ H' vs as → Q vs H') : RK B W g σ H Q := ⟨ρ, st, rel, r.imp h⟩
theorem pkd_nil : PKD X B W [] akNil := PA.mono pa_nil fun σ H Q ⟨ρ, st, rel, res⟩ => Res.now rel res [] .nil
theorem pkd_cons (he : PD X B W e f) (hr : PKD X B W es g) (hs : starEach (e :: es) X.env = (false, eval e X.env) :: starEach es X.env) : PKD X B W (e :: es) (akCons f g) := by
  refine PA.mono (pa_cons he hr hs) fun σ H Q ⟨ρ, st, rel, res⟩ => ?_
  refine RD.go rel (Res.bind res) fun a st1 ρ1 H1 s1 r1 x rx fx => ?_
  refine RK.go s1.rel (Res.bind r1) fun as st3 ρ3 H3 s3 r3 vs rv => ?_
  exact Res.now s3.rel r3 (x :: vs) (.cons (RepK.step s3 rx) rv)
end

/-! ### a built-in by values -/
abbrev OpN := List DV → Option (DV × Kd)
def CallS (C : RC) (r : List V → Hp → VK → Prop) (f : OpN) : Prop := ∀ (B : BC), B.C = C → ∀ (σ : L2.St) (ρ : List CellA) (st : DS) (H : Hp) (xs : List V) (as : List (DV × Kd)) (c : DV × Kd) (Q : VK), Rel B ρ st σ H → RepKs B ρ st σ H xs as → f (as.map (·.1)) = some c →
  (∀ v H', Step B σ ρ st H ρ st H' → RepK B ρ st σ H' c.2 v c.1 → Fresh H c.2 v → Q v H') → r xs H Q
theorem CallS.or {C : RC} {r r' : List V → Hp → VK → Prop} {f g k : OpN} (h : CallS C r f) (h' : CallS C r' g) (e : ∀ as c, k as = some c → f as = some c ∨ g as = some c) : CallS C (fun xs H Q => r xs H Q ∨ r' xs H Q) k := by
  intro B hB σ ρ st H xs as c Q rel rx e1 q
  rcases e _ c e1 with e2 | e2
  · exact .inl (h B hB σ ρ st H xs as c Q rel rx e2 q)
  · exact .inr (h' B hB σ ρ st H xs as c Q rel rx e2 q)
theorem one_of {B : BC} {ρ : List CellA} {st : DS} {σ : L2.St} {H : Hp} {xs : List V} {as : List (DV × Kd)} {d : DV} (r : RepKs B ρ st σ H xs as) (e : as.map (·.1) = [d]) : ∃ v kd, xs = [v] ∧ RepK B ρ st σ H kd v d := by
  cases r with
  | nil => cases e
  | @cons v vs a as h t =>
    cases t with
    | nil => rw [List.map_cons, List.map_nil, List.cons.injEq] at e; obtain ⟨rfl, _⟩ := e; exact ⟨v, _, rfl, h⟩
    | cons h2 t => cases e
theorem two_of {B : BC} {ρ : List CellA} {st : DS} {σ : L2.St} {H : Hp} {xs : List V} {as : List (DV × Kd)} {d d' : DV} (r : RepKs B ρ st σ H xs as) (e : as.map (·.1) = [d, d']) : ∃ v w kd kd', xs = [v, w] ∧ RepK B ρ st σ H kd v d ∧ RepK B ρ st σ H kd' w d' := by
  cases r with
  | nil => cases e
  | @cons v vs a as h t =>
    cases t with
    | nil => cases e
    | @cons v2 vs a2 as h2 t =>
      cases t with
      | nil =>
        rw [List.map_cons, List.map_cons, List.map_nil, List.cons.injEq, List.cons.injEq] at e
        obtain ⟨rfl, rfl, _⟩ := e
        exact ⟨v, v2, _, _, rfl, h, h2⟩
      | cons h3 t => cases e
/-- one argument -/
def f1 (g : DV → Option (DV × Kd)) : OpN
  | [a] => g a
  | _ => none
theorem calls1 {C : RC} {r : V → Hp → VK → Prop} {g : DV → Option (DV × Kd)} (h : ∀ (B : BC), B.C = C → ∀ (σ : L2.St) (ρ : List CellA) (st : DS) (H : Hp) (ka : Kd) (x : V) (a : DV) (c : DV × Kd) (Q : VK), Rel B ρ st σ H → RepK B ρ st σ H ka x a → g a = some c →
    (∀ v H', Step B σ ρ st H ρ st H' → RepK B ρ st σ H' c.2 v c.1 → Fresh H c.2 v → Q v H') → r x H Q) : CallS C (fun xs H Q => ∃ x, xs = [x] ∧ r x H Q) (f1 g) := by
  intro B hB σ ρ st H xs as c Q rel rx e q
  cases e1 : as.map (·.1) with
  | nil => rw [e1] at e; cases e
  | cons d ds =>
    cases ds with
    | cons d' ds => rw [e1] at e; cases e
    | nil =>
      rw [e1] at e
      obtain ⟨v, kd, rfl, rv⟩ := one_of rx e1
      exact ⟨v, rfl, h B hB σ ρ st H kd v d c Q rel rv e q⟩
def f2 (g : DV → DV → Option (DV × Kd)) : OpN
  | [a, b] => g a b
  | _ => none
theorem calls2 {C : RC} {r : V → V → Hp → VK → Prop} {g : DV → DV → Option (DV × Kd)} (h : ∀ (B : BC), B.C = C → ∀ (σ : L2.St) (ρ : List CellA) (st : DS) (H : Hp) (ka kb : Kd) (x y : V) (a b : DV) (c : DV × Kd) (Q : VK), Rel B ρ st σ H → RepK B ρ st σ H ka x a → RepK B ρ st σ H kb y b → g a b = some c →
    (∀ v H', Step B σ ρ st H ρ st H' → RepK B ρ st σ H' c.2 v c.1 → Fresh H c.2 v → Q v H') → r x y H Q) : CallS C (fun xs H Q => ∃ x y, xs = [x, y] ∧ r x y H Q) (f2 g) := by
  intro B hB σ ρ st H xs as c Q rel rx e q
  cases e1 : as.map (·.1) with
  | nil => rw [e1] at e; cases e
  | cons d ds =>
    cases ds with
    | nil => rw [e1] at e; cases e
    | cons d' ds =>
      cases ds with
      | cons d'' ds => rw [e1] at e; cases e
      | nil =>
        rw [e1] at e
        obtain ⟨v, w, kd, kd', rfl, rv, rw'⟩ := two_of rx e1
        exact ⟨v, w, rfl, h B hB σ ρ st H kd kd' v w d d' c Q rel rv rw' e q⟩
def evCall (f : OpN) (g : Ak) : Ev := fun st => (g st).bind fun as st1 => match f (as.map (·.1)) with
  | some c => .ok c st1
  | none => .stuck
theorem tCB_of {B : BC} {W : WX} {r : List V → Hp → VK → Prop} {f : OpN} {g : Ak} (hs : CallS B.C r f) {σ : L2.St} {H : Hp} {Q : VK} (h : RD B W (evCall f g) σ H Q) : tCB r (RK B W g) σ H Q := by
  obtain ⟨ρ, st, rel, res⟩ := h
  refine RK.go rel (Res.bind res) fun as st1 ρ1 H1 s1 r1 xs rx => ?_
  cases e : f (as.map (·.1)) with
  | none => rw [e] at r1; exact r1.elim
  | some c =>
    rw [e] at r1
    exact hs B rfl σ ρ1 st1 H1 xs as c Q s1.rel rx e fun v H' s3 rv fv => r1 _ _ s3 v rv (fv.dm s1.dm)

/-! ### the built-ins -/
inductive Blt where
  | len | abs | ord | isinstance | all | any | sum | max | min | repr | int | bool | str | list | tuple
  deriving DecidableEq
def Blt.name : Blt → String
  | .len => "len" | .abs => "abs" | .ord => "ord" | .isinstance => "isinstance" | .all => "all" | .any => "any" | .sum => "sum" | .max => "max" | .min => "min" | .repr => "repr"
  | .int => "int" | .bool => "bool" | .str => "str" | .list => "list" | .tuple => "tuple"
def Blt.isTy : Blt → Bool
  | .int => true | .bool => true | .str => true | .list => true | .tuple => true | _ => false
def Blt.val (b : Blt) : Value := if b.isTy then .type b.name else .builtin b.name
theorem Blt.boot (b : Blt) : bootBuiltins b.name = some b.val := by
  cases b
  · exact PySem.boot_len
  · exact boot_abs
  · exact boot_ord
  · exact boot_isinstance
  · decide +kernel
  · decide +kernel
  · decide +kernel
  · decide +kernel
  · decide +kernel
  · exact boot_repr
  · exact boot_int
  · exact boot_bool
  · exact boot_str
  · exact boot_list
  · exact boot_tuple
theorem Blt.nn (b : Blt) : ((b.name : String) : Str) ≠ "__name__" := by cases b <;> decide +kernel
theorem Blt.nd (b : Blt) : (((b.name : String) : Str) == ("__debug__" : Str)) = false := by cases b <;> decide +kernel

def lenD : DV → Option (DV × Kd)
  | .lst ds => some (.int ds.length, .new)
  | .tup ds => some (.int ds.length, .new)
  | .str s => if s.length ≤ sizeLine then some (.int s.length, .new) else none
  | .dct ks _ => some (.int ks.length, .new)
  | .scr ns => some (.int ns.length, .new)
  | _ => none
theorem RepK.scr {B : BC} {σ : L2.St} {ρ : List CellA} {st : DS} {H : Hp} {kd : Kd} {v : V} {ns : List Int} (r : RepK B ρ st σ H kd v (.scr ns)) : ∃ p, v = .ref p ∧ SqL B.C.K H p (ns.map V.int) := by
  have key : ∀ {A : Addr → Prop}, Rep B.C ρ A H v (.scr ns) → ∃ p, v = .ref p ∧ SqL B.C.K H p (ns.map V.int) := fun r => by
    cases r with
    | scr n e => exact ⟨_, rfl, .inl (.inr ⟨_, e⟩)⟩
    | kscr k => exact ⟨_, rfl, .inr k⟩
  cases kd with
  | view i => obtain ⟨p, rfl, _, c, _⟩ := r; exact (show False from c).elim
  | fro => exact key r
  | new => exact key r.1
theorem s_len {C : RC} : CallS C (fun xs H Q => (∃ x n, xs = [x] ∧ LenV C.K x H n ∧ Q (.int n) H) ∨ ∃ a kvs, xs = [V.ref a] ∧ H a = some (.dK kvs) ∧ Q (.int kvs.length) H) (f1 lenD) := by
  have h := calls1 (C := C) (r := fun x H Q => (∃ n, LenV C.K x H n ∧ Q (.int n) H) ∨ ∃ a kvs, x = V.ref a ∧ H a = some (.dK kvs) ∧ Q (.int kvs.length) H) (g := lenD) ?_
  · intro B hB σ ρ st H xs as c Q rel rx e q
    obtain ⟨x, rfl, h | ⟨a, kvs, rfl, h⟩⟩ := h B hB σ ρ st H xs as c Q rel rx e q
    · obtain ⟨n, h⟩ := h
      exact .inl ⟨x, n, rfl, h⟩
    · exact .inr ⟨a, kvs, rfl, h⟩
  · intro B hB σ ρ st H ka x a c Q rel rx e q
    subst hB
    cases a <;> try (cases e; done)
    · rename_i s
      simp only [lenD] at e
      split at e
      · rename_i hs
        cases e
        obtain rfl := rx.str
        exact .inl ⟨s.length, ⟨hs, rfl⟩, ansF (d := .int s.length) rfl rel q⟩
      · cases e
    · rename_i ds
      cases e
      obtain ⟨p, vs, rfl, e1, r1⟩ := rx.lst
      exact .inl ⟨ds.length, .inl ⟨vs, .inl (.inl e1), r1.length.symm⟩, ansF (d := .int ds.length) rfl rel q⟩
    · rename_i ds
      cases e
      obtain ⟨p, vs, rfl, e1, r1⟩ := rx.tup
      exact .inl ⟨ds.length, .inr ⟨vs, e1, r1.length.symm⟩, ansF (d := .int ds.length) rfl rel q⟩
    rotate_left
    · rename_i ns
      cases e
      obtain ⟨p, rfl, e1⟩ := rx.scr
      exact .inl ⟨ns.length, .inl ⟨_, e1, by simp⟩, ansF (d := .int ns.length) rfl rel q⟩
    · rename_i ks ds
      cases e
      obtain ⟨p, vs, rfl, e1, hl, r1⟩ := rx.dct
      refine .inr ⟨p, _, rfl, e1, ?_⟩
      rw [List.length_zip, ← hl, Nat.min_self]
      exact ansF (d := .int ks.length) rfl rel q
def absD : DV → Option (DV × Kd)
  | .int i => some (.int (if i < 0 then -i else i), .new)
  | _ => none
theorem s_abs {C : RC} : CallS C (fun xs H Q => ∃ i, xs = [.int i] ∧ Q (.int (if i < 0 then -i else i)) H) (f1 absD) := by
  have h := calls1 (C := C) (r := fun x H Q => ∃ i, x = .int i ∧ Q (.int (if i < 0 then -i else i)) H) (g := absD) ?_
  · intro B hB σ ρ st H xs as c Q rel rx e q
    obtain ⟨x, rfl, i, rfl, h⟩ := h B hB σ ρ st H xs as c Q rel rx e q
    exact ⟨i, rfl, h⟩
  · intro B hB σ ρ st H ka x a c Q rel rx e q
    cases a <;> try (cases e; done)
    rename_i i
    cases e
    obtain rfl := rx.int
    exact ⟨i, rfl, ansF (d := .int (if i < 0 then -i else i)) rfl rel q⟩
def ordD : DV → Option (DV × Kd)
  | .str x => if x.length = 1 then some (.int (x.cps.getD 0 0 : Nat), .new) else none
  | _ => none
theorem s_ord {C : RC} : CallS C (fun xs H Q => ∃ x, xs = [.str x] ∧ x.length = 1 ∧ Q (.int (x.cps.getD 0 0 : Nat)) H) (f1 ordD) := by
  have h := calls1 (C := C) (r := fun x H Q => ∃ s, x = .str s ∧ s.length = 1 ∧ Q (.int (s.cps.getD 0 0 : Nat)) H) (g := ordD) ?_
  · intro B hB σ ρ st H xs as c Q rel rx e q
    obtain ⟨x, rfl, i, rfl, h⟩ := h B hB σ ρ st H xs as c Q rel rx e q
    exact ⟨i, rfl, h⟩
  · intro B hB σ ρ st H ka x a c Q rel rx e q
    cases a <;> try (cases e; done)
    rename_i s
    simp only [ordD] at e
    split at e
    · rename_i hs
      cases e
      obtain rfl := rx.str
      exact ⟨s, rfl, hs, ansF (d := .int (s.cps.getD 0 0 : Nat)) rfl rel q⟩
    · cases e
/-- a list of bools -/
def boolsD : List DV → Option (List Bool)
  | [] => some []
  | .bl b :: ds => (boolsD ds).map (b :: ·)
  | _ => none
theorem boolsD_rep {C : RC} {ρ : List CellA} {A : Addr → Prop} {H : Hp} : ∀ {vs : List V} {ds : List DV} {bs : List Bool}, RepL C ρ A H vs ds → boolsD ds = some bs → vs = bs.map V.bl
  | _, _, _, .nil, e => by cases e; rfl
  | _, _, bs, .cons (d := d) (ds := ds) r t, e => by
    cases d <;> try (cases e; done)
    rename_i b
    cases e2 : boolsD ds with
    | none => simp [boolsD, e2] at e
    | some cs =>
      simp [boolsD, e2] at e
      subst e
      rw [List.map_cons, boolsD_rep t e2, Rep.flat_eq rfl r]
      rfl
def allD : DV → Option (DV × Kd)
  | .lst ds => (boolsD ds).map fun bs => (.bl (bs.all id), .new)
  | _ => none
def anyD : DV → Option (DV × Kd)
  | .lst ds => (boolsD ds).map fun bs => (.bl (bs.any id), .new)
  | _ => none
theorem s_all {C : RC} : CallS C (rAll C.K) (f1 allD) := by
  have h := calls1 (C := C) (r := fun x H Q => ∃ (a : Addr) (bs : List Bool), x = V.ref a ∧ SqL C.K H a (bs.map V.bl) ∧ Q (.bl (bs.all id)) H) (g := allD) ?_
  · intro B hB σ ρ st H xs as c Q rel rx e q
    obtain ⟨x, rfl, i, bs, rfl, h⟩ := h B hB σ ρ st H xs as c Q rel rx e q
    exact ⟨i, bs, rfl, h⟩
  · intro B hB σ ρ st H ka x a c Q rel rx e q
    cases a <;> try (cases e; done)
    rename_i ds
    cases e2 : boolsD ds with
    | none => simp [allD, e2] at e
    | some bs =>
      simp [allD, e2] at e
      subst e
      obtain ⟨p, vs, rfl, e1, r1⟩ := rx.lst
      obtain rfl := boolsD_rep r1 e2
      exact ⟨p, bs, rfl, .inl (.inl e1), ansF (d := .bl (bs.all id)) rfl rel (by simpa using q)⟩
theorem s_any {C : RC} : CallS C (rAny C.K) (f1 anyD) := by
  have h := calls1 (C := C) (r := fun x H Q => ∃ (a : Addr) (bs : List Bool), x = V.ref a ∧ SqL C.K H a (bs.map V.bl) ∧ Q (.bl (bs.any id)) H) (g := anyD) ?_
  · intro B hB σ ρ st H xs as c Q rel rx e q
    obtain ⟨x, rfl, i, bs, rfl, h⟩ := h B hB σ ρ st H xs as c Q rel rx e q
    exact ⟨i, bs, rfl, h⟩
  · intro B hB σ ρ st H ka x a c Q rel rx e q
    cases a <;> try (cases e; done)
    rename_i ds
    cases e2 : boolsD ds with
    | none => simp [anyD, e2] at e
    | some bs =>
      simp [anyD, e2] at e
      subst e
      obtain ⟨p, vs, rfl, e1, r1⟩ := rx.lst
      obtain rfl := boolsD_rep r1 e2
      exact ⟨p, bs, rfl, .inl (.inl e1), ansF (d := .bl (bs.any id)) rfl rel (by simpa using q)⟩
/-- a list of ints -/
def intsD : List DV → Option (List Int)
  | [] => some []
  | .int b :: ds => (intsD ds).map (b :: ·)
  | _ => none
theorem intsD_rep {C : RC} {ρ : List CellA} {A : Addr → Prop} {H : Hp} : ∀ {vs : List V} {ds : List DV} {bs : List Int}, RepL C ρ A H vs ds → intsD ds = some bs → vs = bs.map V.int
  | _, _, _, .nil, e => by cases e; rfl
  | _, _, bs, .cons (d := d) (ds := ds) r t, e => by
    cases d <;> try (cases e; done)
    rename_i b
    cases e2 : intsD ds with
    | none => simp [intsD, e2] at e
    | some cs =>
      simp [intsD, e2] at e
      subst e
      rw [List.map_cons, intsD_rep t e2, Rep.flat_eq rfl r]
      rfl
theorem boolsD_map : ∀ ns : List Bool, boolsD (ns.map DV.bl) = some ns
  | [] => rfl
  | n :: ns => by rw [List.map_cons, boolsD, boolsD_map ns]; rfl
def sumD : DV → Option (DV × Kd)
  | .lst ds => (intsD ds).map fun bs => (.int bs.sum, .new)
  | _ => none
theorem s_sum {C : RC} : CallS C (rSum C.K) (f1 sumD) := by
  have h := calls1 (C := C) (r := fun x H Q => ∃ (a : Addr) (bs : List Int), x = V.ref a ∧ SqL C.K H a (bs.map V.int) ∧ Q (.int bs.sum) H) (g := sumD) ?_
  · intro B hB σ ρ st H xs as c Q rel rx e q
    obtain ⟨x, rfl, i, bs, rfl, h⟩ := h B hB σ ρ st H xs as c Q rel rx e q
    exact ⟨i, bs, rfl, h⟩
  · intro B hB σ ρ st H ka x a c Q rel rx e q
    cases a <;> try (cases e; done)
    rename_i ds
    cases e2 : intsD ds with
    | none => simp [sumD, e2] at e
    | some bs =>
      simp [sumD, e2] at e
      subst e
      obtain ⟨p, vs, rfl, e1, r1⟩ := rx.lst
      obtain rfl := intsD_rep r1 e2
      exact ⟨p, bs, rfl, .inl (.inl e1), ansF (d := .int bs.sum) rfl rel (by simpa using q)⟩
def maxL : List Int → Int
  | [] => 0
  | [x] => x
  | x :: y :: r => if maxL (y :: r) > x then maxL (y :: r) else x
def minL : List Int → Int
  | [] => 0
  | [x] => x
  | x :: y :: r => if minL (y :: r) < x then minL (y :: r) else x
theorem maxL_spec : ∀ (l : List Int), l ≠ [] → maxL l ∈ l ∧ ∀ y ∈ l, y ≤ maxL l
  | [], h => absurd rfl h
  | [x], _ => ⟨List.mem_singleton.mpr rfl, fun y h => by rw [List.mem_singleton.mp h]; exact Int.le_refl _⟩
  | x :: z :: r, _ => by
    obtain ⟨h1, h2⟩ := maxL_spec (z :: r) (List.cons_ne_nil _ _)
    unfold maxL
    split
    · rename_i c
      refine ⟨List.mem_cons_of_mem _ h1, fun y hy => ?_⟩
      rcases List.mem_cons.mp hy with rfl | hy
      · omega
      · exact h2 y hy
    · rename_i c
      refine ⟨List.mem_cons_self, fun y hy => ?_⟩
      rcases List.mem_cons.mp hy with rfl | hy
      · omega
      · have := h2 y hy; omega
theorem minL_spec : ∀ (l : List Int), l ≠ [] → minL l ∈ l ∧ ∀ y ∈ l, minL l ≤ y
  | [], h => absurd rfl h
  | [x], _ => ⟨List.mem_singleton.mpr rfl, fun y h => by rw [List.mem_singleton.mp h]; exact Int.le_refl _⟩
  | x :: z :: r, _ => by
    obtain ⟨h1, h2⟩ := minL_spec (z :: r) (List.cons_ne_nil _ _)
    unfold minL
    split
    · rename_i c
      refine ⟨List.mem_cons_of_mem _ h1, fun y hy => ?_⟩
      rcases List.mem_cons.mp hy with rfl | hy
      · omega
      · exact h2 y hy
    · rename_i c
      refine ⟨List.mem_cons_self, fun y hy => ?_⟩
      rcases List.mem_cons.mp hy with rfl | hy
      · omega
      · have := h2 y hy; omega
def maxD : OpN
  | [.int i, .int j] => some (.int (if j > i then j else i), .new)
  | [.lst ds] => match intsD ds with
    | some ns => if 0 < ns.length then some (.int (maxL ns), .new) else none
    | none => none
  | _ => none
def minD : OpN
  | [.int i, .int j] => some (.int (if j < i then j else i), .new)
  | [.lst ds] => match intsD ds with
    | some ns => if 0 < ns.length then some (.int (minL ns), .new) else none
    | none => none
  | _ => none
theorem s_max {C : RC} : CallS C (fun xs H Q => (∃ i j, xs = [.int i, .int j] ∧ Q (.int (if j > i then j else i)) H) ∨ rMax C.K xs H Q) maxD := by
  intro B hB σ ρ st H xs as c Q rel rx e q
  subst hB
  generalize e1 : as.map (·.1) = ds at e
  unfold maxD at e
  split at e
  · rename_i i j
    cases e
    obtain ⟨v, w, _, _, rfl, r1, r2⟩ := two_of rx e1
    obtain rfl := r1.int
    obtain rfl := r2.int
    exact .inl ⟨i, j, rfl, ansF (d := .int (if j > i then j else i)) rfl rel q⟩
  · rename_i es
    split at e
    · rename_i ns e2
      split at e
      · rename_i h0
        cases e
        obtain ⟨v, _, rfl, r1⟩ := one_of rx e1
        obtain ⟨p, vs, rfl, e3, rl⟩ := r1.lst
        obtain rfl := intsD_rep rl e2
        refine .inr ⟨p, ns, rfl, .inl (.inl e3), h0, fun m h1 h2 => ?_⟩
        have hne : ns ≠ [] := by intro z; subst z; cases h0
        obtain ⟨g1, g2⟩ := maxL_spec ns hne
        have : m = maxL ns := Int.le_antisymm (g2 m h1) (h2 _ g1)
        subst this
        exact ansF (d := .int (maxL ns)) rfl rel q
      · cases e
    · cases e
  · cases e
theorem s_min {C : RC} : CallS C (fun xs H Q => (∃ i j, xs = [.int i, .int j] ∧ Q (.int (if j < i then j else i)) H) ∨ rMin C.K xs H Q) minD := by
  intro B hB σ ρ st H xs as c Q rel rx e q
  subst hB
  generalize e1 : as.map (·.1) = ds at e
  unfold minD at e
  split at e
  · rename_i i j
    cases e
    obtain ⟨v, w, _, _, rfl, r1, r2⟩ := two_of rx e1
    obtain rfl := r1.int
    obtain rfl := r2.int
    exact .inl ⟨i, j, rfl, ansF (d := .int (if j < i then j else i)) rfl rel q⟩
  · rename_i es
    split at e
    · rename_i ns e2
      split at e
      · rename_i h0
        cases e
        obtain ⟨v, _, rfl, r1⟩ := one_of rx e1
        obtain ⟨p, vs, rfl, e3, rl⟩ := r1.lst
        obtain rfl := intsD_rep rl e2
        refine .inr ⟨p, ns, rfl, .inl (.inl e3), h0, fun m h1 h2 => ?_⟩
        have hne : ns ≠ [] := by intro z; subst z; cases h0
        obtain ⟨g1, g2⟩ := minL_spec ns hne
        have : m = minL ns := Int.le_antisymm (h2 _ g1) (g2 m h1)
        subst this
        exact ansF (d := .int (minL ns)) rfl rel q
      · cases e
    · cases e
  · cases e
def intC : DV → Option (DV × Kd)
  | .int i => some (.int i, .new)
  | .bl k => some (.int (if k then 1 else 0), .new)
  | _ => none
theorem s_int {C : RC} : CallS C (fun xs H Q => (∃ i, xs = [.int i] ∧ Q (.int i) H) ∨ ∃ k, xs = [.bl k] ∧ Q (.int (if k then 1 else 0)) H) (f1 intC) := by
  have h := calls1 (C := C) (r := fun x H Q => (∃ i, x = .int i ∧ Q (.int i) H) ∨ ∃ k, x = .bl k ∧ Q (.int (if k then 1 else 0)) H) (g := intC) ?_
  · intro B hB σ ρ st H xs as c Q rel rx e q
    obtain ⟨x, rfl, ⟨i, rfl, h⟩ | ⟨k, rfl, h⟩⟩ := h B hB σ ρ st H xs as c Q rel rx e q
    · exact .inl ⟨i, rfl, h⟩
    · exact .inr ⟨k, rfl, h⟩
  · intro B hB σ ρ st H ka x a c Q rel rx e q
    cases a <;> try (cases e; done)
    · rename_i k
      cases e
      obtain rfl := rx.bl
      exact .inr ⟨k, rfl, ansF (d := .int (if k then 1 else 0)) rfl rel q⟩
    · rename_i i
      cases e
      obtain rfl := rx.int
      exact .inl ⟨i, rfl, ansF (d := .int i) rfl rel q⟩
def boolC : DV → Option (DV × Kd)
  | .int i => some (.bl (i != 0), .new)
  | .bl k => some (.bl k, .new)
  | _ => none
theorem s_bool {C : RC} : CallS C (fun xs H Q => (∃ i, xs = [.int i] ∧ Q (.bl (i != 0)) H) ∨ ∃ k, xs = [.bl k] ∧ Q (.bl k) H) (f1 boolC) := by
  have h := calls1 (C := C) (r := fun x H Q => (∃ i, x = .int i ∧ Q (.bl (i != 0)) H) ∨ ∃ k, x = .bl k ∧ Q (.bl k) H) (g := boolC) ?_
  · intro B hB σ ρ st H xs as c Q rel rx e q
    obtain ⟨x, rfl, ⟨i, rfl, h⟩ | ⟨k, rfl, h⟩⟩ := h B hB σ ρ st H xs as c Q rel rx e q
    · exact .inl ⟨i, rfl, h⟩
    · exact .inr ⟨k, rfl, h⟩
  · intro B hB σ ρ st H ka x a c Q rel rx e q
    cases a <;> try (cases e; done)
    · rename_i k
      cases e
      obtain rfl := rx.bl
      exact .inr ⟨k, rfl, ansF (d := .bl k) rfl rel q⟩
    · rename_i i
      cases e
      obtain rfl := rx.int
      exact .inl ⟨i, rfl, ansF (d := .bl (i != 0)) rfl rel q⟩
def strC : DV → Option (DV × Kd)
  | .int i => if i.natAbs.log2 < 1920 then some (.str (toString i), .new) else none
  | .str s => some (.str s, .new)
  | _ => none
theorem s_str {C : RC} : CallS C (fun xs H Q => (∃ i, xs = [.int i] ∧ i.natAbs.log2 < 1920 ∧ Q (.str (toString i)) H) ∨ ∃ a, xs = [.str a] ∧ Q (.str a) H) (f1 strC) := by
  have h := calls1 (C := C) (r := fun x H Q => (∃ i, x = .int i ∧ i.natAbs.log2 < 1920 ∧ Q (.str (toString i)) H) ∨ ∃ a, x = .str a ∧ Q (.str a) H) (g := strC) ?_
  · intro B hB σ ρ st H xs as c Q rel rx e q
    obtain ⟨x, rfl, ⟨i, rfl, h⟩ | ⟨k, rfl, h⟩⟩ := h B hB σ ρ st H xs as c Q rel rx e q
    · exact .inl ⟨i, rfl, h⟩
    · exact .inr ⟨k, rfl, h⟩
  · intro B hB σ ρ st H ka x a c Q rel rx e q
    cases a <;> try (cases e; done)
    · rename_i i
      simp only [strC] at e
      split at e
      · rename_i hi
        cases e
        obtain rfl := rx.int
        exact .inl ⟨i, rfl, hi, ansF (d := .str (toString i)) rfl rel q⟩
      · cases e
    · rename_i s
      cases e
      obtain rfl := rx.str
      exact .inr ⟨s, rfl, ansF (d := .str s) rfl rel q⟩
def strItems (s : Str) : List DV := s.cps.toList.map fun c => DV.str ⟨#[c]⟩
def strItemsV (s : Str) : List V := s.cps.toList.map fun c => V.str ⟨#[c]⟩
theorem strItems_rep {C : RC} {ρ : List CellA} {A : Addr → Prop} {H : Hp} (s : Str) : RepL C ρ A H (strItemsV s) (strItems s) := by
  unfold strItemsV strItems
  induction s.cps.toList with
  | nil => exact .nil
  | cons c cs ih => exact .cons (.str _) ih
def listC : DV → Option (DV × Kd)
  | .str s => if s.cps.size ≤ sizeLine then some (.lst (strItems s), .new) else none
  | .lst ds => some (.lst ds, .new)
  | .tup ds => some (.lst ds, .new)
  | _ => none
def rListStr : List V → Hp → VK → Prop := fun xs H Q => ∃ s, xs = [.str s] ∧ s.cps.size ≤ sizeLine ∧ ∀ l, H l = none → Q (.ref l) (upd H l (.lst (strItemsV s)))
theorem items_vals : ∀ (cs : List Nat) (acc : List Value), acc.length = cs.length → (∀ (j : Nat) (v : Value), acc[j]? = some v → ∃ (c : Nat) (u : Tok), cs[j]? = some c ∧ v = Value.str ⟨#[c]⟩ u) → Vals (cs.map fun c => V.str ⟨#[c]⟩) acc
  | [], [], _, _ => .nil
  | [], _ :: _, h, _ => by cases h
  | _ :: _, [], h, _ => by cases h
  | c :: cs, v :: acc, h, hv => by
    refine .cons ?_ (items_vals cs acc (by simpa using h) fun j w hw => ?_)
    · obtain ⟨c', u, h1, h2⟩ := hv 0 v rfl
      cases h1
      exact ⟨u, h2⟩
    · obtain ⟨c', u, h1, h2⟩ := hv (j + 1) w (by simpa using hw)
      exact ⟨c', u, by simpa using h1, h2⟩
theorem call_listStr {X : Cx} (hc : X.calm = true) : CallR X (.type "list") rListStr := by
  intro pins s σ H xs us Q I r h
  obtain ⟨x, rfl, hz, q⟩ := h
  cases r with
  | cons r rr =>
    cases rr
    obtain ⟨t, rfl⟩ := r
    refine PySem.call_list_str (I.ok.hd hc) x t (fun h' tk acc' c' kp e it => ?_) hz
    refine ⟨.ref s.heap.objs.size, _, I.laid (t' := tk) kp (Nat.le_refl _) (show ObjOk X.prog X.w _ h' _ (.lst (strItemsV x)) from ⟨by simpa [strItemsV] using hz, acc'.toList, c', ?_, by simpa using e⟩), rfl, q _ (I.hok.fresh (Nat.le_refl _))⟩
    refine items_vals x.cps.toList acc'.toList (by simpa using it.1) fun j v hv => ?_
    obtain ⟨c, u, h1, h2⟩ := it.2 j v (by rw [← Array.getElem?_toList]; exact hv)
    exact ⟨c, u, by rw [Array.getElem?_toList]; exact h1, h2⟩
def rListOf (K : PySem.W.Frag) : List V → Hp → VK → Prop := fun xs H Q => ∃ p ys, xs = [.ref p] ∧ (SqL K H p ys ∨ SqT K H p ys) ∧ ∀ l, H l = none → Q (.ref l) (upd H l (.lst ys))
theorem s_list {C : RC} : CallS C (fun xs H Q => rListOf C.K xs H Q ∨ rListStr xs H Q) (f1 listC) := by
  have h := calls1 (C := C) (r := fun x H Q => rListOf C.K [x] H Q ∨ rListStr [x] H Q) (g := listC) ?_
  · intro B hB σ ρ st H xs as c Q rel rx e q
    obtain ⟨x, rfl, h⟩ := h B hB σ ρ st H xs as c Q rel rx e q
    exact h
  · intro B hB σ ρ st H ka x a c Q rel rx e q
    subst hB
    cases a <;> try (cases e; done)
    · rename_i s
      simp only [listC] at e
      split at e
      · rename_i hs
        cases e
        obtain rfl := rx.str
        exact .inr ⟨s, rfl, hs, fun l hl => q _ _ (Step.alloc rel hl) (RepK.newLst rel hl (strItems_rep s)) fun m em => by cases em; exact hl⟩
      · cases e
    · rename_i ds
      cases e
      obtain ⟨p, vs, rfl, e1, r1⟩ := rx.lst
      exact .inl ⟨p, vs, rfl, .inl (.inl (.inl e1)), fun l hl => q _ _ (Step.alloc rel hl) (RepK.newLst rel hl r1) fun m em => by cases em; exact hl⟩
    · rename_i ds
      cases e
      obtain ⟨p, vs, rfl, e1, r1⟩ := rx.tup
      exact .inl ⟨p, vs, rfl, .inr e1, fun l hl => q _ _ (Step.alloc rel hl) (RepK.newLst rel hl r1) fun m em => by cases em; exact hl⟩
def tupleC : DV → Option (DV × Kd)
  | .lst ds => some (.tup ds, .fro)
  | .tup ds => some (.tup ds, .fro)
  | _ => none
theorem s_tuple {C : RC} : CallS C (fun xs H Q => ∃ p ys, xs = [.ref p] ∧ ((SqL C.K H p ys ∧ ∀ l, H l = none → Q (.ref l) (upd H l (.tup ys))) ∨ (SqT C.K H p ys ∧ Q (.ref p) H))) (f1 tupleC) := by
  have h := calls1 (C := C) (r := fun x H Q => ∃ p ys, x = .ref p ∧ ((SqL C.K H p ys ∧ ∀ l, H l = none → Q (.ref l) (upd H l (.tup ys))) ∨ (SqT C.K H p ys ∧ Q (.ref p) H))) (g := tupleC) ?_
  · intro B hB σ ρ st H xs as c Q rel rx e q
    obtain ⟨x, rfl, p, ys, rfl, h⟩ := h B hB σ ρ st H xs as c Q rel rx e q
    exact ⟨p, ys, rfl, h⟩
  · intro B hB σ ρ st H ka x a c Q rel rx e q
    subst hB
    cases a <;> try (cases e; done)
    · rename_i ds
      cases e
      obtain ⟨p, vs, rfl, e1, r1⟩ := rx.lst
      exact ⟨p, vs, rfl, .inl ⟨.inl (.inl e1), fun l hl => q _ _ (Step.alloc rel hl) (Rep.newTup rel hl r1) trivial⟩⟩
    · rename_i ds
      cases e
      have wx := Rep.ofSqt (C := B.C) (A := Av ρ B.O st σ) rx
      obtain ⟨p, vs, rfl, e1, r1⟩ := rx.tup
      exact ⟨p, vs, rfl, .inr ⟨e1, q _ _ (.refl rel) wx trivial⟩⟩

/-! ### repr -/
def reprD : DV → Option (DV × Kd)
  | .dct [] [] => some (.str "{}", .new)
  | d => match toP d with
    | some p => if p.showable && decide (p.shown.length ≤ sizeLine) && decide (p.depth ≤ 64) then some (.str p.shown, .new) else none
    | none => none
theorem reprD_eq {d : DV} (h : toP d ≠ none) : reprD d = match toP d with
    | some p => if p.showable && decide (p.shown.length ≤ sizeLine) && decide (p.depth ≤ 64) then some (.str p.shown, .new) else none
    | none => none := by
  unfold reprD
  split
  · exact absurd rfl h
  · rfl
end D

/-! D: repr, isinstance, the call of a built-in by its name. -/
namespace D
open PySem L2 PyProof.Rows

/-! ### repr -/
mutual
theorem toP_noDict : ∀ (d : DV) (p : PyData), toP d = some p → p.hasDict = false
  | .non, p, h => by cases h; rfl
  | .bl b, p, h => by cases h; rfl
  | .int i, p, h => by cases h; rfl
  | .str s, p, h => by cases h; rfl
  | .lst ds, p, h => by
    cases e : toPs ds with
    | none => simp [toP, e] at h
    | some ps => simp [toP, e] at h; subst h; rw [PyData.hasDict]; exact toPs_noDict ds ps e
  | .tup ds, p, h => by
    cases e : toPs ds with
    | none => simp [toP, e] at h
    | some ps => simp [toP, e] at h; subst h; rw [PyData.hasDict]; exact toPs_noDict ds ps e
  | .dct _ _, p, h => by cases h
  | .set _, p, h => by cases h
  | .ins _ _ _, p, h => by cases h
  | .exc _ _ _, p, h => by cases h
  | .scr _, p, h => by cases h
  | .cel _, p, h => by cases h
  | .ty _, p, h => by cases h
  | .cls _, p, h => by cases h
theorem toPs_noDict : ∀ (ds : List DV) (ps : List PyData), toPs ds = some ps → PyData.hasDictAll ps = false
  | [], ps, h => by cases h; rfl
  | d :: ds, ps, h => by
    cases e1 : toP d with
    | none => simp [toPs, e1] at h
    | some p =>
      cases e2 : toPs ds with
      | none => simp [toPs, e1, e2] at h
      | some qs =>
        simp [toPs, e1, e2] at h
        subst h
        rw [PyData.hasDictAll, toP_noDict d p e1, toPs_noDict ds qs e2]
        rfl
end
def rRepr (K : PySem.W.Frag) : List V → Hp → VK → Prop := fun xs H Q => ∃ x p, xs = [x] ∧ Dp K H x p ∧ p.hasDict = false ∧ p.showable = true ∧ p.shown.length ≤ sizeLine ∧ p.depth ≤ 64 ∧ Q (.str p.shown) H
theorem call_repr0 {X : Cx} (hg : X.A.guards = some []) (hu : X.A.units + 65 < cLine) : CallR X (.builtin "repr") (rRepr X.K) := by
  intro pins s σ H xs us Q I r h
  obtain ⟨x, p, rfl, dp, hd, hs, hl, hdp, q⟩ := h
  obtain ⟨u, rfl, ru⟩ := vals1 r
  cases dp with
  | non =>
    cases ru
    exact P.repr_of_none ⟨.str _, H, I.tok _, ⟨_, rfl⟩, q⟩
  | bl b =>
    cases ru
    exact P.repr_of_bool ⟨.str _, H, I.tok _, ⟨_, rfl⟩, q⟩
  | int i =>
    obtain ⟨t, rfl⟩ := ru
    exact P.repr_of_int (of_decide_eq_true hs) ⟨.str _, H, I.tok _, ⟨_, rfl⟩, q⟩
  | str z =>
    obtain ⟨t, rfl⟩ := ru
    exact P.repr_of_str ⟨.str _, H, I.tok _, ⟨_, rfl⟩, q⟩ hl
  | lst h1 h2 =>
    obtain ⟨as, rd⟩ := Dp.reads I _ _ u (.lst h1 h2) ru
    cases ru
    exact repr_of_reads' rd hs (PyData.noDict_hsm hd) hg (by omega) (fun _ _ e => e) (fun h' v tk hk => ⟨.str _, H, I.kept (t' := tk) hk, ⟨_, rfl⟩, q⟩) hl
  | tup h1 h2 =>
    obtain ⟨as, rd⟩ := Dp.reads I _ _ u (.tup h1 h2) ru
    cases ru
    exact repr_of_reads' rd hs (PyData.noDict_hsm hd) hg (by omega) (fun _ _ e => e) (fun h' v tk hk => ⟨.str _, H, I.kept (t' := tk) hk, ⟨_, rfl⟩, q⟩) hl
/-- the same, and an empty dict -/
def rReprE (K : PySem.W.Frag) : List V → Hp → VK → Prop := fun xs H Q => (∃ x p, xs = [x] ∧ Dp K H x p ∧ p.hasDict = false ∧ p.showable = true ∧ p.shown.length ≤ sizeLine ∧ p.depth ≤ 64 ∧ Q (.str p.shown) H) ∨ ∃ a, xs = [.ref a] ∧ Rd H a (.dK []) ∧ Q (.str "{}") H
theorem call_repr {X : Cx} (hg : X.A.guards = some []) (hu : X.A.units + 65 < cLine) : CallR X (.builtin "repr") (rReprE X.K) := by
  intro pins s σ H xs us Q I r h
  rcases h with h | ⟨a, rfl, hr, q⟩
  · exact call_repr0 hg hu _ _ _ _ _ _ _ I r h
  · obtain ⟨u, rfl, ru⟩ := vals1 r
    cases ru
    obtain ⟨_, hsys, vs, kv, o, es, ep, e1, e2, e3, _, e4, _⟩ := dk_rd I.hok hr
    have hvs : vs = [] := by cases kv; rfl
    subst hvs
    have hes : es.toList = [] := by cases h4 : es.toList with
      | nil => rfl
      | cons x r => rw [h4] at e4; cases e4
    have rd : Reads s.heap (.ref a) (.dict []) (a :: [] ++ []) := Reads.dict e1 e2.1 e3 (by rw [hes]; exact .nil) (by rw [hes]; exact .nil)
    exact repr_of_reads' rd rfl (fun _ hm => by
      rw [List.append_nil, List.mem_singleton] at hm
      rw [← hm] at hsys
      simp at hsys) hg (by show X.A.units + (1 + 1) < cLine; omega) (fun _ _ e => e) (fun h' v tk hk => ⟨.str _, H, I.kept (t' := tk) hk, ⟨_, rfl⟩, q⟩) (by decide +kernel)
theorem s_repr {C : RC} : CallS C (rReprE C.K) (f1 reprD) := by
  have h := calls1 (C := C) (r := fun x H Q => (∃ p, Dp C.K H x p ∧ p.hasDict = false ∧ p.showable = true ∧ p.shown.length ≤ sizeLine ∧ p.depth ≤ 64 ∧ Q (.str p.shown) H) ∨ ∃ a, x = .ref a ∧ Rd H a (.dK []) ∧ Q (.str "{}") H) (g := reprD) ?_
  · intro B hB σ ρ st H xs as c Q rel rx e q
    obtain ⟨x, rfl, h⟩ := h B hB σ ρ st H xs as c Q rel rx e q
    rcases h with ⟨p, h⟩ | ⟨a, rfl, h⟩
    · exact .inl ⟨x, p, rfl, h⟩
    · exact .inr ⟨a, rfl, h⟩
  · intro B hB σ ρ st H ka x a c Q rel rx e q
    subst hB
    unfold reprD at e
    split at e
    · cases e
      obtain ⟨p, vs, rfl, hr, _⟩ := rx.dct
      exact .inr ⟨p, rfl, .inl hr, ansF (d := .str "{}") rfl rel q⟩
    · split at e
      · rename_i p hp
        split at e
        · rename_i hc
          cases e
          rw [Bool.and_eq_true, Bool.and_eq_true, decide_eq_true_iff, decide_eq_true_iff] at hc
          exact .inl ⟨p, rx.dp hp, toP_noDict a p hp, hc.1.1, hc.1.2, hc.2, ansF (d := .str p.shown) rfl rel q⟩
        · cases e
      · cases e

/-! ### isinstance -/
def tyName : DV → Option String
  | .non => some "NoneType" | .bl _ => some "bool" | .int _ => some "int" | .str _ => some "str" | .lst _ => some "list" | .tup _ => some "tuple" | .dct _ _ => some "dict" | .scr _ => some "list" | _ => none
def kinds : List String := ["NoneType", "bool", "int", "str", "list", "tuple", "dict"]
def tested : List String := ["int", "bool", "str", "list", "tuple", "dict", "ValueError"]
def isiTab (m n : String) : Option Bool := if tested.contains n then some (m == n || (m == "bool" && n == "int")) else none
theorem isiTab_ok : ∀ m ∈ kinds, ∀ n ∈ tested, kitB m n = some (m == n || (m == "bool" && n == "int")) := by decide +kernel
theorem tyName_in {d : DV} {m : String} (h : tyName d = some m) : m ∈ kinds := by
  cases d <;> first | (cases h; done) | (cases h; decide)
/-- the own classes: plain ones, exceptions, which exception class is below which -/
structure CT where
  ins : List Nat
  ex : List Nat
  sub : Nat → Nat → Bool
  pl : List Nat
  fi : List (Nat × Str)
  fe : List (Nat × Str)
/-- what isinstance asks of the own classes -/
structure KitC (C : RC) (ct : CT) : Prop where
  cls : ∀ c ∈ ct.ins, Cls C.K (C.cls c)
  ha : ∀ c ∈ ct.ins ++ ct.ex, PySem.W.findIn C.K (.ref (C.cls c)) "__class__" = some (some (.builtin "object.__class__"))
  hn : ∀ c ∈ ct.ins ++ ct.ex, PySem.W.specialIn C.K (.builtin "object.__class__") "__get__" = some (some (.builtin "getset_descriptor.__get__"))
  tk : ∀ c ∈ ct.ins ++ ct.ex, PySem.W.takesIn C.K (.builtin "object.__class__") = some true
  mr : ∀ c ∈ ct.ins ++ ct.ex, PySem.W.mroIn C.K (C.cls c) (.type "object") = some true
  tc : ∀ c ∈ ct.ins ++ ct.ex, ∀ T ∈ kinds, PySem.W.kitOne C.K (.type T) (.ref (C.cls c)) = some false
  tt : ∀ c ∈ ct.ins ++ ct.ex, ∀ T ∈ tested, PySem.W.kitOne C.K (.ref (C.cls c)) (.type T) = some (decide (T = "ValueError") && ct.ex.contains c)
  cc : ∀ c ∈ ct.ins, ∀ c' ∈ ct.ins, PySem.W.kitOne C.K (.ref (C.cls c)) (.ref (C.cls c')) = some (decide (c = c'))
  ce : ∀ c ∈ ct.ins, ∀ c' ∈ ct.ex, PySem.W.kitOne C.K (.ref (C.cls c)) (.ref (C.cls c')) = some false
  ec : ∀ c ∈ ct.ex, ∀ c' ∈ ct.ins, PySem.W.kitOne C.K (.ref (C.cls c)) (.ref (C.cls c')) = some false
  ee : ∀ c ∈ ct.ex, ∀ c' ∈ ct.ex, PySem.W.kitOne C.K (.ref (C.cls c)) (.ref (C.cls c')) = some (ct.sub c c')
  ek : ∀ c ∈ ct.ex, ∀ c' ∈ ct.ex, PySem.W.exmOne C.K (.ref (C.cls c)) (.ref (C.cls c')) = some (ct.sub c c')
  xs : ∀ c ∈ ct.ex, (PySem.W.clsIn C.K (C.cls c)).isSome = true
  xa : ∀ c ∈ ct.ex, PySem.W.findIn C.K (.ref (C.cls c)) "__getattribute__" = some (some (.builtin "BaseException.__getattribute__"))
  xg : ∀ c ∈ ct.ex, PySem.W.findIn C.K (.ref (C.cls c)) "__getattr__" = some none
  xb : ∀ c ∈ ct.ex, PySem.W.subIn C.K (.ref (C.cls c)) (.type "BaseException") = some true
  xd : ∀ c ∈ ct.ex, PySem.W.hasDictIn C.K (C.cls c) = true
  xt : ∀ c ∈ ct.ex, PySem.W.typeIn C.K (.ref (C.cls c)) = some (.type "type")
  xk : ∀ c ∈ ct.ex, PySem.W.keepIn C.K (.ref (C.cls c)) = true
  xq : ∀ c ∈ ct.pl, c ∈ ct.ex ∧ PySem.W.excIn C.K (C.cls c) [.type "ValueError", .type "Exception", .type "BaseException", .type "object"] "ValueError.__new__" = true
  nf : ∀ p ∈ ct.fi, p.1 ∈ ct.ins ∧ NoAttr C.K (C.cls p.1) p.2
  nx : ∀ p ∈ ct.fe, p.1 ∈ ct.ex ∧ PySem.W.findIn C.K (.ref (C.cls p.1)) p.2 = some none
/-- the number of an own class's thing -/
def ownN : DV → Option Nat
  | .ins c _ _ => some c
  | .exc c _ _ => some c
  | _ => none
/-- the class's number, told by its list -/
def ownOf (ct : CT) : DV → Option Nat
  | .ins c _ _ => if ct.ins.contains c then some c else none
  | .exc c _ _ => if ct.ex.contains c then some c else none
  | _ => none
/-- one class: a type, an own class -/
def isi1 (ct : CT) (d : DV) : DV → Option Bool
  | .ty n => if tested.contains n then (match ownOf ct d with
    | some c => some (decide (n = "ValueError") && ct.ex.contains c)
    | none => match tyName d with
      | some m => isiTab m n
      | none => none) else none
  | .cls k => if (ct.ins ++ ct.ex).contains k then (match ownOf ct d with
    | some c => (match ct.ex.contains c, ct.ex.contains k with
      | true, true => some (ct.sub c k)
      | true, false => some false
      | false, true => some false
      | false, false => some (decide (c = k)))
    | none => (tyName d).map fun _ => false) else none
  | _ => none
def isiAny (ct : CT) (d : DV) : List DV → Option Bool
  | [] => some false
  | t :: ts => match isi1 ct d t with
    | some true => some true
    | some false => isiAny ct d ts
    | none => none
/-- the type's value of a deep value -/
def tyV' (C : RC) (d : DV) : Value := match ownN d with
  | some c => .ref (C.cls c)
  | none => match tyName d with
    | some m => .type m
    | none => .none
def clsV (C : RC) : DV → Value
  | .ty n => .type n
  | .cls k => .ref (C.cls k)
  | _ => .none
section
variable {C : RC} {ct : CT}
theorem ownOf_in {d : DV} {c : Nat} (h : ownOf ct d = some c) : ownN d = some c ∧ c ∈ ct.ins ++ ct.ex := by
  cases d <;> try (cases h; done)
  · simp only [ownOf] at h
    split at h
    · rename_i hc; cases h; exact ⟨rfl, List.mem_append_left _ (List.contains_iff_mem.mp hc)⟩
    · cases h
  · simp only [ownOf] at h
    split at h
    · rename_i hc; cases h; exact ⟨rfl, List.mem_append_right _ (List.contains_iff_mem.mp hc)⟩
    · cases h
theorem tyV_own {d : DV} {c : Nat} (h : ownOf ct d = some c) : tyV' C d = .ref (C.cls c) := by unfold tyV'; rw [(ownOf_in h).1]
theorem tyV_ty {d : DV} {m : String} (h : tyName d = some m) : tyV' C d = .type m := by
  have e : ownN d = none := by cases d <;> first | rfl | cases h
  unfold tyV'; rw [e]; simp only [h]
theorem notEx {c : Nat} (h : c ∈ ct.ins ++ ct.ex) (hx : ct.ex.contains c = false) : c ∈ ct.ins := by
  rcases List.mem_append.mp h with z | z
  · exact z
  · rw [List.contains_iff_mem.mpr z] at hx; cases hx
theorem isi1_ok (kc : KitC C ct) {d t : DV} {k : Bool} (h : isi1 ct d t = some k) : PySem.W.kitOne C.K (tyV' C d) (clsV C t) = some k := by
  unfold isi1 at h
  split at h
  · rename_i n
    split at h
    · rename_i hn
      rw [List.contains_iff_mem] at hn
      cases ho : ownOf ct d with
      | some c =>
        rw [ho] at h
        cases h
        rw [tyV_own ho]
        exact kc.tt c (ownOf_in ho).2 n hn
      | none =>
        rw [ho] at h
        dsimp only at h
        cases hm : tyName d with
        | none => rw [hm] at h; cases h
        | some m =>
          rw [hm] at h
          dsimp only at h
          unfold isiTab at h
          rw [if_pos (List.contains_iff_mem.mpr hn)] at h
          cases h
          rw [tyV_ty hm]
          exact kit_ty (isiTab_ok m (tyName_in hm) n hn)
    · cases h
  · rename_i k'
    split at h
    · rename_i hk
      rw [List.contains_iff_mem] at hk
      cases ho : ownOf ct d with
      | some c =>
        rw [ho] at h
        rw [tyV_own ho]
        have hc := (ownOf_in ho).2
        dsimp only at h
        cases h1 : ct.ex.contains c <;> cases h2 : ct.ex.contains k' <;> rw [h1, h2] at h <;> cases h
        · exact kc.cc c (notEx hc h1) k' (notEx hk h2)
        · exact kc.ce c (notEx hc h1) k' (List.contains_iff_mem.mp h2)
        · exact kc.ec c (List.contains_iff_mem.mp h1) k' (notEx hk h2)
        · exact kc.ee c (List.contains_iff_mem.mp h1) k' (List.contains_iff_mem.mp h2)
      | none =>
        rw [ho] at h
        dsimp only at h
        cases hm : tyName d with
        | none => rw [hm] at h; cases h
        | some m =>
          rw [hm] at h
          cases h
          rw [tyV_ty hm]
          exact kc.tc k' hk m (tyName_in hm)
    · cases h
  · cases h
theorem isiAny_ok (kc : KitC C ct) {d : DV} {k : Bool} : ∀ {ts : List DV}, isiAny ct d ts = some k → PySem.W.kitAny C.K (tyV' C d) (ts.map (clsV C)) = some k
  | [], h => by cases h; rfl
  | t :: ts, h => by
    unfold isiAny at h
    rw [List.map_cons]
    unfold PySem.W.kitAny
    cases e : isi1 ct d t with
    | none => rw [e] at h; cases h
    | some b =>
      rw [e] at h
      rw [isi1_ok kc e]
      cases b with
      | true => exact h
      | false => exact isiAny_ok kc h
/-- a thing that isinstance answers for -/
def isiable (ct : CT) (d : DV) : Bool := (ownOf ct d).isSome || (tyName d).isSome
theorem isi1_able {d t : DV} {k : Bool} (h : isi1 ct d t = some k) : isiable ct d = true := by
  unfold isi1 at h
  unfold isiable
  split at h
  · split at h
    · cases ho : ownOf ct d with
      | some c => rfl
      | none =>
        rw [ho] at h
        cases hm : tyName d with
        | some m => rfl
        | none => rw [hm] at h; cases h
    · cases h
  · split at h
    · cases ho : ownOf ct d with
      | some c => rfl
      | none =>
        rw [ho] at h
        cases hm : tyName d with
        | some m => rfl
        | none => rw [hm] at h; cases h
    · cases h
  · cases h
/-- what isinstance asks a value -/
inductive TyZ (C : RC) (ct : CT) (H : Hp) : V → Value → Prop where
  | base {x : V} {t : Value} (h : TyX C.K H x t) : TyZ C ct H x t
  | exc {a : Addr} {c : Nat} {d : Option Addr} (e : H a = some (XO (.ref (C.cls c)) d a)) (hd : d = none ∨ ∃ dd fs, d = some dd ∧ H dd = some (.xd fs)) (hc : c ∈ ct.ex) : TyZ C ct H (.ref a) (.ref (C.cls c))
theorem kit_ofZ {X : Cx} {pins : List (Addr × Obj)} {σ : L2.St} {H : Hp} {s : Shared} {x : V} {u t : Value} (hC : C.K = X.K) (kc : KitC C ct) (I : L2.Inv X pins σ H s) (rx : RelV x u) (ty : TyZ C ct H x t) :
    ∃ P : Heap → Prop, PySem.W.KitX X.K u t P ∧ P s.heap ∧ u ≠ .builtin "__main__.__loader__#opaque" := by
  cases ty with
  | base h => rw [hC] at h; exact kit_of I rx h
  | @exc a c d e hd hc =>
    cases (show u = Value.ref a from rx)
    obtain ⟨⟨oe, vs, h1, hz, h2⟩, _, _⟩ := I.hok a _ e
    have hc' := List.mem_append_right ct.ins hc
    have no : PySem.W.notCls oe = true := by unfold PySem.W.notCls; rw [h2]
    have k : ∀ od, PySem.W.KitX X.K (.ref a) (.ref (C.cls c)) (fun h => PySem.W.InstAt h a oe (C.cls c) od) := fun od => PySem.W.kitx_exc (by rw [← hC]; exact kc.xs c hc) (by rw [← hC]; exact kc.xa c hc) (by rw [← hC]; exact kc.xg c hc) (by rw [← hC]; exact kc.xb c hc) (by rw [← hC]; exact kc.ha c hc') (by rw [← hC]; exact kc.hn c hc') (by rw [← hC]; exact kc.tk c hc') (by rw [← hC]; exact kc.mr c hc')
    rcases hd with rfl | ⟨dd, fs, rfl, hx⟩
    · exact ⟨_, k none, ⟨h1, hz.1, no, by rw [hz.2]; trivial⟩, fun z => nomatch z⟩
    · obtain ⟨mA, hns, _⟩ := I.hok dd _ hx
      obtain ⟨od, ho, _⟩ := lookIn_ns hns
      exact ⟨_, k (some od), ⟨h1, hz.1, no, by rw [hz.2]; exact ho⟩, fun z => nomatch z⟩
/-- isinstance by classes: one, a new tuple of them, a written one -/
def rIsZ (C : RC) (ct : CT) : List V → Hp → VK → Prop := fun xs H Q => ∃ (x y : V) (t : Value) (b : Bool), xs = [x, y] ∧ TyZ C ct H x t ∧ Q (.bl b) H ∧
  ((∃ u, ClsV y u ∧ PySem.W.kitOne C.K t u = some b) ∨ (∃ tp cs us, y = .ref tp ∧ H tp = some (.tup cs) ∧ Paired ClsV cs us ∧ PySem.W.kitAny C.K t us = some b) ∨
    ∃ tp dd us n sl, y = .ref tp ∧ C.K.lookup tp = some ⟨.type "tuple", dd, .seq (List.toArray us) n, sl⟩ ∧ PySem.W.kitAny C.K t us = some b)
theorem call_isZ {X : Cx} (hC : C.K = X.K) (kc : KitC C ct) : CallR X (.builtin "isinstance") (rIsZ C ct) := fun pins s σ H xs us Q I r h => by
  obtain ⟨x, y, t, b, rfl, ty, q, h⟩ := h
  obtain ⟨u1, u2, rfl, r1, r2⟩ := vals2 r
  obtain ⟨P, Z, p, hx⟩ := kit_ofZ hC kc I r1 ty
  have done : ∀ tk, EP X pins σ Q (.bool b) { s with toks := tk } := fun tk => ⟨.bl b, H, I.tok tk, rfl, q⟩
  rcases h with ⟨u, k, e⟩ | ⟨tp, cs, ws, rfl, hT, k, e⟩ | ⟨tp, dd, ws, n, sl, rfl, hk, e⟩
  · obtain rfl := k.eq r2
    rw [hC] at e
    exact PySem.W.kia_one Z I.kIn p e hx done
  · cases (show u2 = Value.ref tp from r2)
    obtain ⟨_, its, rv, ⟨oc, od, dt, sl⟩, h1, h2, n, h3⟩ := (show ObjOk X.prog X.w H s.heap tp (.tup cs) from I.hok tp _ hT)
    obtain rfl := ClsV.all k rv
    dsimp only at h2 h3
    subst h2 h3
    rw [hC] at e
    exact PySem.W.kia_tup Z I.kIn p h1 e hx done
  · cases (show u2 = Value.ref tp from r2)
    rw [hC] at e hk
    exact PySem.W.kia_tup Z I.kIn p (I.kIn _ _ hk) e hx done
theorem tyx_scr {ρ : List CellA} {A : Addr → Prop} {H : Hp} {x : V} {ns : List Int} (r : Rep C ρ A H x (.scr ns)) : TyX C.K H x (.type "list") := by
  cases r with
  | scr n e => exact .base (.frz e)
  | kscr k =>
    obtain ⟨o, its, n, e1, e2, _⟩ := k
    exact .kList e1 e2
theorem tyx_of {B : BC} (hB : B.C = C) (kc : KitC C ct) {σ : L2.St} {ρ : List CellA} {st : DS} {H : Hp} {kd : Kd} {x : V} {d : DV} (h : isiable ct d = true) (r : RepK B ρ st σ H kd x d) : TyZ C ct H x (tyV' C d) := by
  subst hB
  cases d <;> try (cases h; done)
  · obtain rfl := r.non; exact .base (.base .non)
  · obtain rfl := r.bl; exact .base (.base (.bl _))
  · obtain rfl := r.int; exact .base (.base (.int _))
  · obtain rfl := r.str; exact .base (.base (.str _))
  · obtain ⟨p, vs, rfl, e, _⟩ := r.lst; exact .base (.base (.lst e))
  · obtain ⟨p, vs, rfl, e, _⟩ := r.tup
    rcases e with (e | ⟨o, e⟩) | ⟨o, its, n, e1, e2, _⟩
    · exact .base (.base (.tup e))
    · exact .base (.fTuple e)
    · exact .base (.kTuple e1 e2)
  · obtain ⟨p, vs, rfl, e, _⟩ := r.dct; exact .base (.base (.dK e))
  · rename_i c ns vs
    obtain ⟨p, dx, xs, rfl, e, _⟩ := r.ins
    have hc : c ∈ ct.ins := by
      simp only [isiable, ownOf, tyName] at h
      split at h
      · rename_i z; exact List.contains_iff_mem.mp z
      · cases h
    have hc' := List.mem_append_left ct.ex hc
    exact .base (.base (.ins e (kc.cls c hc) (kc.ha c hc') (kc.hn c hc') (kc.tk c hc') (kc.mr c hc')))
  · rename_i c ns vs
    have hc : c ∈ ct.ex := by
      simp only [isiable, ownOf, tyName] at h
      split at h
      · rename_i z; exact List.contains_iff_mem.mp z
      · cases h
    have r' : Rep B.C ρ (Av ρ B.O st σ) H x (.exc c ns vs) := by
      cases kd with
      | view i => obtain ⟨p, rfl, _, c, _⟩ := r; cases c
      | fro => exact r
      | new => exact r.1
    cases r' with
    | exc n e n2 e2 l r => exact .exc e (.inr ⟨_, _, rfl, e2⟩) hc
    | exc0 n e => exact .exc e (.inl rfl) hc
  · cases kd with
    | view i => obtain ⟨p, rfl, _, c, _⟩ := r; cases c
    | fro => exact .base (tyx_scr (show Rep _ _ _ _ _ _ from r))
    | new => exact .base (tyx_scr (show Rep _ _ _ _ _ _ from r.1))
theorem clsv_of {ρ : List CellA} {A : Addr → Prop} {H : Hp} {v : V} {t : DV} (h : ∃ d k, isi1 ct d t = some k) (r : Rep C ρ A H v t) : ClsV v (clsV C t) := by
  obtain ⟨d, k, h⟩ := h
  cases t <;> try (cases h; done)
  · cases r; exact .ty _
  · cases r; exact .own _
end
theorem clsvs_of {C : RC} {ct : CT} {ρ : List CellA} {A : Addr → Prop} {H : Hp} : ∀ {vs : List V} {ts : List DV}, RepL C ρ A H vs ts → (∀ t ∈ ts, ∃ d k, isi1 ct d t = some k) → Paired ClsV vs (ts.map (clsV C))
  | _, _, .nil, _ => .nil
  | _, _, .cons r t, h => .cons (clsv_of (h _ List.mem_cons_self) r) (clsvs_of t fun u hu => h u (List.mem_cons_of_mem _ hu))
def isCls (ct : CT) : DV → Bool
  | .ty n => tested.contains n
  | .cls k => (ct.ins ++ ct.ex).contains k
  | _ => false
theorem isCls_ok {ct : CT} {t : DV} (h : isCls ct t = true) : ∃ d k, isi1 ct d t = some k := by
  cases t <;> try (cases h; done)
  · rename_i n
    refine ⟨.non, ("NoneType" == n || ("NoneType" == "bool" && n == "int")), ?_⟩
    have h : tested.contains n = true := h
    simp only [isi1, h, if_true, ownOf, tyName, isiTab]
  · rename_i k
    refine ⟨.non, false, ?_⟩
    have h : (ct.ins ++ ct.ex).contains k = true := h
    simp only [isi1, h, if_true, ownOf, tyName, Option.map_some]
/-- isinstance(a, t) -/
def isiR (ct : CT) (a t : DV) : Option (DV × Kd) := match t with
  | .tup ts => if ts.all (isCls ct) && isiable ct a then (isiAny ct a ts).map fun k => (.bl k, .new) else none
  | t => (isi1 ct a t).map fun k => (.bl k, .new)
theorem s_isi {C : RC} {ct : CT} (kc : KitC C ct) : CallS C (rIsZ C ct) (f2 (isiR ct)) := by
  have h := calls2 (C := C) (r := fun x y H Q => rIsZ C ct [x, y] H Q) (g := isiR ct) ?_
  · intro B hB σ ρ st H xs as c Q rel rx e q
    obtain ⟨x, y, rfl, h⟩ := h B hB σ ρ st H xs as c Q rel rx e q
    exact h
  · intro B hB σ ρ st H ka kb x y a t c Q rel rx ry e q
    by_cases ht : ∃ ts, t = .tup ts
    · obtain ⟨ts, rfl⟩ := ht
      simp only [isiR] at e
      split at e
      · rename_i hc
        rw [Bool.and_eq_true] at hc
        cases h : isiAny ct a ts with
        | none => rw [h] at e; cases e
        | some k =>
          rw [h] at e
          cases e
          subst hB
          have hall : ∀ t ∈ ts, ∃ d k, isi1 ct d t = some k := fun t ht => isCls_ok (List.all_eq_true.mp hc.1 t ht)
          have rt := Rep.ofSqt (C := B.C) (A := Av ρ B.O st σ) ry
          refine ⟨x, y, _, k, rfl, tyx_of rfl kc hc.2 rx, ansF (d := .bl k) rfl rel q, .inr ?_⟩
          cases rt with
          | @tup p xs _ n e2 r2 => exact .inl ⟨p, xs, _, rfl, e2, clsvs_of r2 hall, isiAny_ok kc h⟩
          | @ktup p xs _ hk r2 =>
            obtain ⟨⟨oc, od, dt, sl⟩, its, n, h1, h2, h3, h4, h5⟩ := hk
            have e5 : its.toList = ts.map (clsV B.C) := ClsV.all (clsvs_of r2 hall) h5
            dsimp only at h2 h3
            subst h2 h3
            refine .inr ⟨p, od, ts.map (clsV B.C), n, sl, rfl, ?_, isiAny_ok kc h⟩
            rw [← e5]
            exact h1
      · cases e
    · have e' : (isi1 ct a t).map (fun k => (DV.bl k, Kd.new)) = some c := by cases t <;> first | exact e | exact absurd ⟨_, rfl⟩ ht
      clear e
      cases h : isi1 ct a t with
      | none => rw [h] at e'; cases e'
      | some k =>
        rw [h] at e'
        cases e'
        have rt : Rep B.C ρ (Av ρ B.O st σ) H y t := by
          cases kb with
          | fro => exact ry
          | new => exact ry.1
          | view i => obtain ⟨p, rfl, _, c, _⟩ := ry; cases t <;> first | (cases h; done) | cases c
        subst hB
        exact ⟨x, y, _, k, rfl, tyx_of rfl kc (isi1_able h) rx, ansF (d := .bl k) rfl rel q, .inl ⟨_, clsv_of ⟨a, k, h⟩ rt, isi1_ok kc h⟩⟩

/-! ### by name -/
def Blt.run (ct : CT) : Blt → OpN
  | .len => f1 lenD | .abs => f1 absD | .ord => f1 ordD | .isinstance => f2 (isiR ct) | .all => f1 allD | .any => f1 anyD | .sum => f1 sumD | .max => maxD | .min => minD | .repr => f1 reprD
  | .int => f1 intC | .bool => f1 boolC | .str => f1 strC | .list => f1 listC | .tuple => f1 tupleC
theorem Blt.ok {X : Cx} {C : RC} {ct : CT} (hC : C.K = X.K) (kc : KitC C ct) (hc : X.calm = true) (hg : X.A.guards = some []) (hu : X.A.units + 65 < cLine) (b : Blt) : ∃ r, CallR X b.val r ∧ CallS C r (b.run ct) := by
  cases b
  · exact ⟨_, L2.CallR.or call_len call_lenD, by rw [← hC]; exact s_len⟩
  · exact ⟨_, call_abs, s_abs⟩
  · exact ⟨_, call_ord, s_ord⟩
  · exact ⟨_, call_isZ hC kc, s_isi kc⟩
  · exact ⟨_, cr_all hc, by rw [← hC]; exact s_all⟩
  · exact ⟨_, cr_any hc, by rw [← hC]; exact s_any⟩
  · exact ⟨_, cr_sum hc, by rw [← hC]; exact s_sum⟩
  · exact ⟨_, L2.CallR.or (call_max2 hc) (cr_max hc), by rw [← hC]; exact s_max⟩
  · exact ⟨_, L2.CallR.or (call_min2 hc) (cr_min hc), by rw [← hC]; exact s_min⟩
  · exact ⟨_, call_repr hg hu, by rw [← hC]; exact s_repr⟩
  · exact ⟨_, call_int1, s_int⟩
  · exact ⟨_, call_bool1, s_bool⟩
  · exact ⟨_, L2.CallR.or call_str_int SkE.call_str_str, s_str⟩
  · exact ⟨_, L2.CallR.or call_list_of (call_listStr hc), by rw [← hC]; exact s_list⟩
  · exact ⟨_, call_tuple_of, by rw [← hC]; exact s_tuple⟩
section
variable {X : Cx} {B : BC} {W : WX} {e : Expr} {es : List Expr} {g : Ak} {pos p : Pos} {ct : CT}
theorem pd_blt (b : Blt) (hC : B.C.K = X.K) (kc : KitC B.C ct) (hc : X.calm = true) (hg : X.A.guards = some []) (hu : X.A.units + 65 < cLine) (hgl : Gl X b.name) (hm : X.mg b.name = none) (ha : PKD X B W (e :: es) g)
    (he : starEach (e :: es) X.env = (false, eval e X.env) :: starEach es X.env) (hpl : (backTo pos (starEach es X.env)).any (·.1) = false) : PD X B W (.Call (.Name b.name p) (e :: es) [] pos) (evCall (b.run ct) g) := by
  obtain ⟨r, h1, h2⟩ := b.ok hC kc hc hg hu
  have hv := b.boot
  unfold Blt.val at h1 hv
  cases ht : b.isTy with
  | true =>
    rw [ht, if_pos rfl] at h1 hv
    exact PE.mono (pe_callTy h1 hgl hm hv ha b.nn b.nd he hpl) fun _ _ _ h => tCB_of h2 h
  | false =>
    rw [ht, if_neg Bool.false_ne_true] at h1 hv
    exact PE.mono (pe_callB h1 hgl hm hv ha b.nn b.nd he hpl) fun _ _ _ h => tCB_of h2 h
end
end D

/-! D: what a def promises, its call. -/
namespace D
open PySem L2 PyProof.Rows

/-- a def as D sees it: deep arguments, the cells; its answer's state has no slots -/
abbrev Fn := List DV → DS → Out (DV × Kd)
def SpF (C : RC) (F : Fn) : Sp := fun vs H Q E => ∃ ρ cs ds O, Rel ⟨C, O, H⟩ ρ ⟨[], cs⟩ [] H ∧ RepL C ρ (Av ρ O ⟨[], cs⟩ []) H vs ds ∧
  Res ⟨C, O, H⟩ (fun cls d _ H' => E cls d H') [] ρ ⟨[], cs⟩ H (F ds ⟨[], cs⟩) fun a st' ρ' H' => st'.sl = [] ∧ ∀ v, Rep C ρ' (Av ρ' O st' []) H' v a.1 → (a.2 = .new → NewC ⟨C, O, H⟩ ρ' st' [] H' v a.1) → Fresh H a.2 v → Q v H'
/-- the promise, with the knowledge that no repr is under way -/
structure FnG (P : Program) (w : World) (K : PySem.W.Frag) (mg : Str → Option Value) (base : Heap) (k : Nat) (f : Addr) (fd : FuncData) (ps : List Str) (sp : Sp) : Prop where
  len : ∀ vs H Q E, sp vs H Q E → vs.length = ps.length
  run : ∀ (A : Around) (outer : List Env) (s : Shared) (H : Hp) (args : Args) (us : List Value) (vs : List V) (Q : VK) (E : XK), Room k A → A.guards = some [] → Env0 P w K mg base A outer s H → BindsTo s fd args (ps.zip us) → Vals vs us → sp vs H Q E →
    codeAny (model P w) A (.call (.ref f) args) (CR (L2.CX P w) outer P w H s Q E) s
theorem FnG.mono {P : Program} {w : World} {K : PySem.W.Frag} {mg : Str → Option Value} {base : Heap} {j k : Nat} {f : Addr} {fd : FuncData} {ps : List Str} {sp : Sp} (F : FnG P w K mg base j f fd ps sp) (h : j ≤ k) : FnG P w K mg base k f fd ps sp :=
  ⟨F.len, fun A outer s H args us vs Q E hr => F.run A outer s H args us vs Q E (hr.mono h)⟩
theorem FnG.of {P : Program} {w : World} {K : PySem.W.Frag} {mg : Str → Option Value} {base : Heap} {k : Nat} {f : Addr} {fd : FuncData} {ps : List Str} {sp : Sp} (F : FnOk P w K mg base (L2.CX P w) k f fd ps sp) : FnG P w K mg base k f fd ps sp :=
  ⟨F.len, fun A outer s H args us vs Q E hr _ => F.run A outer s H args us vs Q E hr⟩
theorem deeper_guards (A : Around) (env : Env) : (A.deeper env).guards = A.guards := by
  first | rfl | simp [Around.deeper]
theorem fnG_of {P : Program} {w : World} {K : PySem.W.Frag} {mg : Str → Option Value} {base : Heap} {k : Nat} {f : Addr} {name qual : Str} {params : Arguments} {body : List Stmt} {scope : Scope} {dV kV doc pm cdv ct oc : Value} {an od : Option Addr}
    {osl : Array (Option Value)} {N ps : List Str} {sp : Sp} (lk : K.lookup f = some ⟨oc, od, .func (PySem.W.fnOf name qual params body scope dV kV doc pm an cdv ct), osl⟩) (hcd : PySem.W.codeIn K cdv qual = true) (S : FnScope N ps scope)
    (len : ∀ vs H Q E, sp vs H Q E → vs.length = ps.length)
    (hbody : ∀ (A : Around) (outer : List Env) (s : Shared) (H : Hp) (vs : List V) (Q : VK) (E : XK), Room k (A.deeper (envOfC qual scope s.heap.objs.size f cdv)) → A.guards = some [] → sp vs H Q E →
      ∃ t, PSs (cxOf (L2.CX P w) P w K mg base N qual scope f cdv A outer s H E) body t ∧ t { nx := fun _ H' => Q .non H', rt := Q } (start N vs) H) :
    FnG P w K mg base (k + 1) f (PySem.W.fnOf name qual params body scope dV kV doc pm an cdv ct) ps sp := by
  refine ⟨len, fun A outer s H args us vs Q E hr hg e0 hb r hsp => ?_⟩
  have hl := len _ _ _ _ hsp
  have KX : K.In s.heap := e0.mod.kin.keeps fun b o e => (e0.bs b o e).1
  have lim : s.heap.NoLimit := e0.mod.nolimit.keeps fun b o e => (e0.bs b o e).1
  have hkind : ∀ y ∈ ps.zip us, scope.names.lookup y.1 = some .local ∨ (scope.names.lookup y.1 = some .cell ∧ ((cellsFrom (s.heap.objs.size + 1) scope.names []).lookup y.1).isSome = true) := fun ⟨n, v⟩ hy => by
    rcases S.par n (List.of_mem_zip hy).1 with q | q
    · exact .inl q
    · exact .inr ⟨q, PySem.W.cellsFrom_some _ _ _ (.inl q)⟩
  refine codeAny_call_function hr.depth (KX _ _ lk) rfl S.co S.gen rfl (PySem.W.codeRec_of KX hcd) (hb _ _ _ _ ?_)
  refine wpAny_newFunctionEnv_cells S.kind hkind fun env he s1 x => ?_
  subst he
  refine ⟨lim.keeps x.toInCall.keep, codeAny_func ?_⟩
  obtain ⟨t, ht, hq⟩ := hbody A outer s H vs Q E (hr.deeper _) hg hsp
  have I : Inv (cxOf (L2.CX P w) P w K mg base N qual scope f cdv A outer s H E) [] (start N vs) H s1 := inv_start S hr.hd e0 hl r x
  refine wpAny_mono (ht.run [] s1 (start N vs) H _ I hq) (fun fl s' hs => ?_) fun e s' hs => hs
  have fin : ∀ {σ' : L2.St} {H' : Hp} {v : V} {u : Value}, Inv (cxOf (L2.CX P w) P w K mg base N qual scope f cdv A outer s H E) [] σ' H' s' → RelV v u → Q v H' → CE outer P w H s Q u s' :=
    fun {σ' H' v u} J rv q => ⟨v, H', J.os, J.bare, J.base, J.hok, rv, q⟩
  cases fl with
  | ret u =>
    obtain ⟨v, σ', H', J, rv, q⟩ := hs
    exact fin J rv q
  | next =>
    obtain ⟨σ', H', J, q⟩ := hs
    exact fin (v := V.non) (u := Value.none) J rfl q
  | brk =>
    obtain ⟨_, _, _, q⟩ := hs
    exact False.elim q
  | cont =>
    obtain ⟨_, _, _, q⟩ := hs
    exact False.elim q

/-! ### behind a call -/
section
variable {B : BC} {σ : L2.St} {ρ ρ' : List CellA} {st : DS} {H H' : Hp} {cs' : List CellC}
theorem Step.called (rel : Rel B ρ st σ H) (pre : ρ <+: ρ') (fr : ∀ a o, H a = some o → ¬ CM ρ a → NT o → H' a = some o) (cm : ∀ a, CM ρ' a → CM ρ a ∨ H a = none) (dm : ∀ a, H a ≠ none → H' a ≠ none)
    (cel : CellsOk B.C ρ' (Av ρ' B.O ⟨st.sl, cs'⟩ σ) H' cs') (cdom : ∀ a, CM ρ' a → H' a ≠ none) (tb : LamX.Tabs B.C.T H') : Step B σ ρ st H ρ' ⟨st.sl, cs'⟩ H' := by
  have av : ∀ a, Av ρ' B.O ⟨st.sl, cs'⟩ σ a → Av ρ B.O st σ a ∨ H a = none := fun a z => by
    rcases z with z | z | z
    · exact .inl (.inl z)
    · exact (cm a z).imp (fun z => .inr (.inl z)) id
    · exact .inl (.inr (.inr z))
  have fr' : ∀ a o, H a = some o → ¬ Av ρ B.O st σ a → NT o → H' a = some o := fun a o e n => fr a o e fun z => n (.cm z)
  refine ⟨pre, ⟨rel.len, fun i d h => ?_, fun i d h => ?_, rel.dis, fun a z => dm a (rel.dom a z), fun a z => dm a (rel.odom a z), cel, cdom, tb⟩, fr, fun _ _ z => z, fun _ _ b z => ⟨b, z⟩, cm, dm⟩
  · obtain ⟨v, e, r⟩ := rel.fro i d h
    exact ⟨v, e, r.mv pre fr' av⟩
  · obtain ⟨p, e, c, n1, n2, n3⟩ := rel.own i d h
    obtain ⟨o, eo, nt⟩ := c.nt
    exact ⟨p, e, c.mv pre fr' av ((fr p o eo n1 nt).trans eo.symm), fun z => (cm p z).elim n1 fun q => (by rw [eo] at q; cases q), n2, n3⟩
end

/-! ### the arguments' views -/
def eatAll (st : DS) : List (DV × Kd) → DS
  | [] => st
  | a :: as => eatAll (st.eat a.2) as
theorem eat_cs (st : DS) (kd : Kd) : (st.eat kd).cs = st.cs := by cases kd <;> rfl
theorem eatAll_cs : ∀ (as : List (DV × Kd)) (st : DS), (eatAll st as).cs = st.cs
  | [], _ => rfl
  | a :: as, st => (eatAll_cs as (st.eat a.2)).trans (eat_cs st a.2)
section
variable {B : BC} {σ : L2.St} {ρ : List CellA} {st : DS} {H : Hp}
theorem RepKs.step {ρ1 : List CellA} {st1 : DS} {H1 : Hp} (s : Step B σ ρ st H ρ1 st1 H1) : ∀ {vs : List V} {as : List (DV × Kd)}, RepKs B ρ st σ H vs as → RepKs B ρ1 st1 σ H1 vs as
  | _, _, .nil => .nil
  | _, _, .cons r t => .cons (RepK.step s r) (RepKs.step s t)
theorem eatAll_ok : ∀ {vs : List V} {as : List (DV × Kd)} {st : DS}, Rel B ρ st σ H → RepKs B ρ st σ H vs as → Step B σ ρ st H ρ (eatAll st as) H ∧ RepL B.C ρ (Av ρ B.O (eatAll st as) σ) H vs (as.map (·.1))
  | _, _, st, rel, .nil => ⟨.refl rel, .nil⟩
  | _, _, st, rel, .cons (a := a) (as := as) r t => by
    have s1 := Step.eat rel a.2
    obtain ⟨s2, q⟩ := eatAll_ok (st := st.eat a.2) s1.rel (RepKs.step s1 t)
    exact ⟨s1.trans s2, .cons (Rep.step s2 r.eat) q⟩
end
def isDraw : CellC → Bool
  | .draw _ => true
  | .dead => true
  | .obj _ => false
def flat1 : DV → Bool
  | .lst ds => ds.all flat
  | .tup ds => ds.all flat
  | d => flat d
/-- an answer that can't hold what was handed in -/
def safeR (a : DV × Kd) : Bool := flat a.1 || (match a.2 with | .new => flat1 a.1 | _ => false)
/-- f(..): the arguments are viewed; where the answer might hold one of them, it is shared from then on -/
def backTo' (sl : List Slot) (as : List (DV × Kd)) (o : Out (DV × Kd)) : Out (DV × Kd) := match o with
  | .ok a st2 => .ok (a.1, match a.2 with | .new => .new | _ => .fro) (if safeR a && st2.cs.all isDraw then ⟨sl, st2.cs⟩ else eatAll ⟨sl, st2.cs⟩ as)
  | .exc x st2 => .exc x (eatAll ⟨sl, st2.cs⟩ as)
  | .stuck => .stuck
def evFn (F : Fn) (g : Ak) : Ev := fun st => (g st).bind fun as st1 => backTo' st1.sl as (F (as.map (·.1)) ⟨[], st1.cs⟩)
theorem eatAll_sl : ∀ (as : List (DV × Kd)) (sl : List Slot) (cs cs' : List CellC), (eatAll ⟨sl, cs⟩ as).sl = (eatAll ⟨sl, cs'⟩ as).sl
  | [], _, _, _ => rfl
  | a :: as, sl, cs, cs' => by
    show (eatAll (DS.eat ⟨sl, cs⟩ a.2) as).sl = (eatAll (DS.eat ⟨sl, cs'⟩ a.2) as).sl
    cases a.2 with
    | view i => exact eatAll_sl as _ _ _
    | fro => exact eatAll_sl as _ _ _
    | new => exact eatAll_sl as _ _ _
section
variable {C : RC}
theorem av_nil {ρ : List CellA} {O : Addr → Prop} {cs : List CellC} {a : Addr} : Av ρ O ⟨[], cs⟩ [] a ↔ O a ∨ CM ρ a := by
  refine ⟨fun z => ?_, fun z => z.elim .inl fun z => .inr (.inl z)⟩
  rcases z with z | z | ⟨i, d, e, _⟩
  · exact .inl z
  · exact .inr z
  · simp at e
theorem Rep.flatR {ρ : List CellA} {A : Addr → Prop} {H : Hp} {ρ' : List CellA} {A' : Addr → Prop} {H' : Hp} {v : V} {d : DV} (hf : D.flat d = true) (r : Rep C ρ A H v d) : Rep C ρ' A' H' v d := by
  obtain rfl := Rep.flat_eq hf r
  exact Rep.flat hf
theorem RepL.flatR {ρ : List CellA} {A : Addr → Prop} {H : Hp} {ρ' : List CellA} {A' : Addr → Prop} {H' : Hp} : ∀ {vs : List V} {ds : List DV}, ds.all D.flat = true → RepL C ρ A H vs ds → RepL C ρ' A' H' vs ds
  | _, _, _, .nil => .nil
  | _, _, h, .cons r t => by
    rw [List.all_cons, Bool.and_eq_true] at h
    exact .cons (Rep.flatR h.1 r) (RepL.flatR h.2 t)
theorem cells_draw {ρ : List CellA} {A A' : Addr → Prop} {H : Hp} {cs : List CellC} (h : cs.all isDraw = true) (c : CellsOk C ρ A H cs) : CellsOk C ρ A' H cs := by
  refine ⟨c.len, fun k a x h1 h2 => ?_, c.dis⟩
  have q := c.ok k a x h1 h2
  have hx : isDraw x = true := List.all_eq_true.mp h x (List.mem_of_getElem? h2)
  cases x with
  | draw d => exact q
  | dead => trivial
  | obj d => cases hx
variable {X : Cx} {B : BC} {W : WX} {F : Fn} {g : Ak}
/-- what the callee wants, from D's answer -/
theorem spF_of {σ : L2.St} {ρ : List CellA} {st : DS} {H : Hp} {vs : List V} {as : List (DV × Kd)} {Q : VK} (rel : Rel B ρ st σ H) (rk : RepKs B ρ st σ H vs as)
    (r : Res B W σ ρ st H (backTo' st.sl as (F (as.map (·.1)) ⟨[], st.cs⟩)) (GE B σ H Q)) : SpF B.C F vs H Q (WE W σ) := by
  obtain ⟨s1, rl⟩ := eatAll_ok rel rk
  have re := s1.rel
  have hcs := eatAll_cs as st
  generalize est : eatAll st as = se at s1 rl re hcs
  have hse : se = ⟨se.sl, st.cs⟩ := by cases se; simp at hcs; rw [hcs]
  let O : Addr → Prop := fun a => B.O a ∨ ∃ i, ownAt se σ i a
  have sub : ∀ a, Av ρ O ⟨[], st.cs⟩ [] a → Av ρ B.O se σ a := fun a z => by
    rcases av_nil.mp z with (z | z) | z
    · exact .inl z
    · exact .inr (.inr z)
    · exact .inr (.inl z)
  have mv0 : ∀ a, Av ρ O ⟨[], st.cs⟩ [] a → Av ρ B.O se σ a ∨ H a = none := fun a z => .inl (sub a z)
  have rel0 : Rel ⟨B.C, O, H⟩ ρ ⟨[], st.cs⟩ [] H := by
    refine ⟨rfl, fun i d h => by simp at h, fun i d h => by simp at h, fun i j p h => by obtain ⟨d, h, _⟩ := h; simp at h, fun a z => z, fun a z => ?_, ?_, re.cdom, re.tabs⟩
    · rcases z with z | ⟨i, z⟩
      · exact re.odom a z
      · exact re.av_dom (.inr (.inr ⟨i, z⟩))
    · have c := re.cel
      rw [hcs] at c
      refine ⟨c.len, fun k a x h1 h2 => ?_, c.dis⟩
      have q := c.ok k a x h1 h2
      cases x with
      | draw d => exact q
      | dead => trivial
      | obj d => exact ⟨q.1, q.2.mv (List.prefix_refl _) (fun _ _ e _ _ => e) mv0 rfl⟩
  refine ⟨ρ, st.cs, as.map (·.1), O, rel0, rl.mv (List.prefix_refl _) (fun _ _ e _ _ => e) mv0, ?_⟩
  -- the state of the caller behind the call, consumed
  have later : ∀ ρ' st' H', Step ⟨B.C, O, H⟩ [] ρ ⟨[], st.cs⟩ H ρ' st' H' → Step B σ ρ st H ρ' (eatAll ⟨st.sl, st'.cs⟩ as) H' := fun ρ' st' H' s => by
    refine s1.trans ?_
    have e1 : eatAll ⟨st.sl, st'.cs⟩ as = ⟨se.sl, st'.cs⟩ := by
      have h1 : (eatAll ⟨st.sl, st'.cs⟩ as).sl = se.sl := by rw [← est]; exact eatAll_sl as st.sl st'.cs st.cs
      have h2 : (eatAll ⟨st.sl, st'.cs⟩ as).cs = st'.cs := eatAll_cs as _
      cases h3 : eatAll ⟨st.sl, st'.cs⟩ as with
      | mk a b => rw [h3] at h1 h2; simp at h1 h2; rw [h1, h2]
    rw [e1]
    refine Step.called re s.pre s.fr s.cm s.dm ?_ s.rel.cdom s.rel.tabs
    have c := s.rel.cel
    refine ⟨c.len, fun k a x h1 h2 => ?_, c.dis⟩
    have q := c.ok k a x h1 h2
    have mv : ∀ a, Av ρ' B.O ⟨se.sl, st'.cs⟩ σ a → Av ρ' O st' [] a ∨ H' a = none := fun a z => by
      rcases z with z | z | ⟨i, z⟩
      · exact .inl (.inl (.inl z))
      · exact .inl (.inr (.inl z))
      · exact .inl (.inl (.inr ⟨i, z⟩))
    cases x with
    | draw d => exact q
    | dead => trivial
    | obj d => exact ⟨q.1, q.2.mv (List.prefix_refl _) (fun _ _ e _ _ => e) mv rfl⟩
  have mvR : ∀ ρ' st' H', Step ⟨B.C, O, H⟩ [] ρ ⟨[], st.cs⟩ H ρ' st' H' → ∀ a, Av ρ' B.O (eatAll ⟨st.sl, st'.cs⟩ as) σ a → Av ρ' O st' [] a ∨ H' a = none := fun ρ' st' H' s a z => by
    rcases z with z | z | ⟨i, z⟩
    · exact .inl (.inl (.inl z))
    · exact .inl (.inr (.inl z))
    · refine .inl (.inl (.inr ⟨i, ?_⟩))
      obtain ⟨d, z1, z2⟩ := z
      refine ⟨d, ?_, z2⟩
      rw [← est, ← z1]
      congr 1
      exact (eatAll_sl as st.sl st.cs st'.cs)
  cases e : F (as.map (·.1)) ⟨[], st.cs⟩ with
  | stuck => rw [e] at r; exact r
  | exc x st' =>
    rw [e] at r
    intro ρ' H' cls d s xr
    refine r ρ' H' cls d (later ρ' st' H' s) ?_
    obtain ⟨e1, xr⟩ := xr
    refine ⟨e1, ?_⟩
    rcases xr with xr | ⟨a, vs, h1, h2, h3, h4, h5⟩
    · exact .inl xr
    · refine .inr ⟨a, vs, h1, fun z => (mvR ρ' st' H' s a z).elim h2 fun q => (by rw [h3] at q; cases q), h3, h4, h5.mv (List.prefix_refl _) (fun _ _ e _ _ => e) (mvR ρ' st' H' s)⟩
  | ok a st' =>
    rw [e] at r
    intro ρ' H' s
    have hsl : st'.sl = [] := by
      have := s.rel.len
      cases h : st'.sl with
      | nil => rfl
      | cons x l => rw [h] at this; simp at this
    refine ⟨hsl, fun v rv nv fv => ?_⟩
    obtain ⟨d, kd⟩ := a
    by_cases hs : (safeR (d, kd) && st'.cs.all isDraw) = true
    · simp only [backTo', hs, if_true] at r
      rw [Bool.and_eq_true] at hs
      have sc : Step B σ ρ st H ρ' ⟨st.sl, st'.cs⟩ H' := Step.called rel s.pre s.fr s.cm s.dm (cells_draw hs.2 s.rel.cel) s.rel.cdom s.rel.tabs
      have hrep : Rep B.C ρ' (Av ρ' B.O ⟨st.sl, st'.cs⟩ σ) H' v d := by
        have h1 := hs.1
        unfold safeR at h1
        rw [Bool.or_eq_true] at h1
        rcases h1 with h1 | h1
        · exact Rep.flatR h1 rv
        · cases kd with
          | new =>
            have hfr : ∀ p, v = .ref p → ¬ Av ρ' O st' [] p → ¬ Av ρ' B.O ⟨st.sl, st'.cs⟩ σ p := fun p ep n z => by
              rcases z with y | y | ⟨i, y⟩
              · exact rel.av_fresh (fv p ep) (.inl y)
              · exact n (.inr (.inl y))
              · exact rel.av_fresh (fv p ep) (.inr (.inr ⟨i, y⟩))
            cases rv with
            | cls c => cases h1
            | lst n e r => exact .lst (hfr _ rfl n) (by assumption) (RepL.flatR h1 (by assumption))
            | tup n e r => exact .tup (hfr _ rfl n) (by assumption) (RepL.flatR h1 (by assumption))
            | ktup k r => exact .ktup k (RepL.flatR h1 (by assumption))
            | dct n e l r => cases h1
            | ins n e l r => cases h1
            | scr n e => cases h1
            | kscr k => cases h1
            | cel e => cases h1
            | opq a => cases h1
            | exc _ _ _ _ _ _ => cases h1
            | exc0 _ _ => cases h1
            | non => exact .non
            | bl b => exact .bl b
            | int i => exact .int i
            | str s => exact .str s
            | ty n => exact .ty n
          | fro => cases h1
          | view i => cases h1
      refine r ρ' H' sc v ?_ ?_
      · cases kd with
        | new =>
          refine ⟨hrep, fun p ep hc => ?_⟩
          have h1 := hs.1
          subst ep
          cases rv with
          | lst n e r =>
            have hf : List.all _ D.flat = true := h1
            exact ⟨_, by assumption, RepL.flatR hf (by assumption)⟩
          | dct n e l r => cases h1
          | ins n e l r => cases h1
          | _ => cases hc
        | _ => exact hrep
      · cases kd <;> first | trivial | exact fv
    · simp only [backTo', hs] at r
      have hs' : (safeR (d, kd) && st'.cs.all isDraw) = false := by simpa using hs
      refine r ρ' H' (later ρ' st' H' s) v ?_ ?_
      · have hrep := rv.mv (List.prefix_refl _) (fun _ _ e _ _ => e) (mvR ρ' st' H' s)
        cases kd with
        | new =>
          refine ⟨hrep, fun p ep hc => (nv rfl p ep hc).mv (List.prefix_refl _) (fun _ _ e _ _ => e) (fun a z => ?_) rfl⟩
          rcases z with z | z
          · exact (mvR ρ' st' H' s a z).imp .inl id
          · exact .inl (.inr z)
        | _ => exact hrep
      · cases kd <;> first | trivial | exact fv
end

/-! ### f(e, ..) -/
def RepAny (C : RC) (vs : List V) (ds : List DV) : Prop := ∀ ρ A H, RepL C ρ A H vs ds
def akApp (g : Ak) (ds : List DV) : Ak := fun st => (g st).bind fun as st1 => .ok (as ++ ds.map fun d => (d, Kd.fro)) st1
section
variable {X : Cx} {k : Nat} {f : Addr} {fd : FuncData} {ps : List Str} {sp : Sp} {dvs : List V} {ds : List Value} {E : L2.St → XK} {x : Str} {p pos : Pos} {e : Expr} {es : List Expr} {t : TA}
theorem run_fnG {pins : List (Addr × Obj)} {σ : L2.St} {H : Hp} {s : Shared} {Q : VK} {us : List Value} {vs : List V} (F : FnG X.prog X.w X.K X.mg X.base k f fd ps sp) (hr : Room k X.A) (hg : X.A.guards = some []) (hb : Binds X.K fd ps ds) (hd : Vals dvs ds)
    (hx : PassesAt (L2.CX X.prog X.w) X σ (E σ)) (I : L2.Inv X pins σ H s) (r : Vals vs us) (h : sp (vs ++ dvs) H Q (E σ)) : wpAny (model X.prog X.w) X.A (call (.ref f) us) (EP X pins σ Q) X.xe s := by
  have r2 : Vals (vs ++ dvs) (us ++ ds) := r.append hd
  have hl : (us ++ ds).length = ps.length := by rw [← r2.length]; exact F.len _ _ _ _ h
  refine wpAny_call (codeAny_mono (F.run X.A X.stack s H ⟨us, []⟩ (us ++ ds) (vs ++ dvs) Q (E σ) hr hg I.env0 (hb s us I.kIn hl) r2 h) fun r s' hq => ?_)
  cases r with
  | error e => exact hx pins H s e s' I hq
  | ok fl =>
    cases fl with
    | ret u => exact I.after hq
    | next => exact False.elim hq
    | brk => exact False.elim hq
    | cont => exact False.elim hq
theorem pe_callG (F : FnG X.prog X.w X.K X.mg X.base k f fd ps sp) (hr : Room k X.A) (hgu : X.A.guards = some []) (hg : Gl X x) (hm : X.mg x = some (.ref f)) (hk : PySem.W.keepIn X.K (.ref f) = true) (hb : Binds X.K fd ps ds) (hd : Vals dvs ds) (hx : ∀ σ, PassesAt (L2.CX X.prog X.w) X σ (E σ))
    (ha : PA X (e :: es) t) (hdb : (x == ("__debug__" : Str)) = false) (he : starEach (e :: es) X.env = (false, eval e X.env) :: starEach es X.env) (hpl : (backTo pos (starEach es X.env)).any (·.1) = false) :
    PE X (.Call (.Name x p) (e :: es) [] pos) (tCallSD sp dvs E t) := by
  refine ⟨fun pins s σ H Q I h => ?_⟩
  refine wpAny_Call_Name_kw (ld_glob I hg hm ?_ hdb)
  refine PySem.W.callWith_K (h₀ := X.base) I.ok.mod.kin hk (thn (ha.run pos pins s σ H _ I h) fun us s1 ⟨vs, H1, I1, r, q⟩ => ⟨I1.kIn, ?_⟩) he hpl
  exact run_fnG F hr hgu hb hd (hx σ) I1 r q
variable {B : BC} {W : WX} {F : Fn} {g : Ak} {dds : List DV}
theorem RepKs.app {ρ : List CellA} {st : DS} {σ : L2.St} {H : Hp} : ∀ {vs : List V} {as : List (DV × Kd)} {ws : List V} {es : List DV}, RepKs B ρ st σ H vs as → RepL B.C ρ (Av ρ B.O st σ) H ws es → RepKs B ρ st σ H (vs ++ ws) (as ++ es.map fun d => (d, Kd.fro))
  | _, _, _, _, .nil, .nil => .nil
  | _, _, _, _, .nil, .cons r t => .cons r (RepKs.app .nil t)
  | _, _, _, _, .cons r t, q => .cons r (RepKs.app t q)
theorem tCallSD_of (hdr : RepAny B.C dvs dds) {σ : L2.St} {H : Hp} {Q : VK} (h : RD B W (evFn F (akApp g dds)) σ H Q) : tCallSD (SpF B.C F) dvs (WE W) (RK B W g) σ H Q := by
  obtain ⟨ρ, st, rel, res⟩ := h
  have res' : Res B W σ ρ st H ((g st).bind fun as st1 => backTo' st1.sl (as ++ dds.map fun d => (d, Kd.fro)) (F ((as ++ dds.map fun d => (d, Kd.fro)).map (·.1)) ⟨[], st1.cs⟩)) (GE B σ H Q) := by
    unfold evFn akApp at res
    cases e : g st with
    | ok a st1 => rw [e] at res; exact res
    | exc x st1 => rw [e] at res; exact res
    | stuck => rw [e] at res; exact res
  refine RK.go rel (Res.bind res') fun as st1 ρ1 H1 s1 r1 vs rv => ?_
  exact spF_of s1.rel (RepKs.app rv (hdr _ _ _)) (r1.imp fun _ _ _ _ _ => GE.dm s1.dm _ _ _ _)
theorem pd_fn (hC : B.C.K = X.K) (Fk : FnG X.prog X.w X.K X.mg X.base k f fd ps (SpF B.C F)) (hr : Room k X.A) (hgu : X.A.guards = some []) (hg : Gl X x) (hm : X.mg x = some (.ref f)) (hk : PySem.W.keepIn X.K (.ref f) = true) (hb : Binds X.K fd ps ds) (hd : Vals dvs ds) (hdr : RepAny B.C dvs dds) (tk : Takes X W)
    (ha : PKD X B W (e :: es) g) (hdb : (x == ("__debug__" : Str)) = false) (he : starEach (e :: es) X.env = (false, eval e X.env) :: starEach es X.env) (hpl : (backTo pos (starEach es X.env)).any (·.1) = false) :
    PD X B W (.Call (.Name x p) (e :: es) [] pos) (evFn F (akApp g dds)) :=
  PE.mono (pe_callG Fk hr hgu hg hm hk hb hd (passAt tk) ha hdb he hpl) fun _ _ _ h => tCallSD_of hdr h
end
end D

/-! D: statements: sequences, names stored, return, if, while, raise. -/
namespace D
open PySem L2 PyProof.Rows

inductive Fl where
  | nx | bk | ct
  | rt (d : DV) (kd : Kd)
abbrev Sv := DS → Out Fl
structure SStep (B : BC) (σ : L2.St) (ρ : List CellA) (st : DS) (H : Hp) (σ' : L2.St) (ρ' : List CellA) (st' : DS) (H' : Hp) : Prop where
  pre : ρ <+: ρ'
  rel : Rel B ρ' st' σ' H'
  fr : ∀ a o, H a = some o → ¬ CM ρ a → (∀ i, ¬ ownAt st σ i a) → NT o → H' a = some o
  av : ∀ a, Av ρ' B.O st' σ' a → Av ρ B.O st σ a ∨ H a = none
  cm : ∀ a, CM ρ' a → CM ρ a ∨ H a = none
  dm : ∀ a, H a ≠ none → H' a ≠ none
section
variable {B : BC} {W : WX} {σ σ1 σ2 : L2.St} {ρ ρ1 ρ2 : List CellA} {st st1 st2 : DS} {H H1 H2 : Hp}
theorem SStep.of (s : Step B σ ρ st H ρ1 st1 H1) : SStep B σ ρ st H σ ρ1 st1 H1 := ⟨s.pre, s.rel, fun a o e n _ => s.fr a o e n, s.av, s.cm, s.dm⟩
theorem SStep.refl (r : Rel B ρ st σ H) : SStep B σ ρ st H σ ρ st H := .of (.refl r)
theorem SStep.trans (a : SStep B σ ρ st H σ1 ρ1 st1 H1) (b : SStep B σ1 ρ1 st1 H1 σ2 ρ2 st2 H2) : SStep B σ ρ st H σ2 ρ2 st2 H2 where
  pre := a.pre.trans b.pre
  rel := b.rel
  fr := fun p o e n no nt => b.fr p o (a.fr p o e n no nt) (fun z => (a.cm p z).elim n fun q => by rw [e] at q; cases q) (fun i ow => by
    obtain ⟨d, h1, h2⟩ := id ow
    obtain ⟨q, e1, _, n1, n2, _⟩ := a.rel.own i d h1
    rw [h2] at e1
    cases e1
    rcases a.av p (.inr (.inr ⟨i, ow⟩)) with (z | z | ⟨j, z⟩) | z
    · exact n2 z
    · exact n z
    · exact no j z
    · rw [e] at z; cases z) nt
  av := fun p z => (b.av p z).elim (a.av p) fun q => .inr (none_of_dm a.dm q)
  cm := fun p z => (b.cm p z).elim (a.cm p) fun q => .inr (none_of_dm a.dm q)
  dm := fun p z => b.dm p (a.dm p z)
theorem Rep.sstep (s : SStep B σ ρ st H σ1 ρ1 st1 H1) {v : V} {d : DV} (r : Rep B.C ρ (Av ρ B.O st σ) H v d) : Rep B.C ρ1 (Av ρ1 B.O st1 σ1) H1 v d :=
  r.mv s.pre (fun a o e n => s.fr a o e (fun z => n (.cm z)) fun i z => n (.inr (.inr ⟨i, z⟩))) s.av
theorem RepL.sstep (s : SStep B σ ρ st H σ1 ρ1 st1 H1) {v : List V} {d : List DV} (r : RepL B.C ρ (Av ρ B.O st σ) H v d) : RepL B.C ρ1 (Av ρ1 B.O st1 σ1) H1 v d :=
  r.mv s.pre (fun a o e n => s.fr a o e (fun z => n (.cm z)) fun i z => n (.inr (.inr ⟨i, z⟩))) s.av

abbrev SG := Fl → L2.St → DS → List CellA → Hp → Prop
variable (B W)
def SRes (σ : L2.St) (ρ : List CellA) (st : DS) (H : Hp) (o : Out Fl) (G : SG) : Prop := match o with
  | .ok a st' => ∀ σ' ρ' H', SStep B σ ρ st H σ' ρ' st' H' → G a σ' st' ρ' H'
  | .exc x st' => ∀ σ' ρ' H' cls d, SStep B σ ρ st H σ' ρ' st' H' → XRep B ρ' st' σ' H' x cls d → W cls d σ' H'
  | .stuck => False
/-- behind a statement -/
def GS (B : BC) (D : Ends) : SG := fun fl σ' st' ρ' H' => match fl with
  | .nx => D.nx σ' H'
  | .bk => D.bk σ' H'
  | .ct => D.ct σ' H'
  | .rt d kd => ∀ v, RepK B ρ' st' σ' H' kd v d → (kd = .new → ∀ p, v = .ref p → B.H0 p = none) → D.rt v H'
def RS (f : Sv) : TS := fun D σ H => ∃ ρ st, Rel B ρ st σ H ∧ SRes B W σ ρ st H (f st) (GS B D)
variable {B W}
def PSD (X : Cx) (B : BC) (W : WX) (s : Stmt) (f : Sv) : Prop := PS X s (RS B W f)
def PSsD (X : Cx) (B : BC) (W : WX) (s : List Stmt) (f : Sv) : Prop := PSs X s (RS B W f)
variable {o : Out Fl} {G G' : SG} {k : Fl → DS → Out Fl}
theorem SRes.from (s : SStep B σ ρ st H σ1 ρ1 st1 H1) (r : SRes B W σ ρ st H o G) : SRes B W σ1 ρ1 st1 H1 o G := by
  cases o with
  | ok a st' => exact fun σ' ρ' H' s2 => r σ' ρ' H' (s.trans s2)
  | exc x st' => exact fun σ' ρ' H' cls d s2 => r σ' ρ' H' cls d (s.trans s2)
  | stuck => exact r
theorem SRes.imp (r : SRes B W σ ρ st H o G) (h : ∀ a σ' st' ρ' H', SStep B σ ρ st H σ' ρ' st' H' → G a σ' st' ρ' H' → G' a σ' st' ρ' H') : SRes B W σ ρ st H o G' := by
  cases o with
  | ok a st' => exact fun σ' ρ' H' s => h _ _ _ _ _ s (r σ' ρ' H' s)
  | exc x st' => exact r
  | stuck => exact r
theorem SRes.bind (r : SRes B W σ ρ st H (o.bind k) G) : SRes B W σ ρ st H o fun a σ1 st1 ρ1 H1 => SRes B W σ1 ρ1 st1 H1 (k a st1) G := by
  cases o with
  | ok a st1 =>
    intro σ1 ρ1 H1 s
    exact SRes.from s (show SRes B W σ ρ st H (k a st1) G from r)
  | exc x st' => exact r
  | stuck => exact r
theorem SRes.now {a : Fl} (rel : Rel B ρ st σ H) (r : SRes B W σ ρ st H (.ok a st) G) : G a σ st ρ H := r σ ρ H (.refl rel)
/-- an expression's part -/
theorem SRes.ex {α : Type} {o : Out α} {k : α → DS → Out Fl} (r : SRes B W σ ρ st H (o.bind k) G) : Res B W σ ρ st H o fun a st1 ρ1 H1 => SRes B W σ ρ1 st1 H1 (k a st1) G := by
  cases o with
  | ok a st1 =>
    intro ρ1 H1 s
    exact SRes.from (.of s) (show SRes B W σ ρ st H (k a st1) G from r)
  | exc x st' => exact fun ρ' H' cls d s q => r σ ρ' H' cls d (.of s) q
  | stuck => exact r
end

/-! ### sequences -/
def svSeq (f g : Sv) : Sv := fun st => (f st).bind fun fl st1 => match fl with
  | .nx => g st1
  | fl => .ok fl st1
def svNx : Sv := fun st => .ok .nx st
section
variable {X : Cx} {B : BC} {W : WX} {s : Stmt} {rest : List Stmt} {f g : Sv} {e : Expr} {fe : Ev} {pos : Pos}
theorem pssd_nil : PSsD X B W [] svNx := PSs.mono pss_nil fun D σ H ⟨ρ, st, rel, r⟩ => SRes.now rel r
theorem pssd_cons (h1 : PSD X B W s f) (h2 : PSsD X B W rest g) : PSsD X B W (s :: rest) (svSeq f g) := by
  refine PSs.mono (pss_cons h1 h2) fun D σ H ⟨ρ, st, rel, r⟩ => ?_
  refine ⟨ρ, st, rel, (SRes.bind r).imp fun a σ1 st1 ρ1 H1 s1 r1 => ?_⟩
  cases a with
  | nx => exact ⟨ρ1, st1, s1.rel, r1⟩
  | bk => exact SRes.now (W := W) s1.rel r1
  | ct => exact SRes.now (W := W) s1.rel r1
  | rt d kd => exact SRes.now (W := W) s1.rel r1
theorem pssd_one (h1 : PSD X B W s f) : PSsD X B W [s] f := pss_one h1
def svExpr (fe : Ev) : Sv := fun st => (fe st).bind fun _ st1 => .ok .nx st1
theorem psd_expr (he : PD X B W e fe) (hs : swapsWith e none pos.line X.env = pure false) : PSD X B W (.Expr e pos) (svExpr fe) := by
  refine PS.mono (ps_expr he hs) fun D σ H ⟨ρ, st, rel, r⟩ => ?_
  exact RD.go rel (SRes.ex r) fun a st1 ρ1 H1 s1 r1 v rv fv => SRes.now s1.rel r1
def svRet (fe : Ev) : Sv := fun st => (fe st).bind fun a st1 => .ok (.rt a.1 a.2) st1
theorem psd_ret (he : PD X B W e fe) : PSD X B W (.Return (some e) pos) (svRet fe) := by
  refine PS.mono (ps_ret he) fun D σ H ⟨ρ, st, rel, r⟩ => ?_
  refine RD.go rel (SRes.ex r) fun a st1 ρ1 H1 s1 r1 v rv fv => ?_
  refine (show ∀ v, RepK B ρ1 st1 σ H1 a.2 v a.1 → (a.2 = .new → ∀ p, v = .ref p → B.H0 p = none) → D.rt v H1 from SRes.now s1.rel r1) v rv fun ek p ev => ?_
  rw [ek] at fv
  exact none_of_dm rel.dom (fv p ev)
def svRetN : Sv := fun st => .ok (.rt .non .new) st
def svPass : Sv := fun st => .ok .nx st
def svBreak : Sv := fun st => .ok .bk st
def svIf (t : Tv) (f g : Sv) : Sv := fun st => (t st).bind fun k st1 => if k = true then f st1 else g st1
theorem psd_if {c : Expr} {a b : List Stmt} {t : Tv} (hc : PTD X B W c t) (ha : PSsD X B W a f) (hb : PSsD X B W b g) : PSD X B W (.If c a b pos) (svIf t f g) := by
  refine PS.mono (ps_if hc ha hb) fun D σ H ⟨ρ, st, rel, r⟩ => ?_
  refine RT.go rel (SRes.ex r) fun k st1 ρ1 H1 s1 r1 => ?_
  cases k with
  | true => exact ⟨ρ1, st1, s1.rel, r1⟩
  | false => exact ⟨ρ1, st1, s1.rel, r1⟩

/-! ### while -/
def svWhile (t : Tv) (f : Sv) : Nat → Sv
  | 0 => fun _ => .stuck
  | n + 1 => fun st => (t st).bind fun k st1 => if k = true then (f st1).bind fun fl st2 => (match fl with
    | .nx => svWhile t f n st2
    | .ct => svWhile t f n st2
    | .bk => .ok .nx st2
    | .rt d kd => .ok (.rt d kd) st2) else .ok .nx st1
theorem psd_while {c : Expr} {body : List Stmt} {t : Tv} (hp : PassesOwn (model X.prog X.w) X.A X.env X.xe) (hc : PTD X B W c t) (hb : PSsD X B W body f) (n : Nat) : PSD X B W (.While c body [] pos) (svWhile t f n) := by
  refine PS.mono (ps_while hp hc hb) fun D σ H ⟨ρ, st, rel, r⟩ => ?_
  refine ⟨fun m σ H => ∃ ρ st, Rel B ρ st σ H ∧ SRes B W σ ρ st H (svWhile t f m st) (GS B D), ⟨n, ρ, st, rel, r⟩, fun m σ H hW => ?_⟩
  obtain ⟨ρ, st, rel, r⟩ := hW
  cases m with
  | zero => exact r.elim
  | succ m =>
    refine RT.go rel (SRes.ex r) fun k st1 ρ1 H1 s1 r1 => ?_
    cases k with
    | false => exact SRes.now s1.rel r1
    | true =>
      rw [if_pos rfl]
      rw [if_pos rfl] at r1
      refine ⟨fun σ' H' => ∃ ρ' st', Rel B ρ' st' σ' H' ∧ SRes B W σ' ρ' st' H' (svWhile t f m st') (GS B D), fun σ' H' hN => ⟨m, Nat.lt_succ_self m, hN⟩, ⟨ρ1, st1, s1.rel, (SRes.bind r1).imp fun fl σ2 st2 ρ2 H2 s2 r2 => ?_⟩⟩
      cases fl with
      | nx => exact ⟨ρ2, st2, s2.rel, r2⟩
      | ct => exact ⟨ρ2, st2, s2.rel, r2⟩
      | bk => exact SRes.now (W := W) s2.rel r2
      | rt d kd => exact SRes.now (W := W) s2.rel r2

/-! ### raise X("..") -/
def svRaise (c : Nat) : Sv := fun st => .exc ⟨c, [], []⟩ st
theorem psd_raise {c : Nat} {e : Expr} (hc : X.calm = true) (tk : Takes X W) (he : PMk X e (fun _ H Q => Q (.ref (B.C.cls c)) none H)) : PSD X B W (.Raise (some e) none pos) (svRaise c) := by
  refine PS.mono (ps_raise hc tk he) fun D σ H ⟨ρ, st, rel, r⟩ => ?_
  exact r σ ρ H _ _ (.refl rel) ⟨rfl, .inl ⟨rfl, rfl, rfl⟩⟩
end

/-! ### a name is stored -/
/-- the state behind x = e, x in slot i -/
def DS.put (st : DS) (i : Nat) (a : DV × Kd) : DS := match a.2 with
  | .new => ⟨st.sl.set i (some (a.1, isCont a.1 && st.cs.all isDraw)), st.cs⟩
  | kd => ⟨(st.eat kd).sl.set i (some (a.1, false)), st.cs⟩
section
variable {B : BC} {W : WX} {σ : L2.St} {ρ ρ1 : List CellA} {st st1 : DS} {H H1 : Hp}
theorem put_own {i j : Nat} {d : DV} {v : V} {p : Addr} (h : ownAt ⟨st.sl.set i (some (d, false)), st.cs⟩ (σ.set i (some v)) j p) : ownAt st σ j p ∧ j ≠ i := by
  obtain ⟨e, h1, h2⟩ := h
  by_cases hj : j = i
  · subst hj
    dsimp only at h1
    by_cases hl : j < st.sl.length
    · rw [List.getElem?_set_self hl] at h1; cases h1
    · rw [List.getElem?_eq_none (by rw [List.length_set]; omega)] at h1; cases h1
  · refine ⟨⟨e, ?_, ?_⟩, hj⟩
    · rw [← h1]; exact (List.getElem?_set_ne (Ne.symm hj)).symm
    · rw [← h2]; exact (List.getElem?_set_ne (Ne.symm hj)).symm
/-- a shared thing is stored -/
theorem SStep.putF (r : Rel B ρ st σ H) {i : Nat} {v : V} {d : DV} (hv : Rep B.C ρ (Av ρ B.O st σ) H v d) : SStep B σ ρ st H (σ.set i (some v)) ρ ⟨st.sl.set i (some (d, false)), st.cs⟩ H := by
  have av : ∀ a, Av ρ B.O ⟨st.sl.set i (some (d, false)), st.cs⟩ (σ.set i (some v)) a → Av ρ B.O st σ a := fun a z => by
    rcases z with z | z | ⟨j, z⟩
    · exact .inl z
    · exact .inr (.inl z)
    · exact .inr (.inr ⟨j, (put_own z).1⟩)
  have mv : ∀ a, Av ρ B.O ⟨st.sl.set i (some (d, false)), st.cs⟩ (σ.set i (some v)) a → Av ρ B.O st σ a ∨ H a = none := fun a z => .inl (av a z)
  refine ⟨List.prefix_refl _, ⟨by simp [r.len], fun j e h => ?_, fun j e h => ?_, fun j k p h1 h2 => r.dis j k p (put_own h1).1 (put_own h2).1, r.dom, r.odom, ⟨r.cel.len, fun k c x h1 h2 => ?_, r.cel.dis⟩, r.cdom, r.tabs⟩, fun _ _ e _ _ _ => e, mv, fun _ z => .inl z, fun _ z => z⟩
  · by_cases hj : j = i
    · subst hj
      dsimp only at h
      by_cases hl : j < st.sl.length
      · rw [List.getElem?_set_self hl] at h
        cases h
        exact ⟨v, List.getElem?_set_self (by rw [← r.len]; exact hl), hv.mv (List.prefix_refl _) (fun _ _ e _ _ => e) mv⟩
      · rw [List.getElem?_eq_none (by rw [List.length_set]; omega)] at h; cases h
    · have h' : st.sl[j]? = some (some (e, false)) := by rw [← h]; exact (List.getElem?_set_ne (Ne.symm hj)).symm
      obtain ⟨w, e1, q⟩ := r.fro j e h'
      exact ⟨w, by rw [List.getElem?_set_ne (Ne.symm hj)]; exact e1, q.mv (List.prefix_refl _) (fun _ _ e _ _ => e) mv⟩
  · by_cases hj : j = i
    · subst hj
      dsimp only at h
      by_cases hl : j < st.sl.length
      · rw [List.getElem?_set_self hl] at h; cases h
      · rw [List.getElem?_eq_none (by rw [List.length_set]; omega)] at h; cases h
    · have h' : st.sl[j]? = some (some (e, true)) := by rw [← h]; exact (List.getElem?_set_ne (Ne.symm hj)).symm
      obtain ⟨p, e1, q, n⟩ := r.own j e h'
      exact ⟨p, by rw [List.getElem?_set_ne (Ne.symm hj)]; exact e1, q.mv (List.prefix_refl _) (fun _ _ e _ _ => e) mv rfl, n⟩
  · have q := r.cel.ok k c x h1 h2
    cases x with
    | draw d => exact q
    | obj d => exact ⟨q.1, q.2.mv (List.prefix_refl _) (fun _ _ e _ _ => e) mv rfl⟩
    | dead => trivial
/-- a new thing becomes a slot's own: from the state ahead of the expression -/
theorem SStep.putO (r0 : Rel B ρ st σ H) (s : Step B σ ρ st H ρ1 st1 H1) {i : Nat} {p : Addr} {d : DV} (hc : isCont d = true) (hd : st1.cs.all isDraw = true) (hv : RepK B ρ1 st1 σ H1 .new (.ref p) d) (hp : H p = none) :
    SStep B σ ρ st H (σ.set i (some (.ref p))) ρ1 ⟨st1.sl.set i (some (d, true)), st1.cs⟩ H1 := by
  have r1 := s.rel
  have own1 : ∀ j q, ownAt ⟨st1.sl.set i (some (d, true)), st1.cs⟩ (σ.set i (some (.ref p))) j q → (j = i ∧ q = p) ∨ (j ≠ i ∧ ownAt st1 σ j q) := fun j q ⟨e, h1, h2⟩ => by
    by_cases hj : j = i
    · subst hj
      refine .inl ⟨rfl, ?_⟩
      by_cases hl : j < σ.length
      · rw [List.getElem?_set_self hl] at h2; cases h2; rfl
      · rw [List.getElem?_eq_none (by rw [List.length_set]; omega)] at h2; cases h2
    · refine .inr ⟨hj, e, ?_, ?_⟩
      · rw [← h1]; exact (List.getElem?_set_ne (Ne.symm hj)).symm
      · rw [← h2]; exact (List.getElem?_set_ne (Ne.symm hj)).symm
  have npO : ¬ B.O p := fun z => r0.av_fresh hp (.inl z)
  -- p is none of what was there
  have av0 : ∀ a, Av ρ1 B.O ⟨st1.sl.set i (some (d, true)), st1.cs⟩ (σ.set i (some (.ref p))) a → Av ρ B.O st σ a ∨ H a = none := fun a z => by
    rcases z with z | z | ⟨j, z⟩
    · exact .inl (.inl z)
    · exact (s.cm a z).imp (fun z => .inr (.inl z)) id
    · rcases own1 j a z with ⟨_, rfl⟩ | ⟨_, z⟩
      · exact .inr hp
      · exact .inl (.inr (.inr ⟨j, s.sub j a z⟩))
  have fr0 : ∀ a o, H a = some o → ¬ Av ρ B.O st σ a → NT o → H1 a = some o := fun a o e n => s.fr a o e fun z => n (.cm z)
  have notown : ∀ j q, ownAt st σ j q → q ≠ p := fun j q z e => by subst e; exact r0.av_fresh hp (.inr (.inr ⟨j, z⟩))
  obtain ⟨hv, nv⟩ := hv
  have ncm : ¬ CM ρ1 p := fun z => by
    cases hv with
    | lst n' _ _ => exact n' (.inr (.inl z))
    | dct n' _ _ _ => exact n' (.inr (.inl z))
    | ins n' _ _ _ => exact n' (.inr (.inl z))
    | _ => cases hc
  have cont : Cont B.C ρ1 (Av ρ1 B.O ⟨st1.sl.set i (some (d, true)), st1.cs⟩ (σ.set i (some (.ref p)))) H1 p d := by
    refine (nv p rfl hc).mv (List.prefix_refl _) (fun _ _ e _ _ => e) (fun a z => .inl ?_) rfl
    rcases z with z | z | ⟨j, z⟩
    · exact .inl (.inl z)
    · exact .inl (.inr (.inl z))
    · rcases own1 j a z with ⟨_, rfl⟩ | ⟨_, z⟩
      · exact .inr rfl
      · exact .inl (.inr (.inr ⟨j, z⟩))
  refine ⟨s.pre, ⟨by simp [r1.len], fun j e h => ?_, fun j e h => ?_, fun j k q h1 h2 => ?_, r1.dom, r1.odom, cells_draw hd r1.cel, r1.cdom, r1.tabs⟩, fun a o e n _ => s.fr a o e n, av0, s.cm, s.dm⟩
  · by_cases hj : j = i
    · subst hj
      dsimp only at h
      by_cases hl : j < st1.sl.length
      · rw [List.getElem?_set_self hl] at h; cases h
      · rw [List.getElem?_eq_none (by rw [List.length_set]; omega)] at h; cases h
    · have h' : st1.sl[j]? = some (some (e, false)) := by rw [← h]; exact (List.getElem?_set_ne (Ne.symm hj)).symm
      obtain ⟨c, h0⟩ := s.sl j e false h'
      rw [List.getElem?_set_ne (Ne.symm hj)]
      cases c with
      | false =>
        obtain ⟨w, e1, q⟩ := r0.fro j e h0
        exact ⟨w, e1, q.mv s.pre fr0 av0⟩
      | true =>
        obtain ⟨w, e1, q, n1, n2, n3⟩ := r0.own j e h0
        obtain ⟨o, eo, nteo⟩ := q.nt
        refine ⟨_, e1, (q.mv s.pre fr0 av0 ((s.fr w o eo n1 nteo).trans eo.symm)).rep (fun a z => z) fun z => ?_⟩
        rcases z with z | z | ⟨k, z⟩
        · exact n2 z
        · rcases s.cm w z with z | z
          · exact n1 z
          · rw [eo] at z; cases z
        · rcases own1 k w z with ⟨_, rfl⟩ | ⟨hk, z⟩
          · exact notown j w ⟨e, h0, e1⟩ rfl
          · have z0 := s.sub k w z
            obtain rfl := r0.dis k j w z0 ⟨e, h0, e1⟩
            obtain ⟨e', z1, _⟩ := z
            rw [h'] at z1
            cases z1
  · by_cases hj : j = i
    · subst hj
      dsimp only at h
      by_cases hl : j < st1.sl.length
      · rw [List.getElem?_set_self hl] at h
        cases h
        exact ⟨p, List.getElem?_set_self (by rw [← r1.len]; exact hl), cont, ncm, npO, none_of_dm r0.dom hp⟩
      · rw [List.getElem?_eq_none (by rw [List.length_set]; omega)] at h; cases h
    · have h' : st1.sl[j]? = some (some (e, true)) := by rw [← h]; exact (List.getElem?_set_ne (Ne.symm hj)).symm
      obtain ⟨w, e1, q1, n1, n2, n3⟩ := r1.own j e h'
      obtain ⟨c, h0⟩ := s.sl j e true h'
      have z0 := s.sub j w ⟨e, h', e1⟩
      obtain ⟨e0, h00, _⟩ := z0
      obtain ⟨w', e1', q, m1, m2, m3⟩ := r0.own j e0 h00
      rw [e1] at e1'
      cases e1'
      rw [h0] at h00
      cases h00
      obtain ⟨o, eo, nteo⟩ := q.nt
      exact ⟨w, by rw [List.getElem?_set_ne (Ne.symm hj)]; exact e1, q.mv s.pre fr0 av0 ((s.fr w o eo m1 nteo).trans eo.symm), n1, n2, n3⟩
  · rcases own1 j q h1 with ⟨rfl, rfl⟩ | ⟨hj, z1⟩
    · rcases own1 k q h2 with ⟨rfl, _⟩ | ⟨hk, z2⟩
      · rfl
      · exact absurd rfl (notown k q (s.sub k q z2))
    · rcases own1 k q h2 with ⟨rfl, rfl⟩ | ⟨hk, z2⟩
      · exact absurd rfl (notown j q (s.sub j q z1))
      · exact r1.dis j k q z1 z2
end
end D

/-! D: names stored, targets, parallel stores, op=. -/
namespace D
open PySem L2 PyProof.Rows

section
variable {X : Cx} {B : BC} {W : WX} {σ : L2.St} {ρ ρ1 : List CellA} {st st1 : DS} {H H1 : Hp} {f g : Sv} {e : Expr} {fe : Ev} {pos : Pos}
theorem Rep.ref_of_cont {C : RC} {ρ : List CellA} {A : Addr → Prop} {H : Hp} {v : V} {d : DV} (h : isCont d = true) (r : Rep C ρ A H v d) : ∃ p, v = .ref p := by
  cases r <;> first | exact ⟨_, rfl⟩ | cases h
theorem SStep.put (r0 : Rel B ρ st σ H) (s : Step B σ ρ st H ρ1 st1 H1) {i : Nat} {a : DV × Kd} {v : V} (hv : RepK B ρ1 st1 σ H1 a.2 v a.1) (fv : Fresh H a.2 v) : SStep B σ ρ st H (σ.set i (some v)) ρ1 (st1.put i a) H1 := by
  obtain ⟨d, kd⟩ := a
  cases kd with
  | fro => exact (SStep.of s).trans (SStep.putF s.rel hv)
  | view j =>
    have s2 := Step.eat s.rel (.view j)
    exact (SStep.of (s.trans s2)).trans (SStep.putF s2.rel hv.eat)
  | new =>
    show SStep B σ ρ st H _ ρ1 ⟨st1.sl.set i (some (d, isCont d && st1.cs.all isDraw)), st1.cs⟩ H1
    cases hb : isCont d && st1.cs.all isDraw with
    | false => exact (SStep.of s).trans (SStep.putF s.rel hv.1)
    | true =>
      rw [Bool.and_eq_true] at hb
      obtain ⟨p, rfl⟩ := Rep.ref_of_cont hb.1 hv.1
      exact SStep.putO r0 s hb.1 hb.2 hv (fv p rfl)

theorem SRes.ex0 {α : Type} {o : Out α} {k : α → DS → Out Fl} {G : SG} (r : SRes B W σ ρ st H (o.bind k) G) : Res B W σ ρ st H o fun a st1 _ _ => SRes B W σ ρ st H (k a st1) G := by
  cases o with
  | ok a st1 => exact fun _ _ _ => r
  | exc x st' => exact fun ρ' H' cls d s q => r σ ρ' H' cls d (.of s) q
  | stuck => exact r
/-- x = e -/
def svSet (i : Nat) (fe : Ev) : Sv := fun st => (fe st).bind fun a st1 => .ok .nx (st1.put i a)
theorem rs_set {i : Nat} {te : TE} (ht : ∀ σ H Q, RD B W fe σ H Q → te σ H Q) {D : Ends} (h : RS B W (svSet i fe) D σ H) : tAsg te (gName i) D σ H := by
  obtain ⟨ρ, st, rel, r⟩ := h
  refine ht σ H _ ?_
  refine RD.go rel (SRes.ex0 r) fun a st1 ρ1 H1 s1 r1 v rv fv => ?_
  exact r1 _ _ _ (SStep.put (i := i) rel s1 rv fv)
theorem psd_set {i : Nat} {x : Str} {pos' : Pos} (hN : X.N.Nodup) (hi : X.N[i]? = some x) (hx : Loc X.env.scope x) (he : PD X B W e fe) (hs : swapsWith e (some (.Name x pos')) pos.line X.env = pure false) (hf : X.fn x = true ∨ X.env.scope.names.lookup x = some .local) :
    PSD X B W (.Assign [.Name x pos'] e pos) (svSet i fe) := by
  refine PS.mono (ps_set hN hi hx he hs hf) fun D σ H h => rs_set (fun _ _ _ h => h) h

/-! ### targets -/
abbrev Gv := DV → DS → Option DS
/-- the target writes the slots vs alone, nothing becomes a slot's own -/
structure Only (vs : List Nat) (st : DS) (σ : L2.St) (st' : DS) (σ' : L2.St) : Prop where
  len : σ'.length = σ.length
  out : ∀ (i : Nat), i ∉ vs → σ'[i]? = σ[i]? ∧ st'.sl[i]? = st.sl[i]?
  own : ∀ (i : Nat) (d : DV), st'.sl[i]? = some (some (d, true)) → st.sl[i]? = some (some (d, true))
theorem Only.refl {vs : List Nat} : Only vs st σ st σ := ⟨rfl, fun _ _ => ⟨rfl, rfl⟩, fun _ _ h => h⟩
theorem Only.trans {vs ws : List Nat} {σ1 σ2 : L2.St} {st2 : DS} (a : Only vs st σ st1 σ1) (b : Only ws st1 σ1 st2 σ2) : Only (vs ++ ws) st σ st2 σ2 :=
  ⟨b.len.trans a.len, fun i h => by
    rw [List.mem_append, not_or] at h
    exact ⟨(b.out i h.2).1.trans (a.out i h.1).1, (b.out i h.2).2.trans (a.out i h.1).2⟩, fun i d h => a.own i d (b.own i d h)⟩
def RG (C : RC) (vs : List Nat) (f : Gv) : TG := fun v σ H Q => ∃ B ρ st d st', B.C = C ∧ Rel B ρ st σ H ∧ Rep B.C ρ (Av ρ B.O st σ) H v d ∧ f d st = some st' ∧ ∀ σ', SStep B σ ρ st H σ' ρ st' H → Only vs st σ st' σ' → Q σ' H
def RGs (C : RC) (vs : List Nat) (f : List DV → DS → Option DS) : TGs := fun xs σ H Q => ∃ B ρ st ds st', B.C = C ∧ Rel B ρ st σ H ∧ RepL B.C ρ (Av ρ B.O st σ) H xs ds ∧ f ds st = some st' ∧ ∀ σ', SStep B σ ρ st H σ' ρ st' H → Only vs st σ st' σ' → Q σ' H
def PGD (X : Cx) (C : RC) (vs : List Nat) (tg : Expr) (f : Gv) : Prop := PG X tg (RG C vs f)
def PGsD (X : Cx) (C : RC) (vs : List Nat) (tg : List Expr) (f : List DV → DS → Option DS) : Prop := PGs X tg (RGs C vs f)
theorem PG.mono {X : Cx} {e : Expr} {t t' : TG} (h : PG X e t) (m : ∀ v σ H Q, t' v σ H Q → t v σ H Q) : PG X e t' := ⟨fun pins s σ H v u Q I r q => h.run pins s σ H v u Q I r (m _ _ _ _ q)⟩
theorem PGs.mono {X : Cx} {e : List Expr} {t t' : TGs} (h : PGs X e t) (m : ∀ v σ H Q, t' v σ H Q → t v σ H Q) : PGs X e t' := ⟨fun pins s σ H v u Q I r q => h.run pins s σ H v u Q I r (m _ _ _ _ q)⟩
variable {C : RC} {vs ws : List Nat}
def gvName (i : Nat) : Gv := fun d st => some ⟨st.sl.set i (some (d, false)), st.cs⟩
theorem pgd_name {i : Nat} {x : Str} (hN : X.N.Nodup) (hi : X.N[i]? = some x) (hx : Loc X.env.scope x) (hf : X.fn x = true ∨ X.env.scope.names.lookup x = some .local) : PGD X C [i] (.Name x pos) (gvName i) := by
  refine PG.mono (pg_name hN hi hx hf) fun v σ H Q ⟨B, ρ, st, d, st', eC, rel, rv, e, q⟩ => ?_
  cases e
  refine q _ (SStep.putF rel rv) ⟨by simp, fun j hj => ?_, fun j e h => ?_⟩
  · have hj : i ≠ j := fun z => hj (by simp [z])
    exact ⟨List.getElem?_set_ne hj, List.getElem?_set_ne hj⟩
  · by_cases hj : i = j
    · subst hj
      dsimp only at h
      by_cases hl : i < st.sl.length
      · rw [List.getElem?_set_self hl] at h; cases h
      · rw [List.getElem?_eq_none (by rw [List.length_set]; omega)] at h; cases h
    · rw [← h]; exact (List.getElem?_set_ne hj).symm
def gvNil : List DV → DS → Option DS := fun ds st => match ds with | [] => some st | _ => none
def gvCons (f : Gv) (g : List DV → DS → Option DS) : List DV → DS → Option DS := fun (ds : List DV) st => match ds with
  | d :: r => (match f d st with | some st1 => g r st1 | none => none)
  | [] => none
theorem pgsd_nil : PGsD X C [] [] gvNil := by
  refine PGs.mono pgs_nil fun vs σ H Q ⟨B, ρ, st, ds, st', eC, rel, rv, e, q⟩ => ?_
  cases rv with
  | nil =>
    cases e
    exact ⟨rfl, q _ (.refl rel) .refl⟩
  | cons _ _ => cases e
theorem pgsd_cons {e : Expr} {es : List Expr} {f : Gv} {g : List DV → DS → Option DS} (h1 : PGD X C vs e f) (h2 : PGsD X C ws es g) (hs : (assignEach (e :: es) X.env).map (·.2) = assign e X.env :: (assignEach es X.env).map (·.2)) : PGsD X C (vs ++ ws) (e :: es) (gvCons f g) := by
  refine PGs.mono (pgs_cons h1 h2 hs) fun xs σ H Q ⟨B, ρ, st, ds, st', eC, rel, rv, e, q⟩ => ?_
  cases rv with
  | nil => cases e
  | @cons v vs' d ds' r t =>
    simp only [gvCons] at e
    cases e1 : f d st with
    | none => rw [e1] at e; cases e
    | some st1 =>
      rw [e1] at e
      exact ⟨_, _, rfl, B, ρ, st, d, st1, eC, rel, r, e1, fun σ1 s1 o1 => ⟨B, ρ, st1, ds', st', eC, s1.rel, RepL.sstep s1 t, e, fun σ2 s2 o2 => q σ2 (s1.trans s2) (o1.trans o2)⟩⟩
def gvTup (n : Nat) (g : List DV → DS → Option DS) : Gv := fun d st => match d with
  | .tup ds => if ds.length = n then g ds st else none
  | _ => none
theorem sqT_of {C : RC} {ρ : List CellA} {A : Addr → Prop} {H : Hp} {v : V} {ds : List DV} (r : Rep C ρ A H v (.tup ds)) : ∃ a xs, v = .ref a ∧ SqT C.K H a xs ∧ RepL C ρ A H xs ds := by
  cases r with
  | tup n e r => exact ⟨_, _, rfl, .inl (.inl e), r⟩
  | ktup k r => exact ⟨_, _, rfl, .inr k, r⟩
theorem pgd_tup {es : List Expr} {k : Nat} {g : List DV → DS → Option DS} {n : Nat} (hK : C.K = X.K) (hc : X.calm = true) (h : PGsD X C vs es g) (hn : (assignEach es X.env).length = n) (hst : (assignEach es X.env).findIdx? (·.1) = none) : PGD X C vs (.Tuple es k pos) (gvTup n g) := by
  refine PG.mono (pg_tup hc h hn hst) fun v σ H Q ⟨B, ρ, st, d, st', eC, rel, rv, e, q⟩ => ?_
  cases d <;> try (cases e; done)
  rename_i ds
  simp only [gvTup] at e
  split at e
  · rename_i hl
    obtain ⟨a, xs, rfl, hq, rl⟩ := sqT_of rv
    exact ⟨a, xs, rfl, by rw [← hK, ← eC]; exact hq, rl.length.trans hl, B, ρ, st, ds, st', eC, rel, rl, e, q⟩
  · cases e
/-- target = e, by a target's reading -/
def svAsg (fe : Ev) (g : Gv) : Sv := fun st => (fe st).bind fun a st1 => match g a.1 (st1.eat a.2) with
  | some st2 => .ok .nx st2
  | none => .stuck
theorem psd_asg {tg e : Expr} {g : Gv} (he : PD X B W e fe) (hg : PGD X B.C vs tg g) (hs : swapsWithSole [tg] e pos.line X.env = pure false) (hw : swappedStores [tg] e X.env = pure none)
    (h1 : (assignEach [tg] X.env).map (·.2) = [assign tg X.env]) : PSD X B W (.Assign [tg] e pos) (svAsg fe g) := by
  refine PS.mono (ps_asg he hg hs hw h1) fun D σ H ⟨ρ, st, rel, r⟩ => ?_
  refine RD.go rel (SRes.ex r) fun a st1 ρ1 H1 s1 r1 v rv fv => ?_
  have s2 := Step.eat s1.rel a.2
  cases eg : g a.1 (st1.eat a.2) with
  | none => rw [eg] at r1; exact r1.elim
  | some st2 =>
    rw [eg] at r1
    exact ⟨B, ρ1, _, a.1, st2, rfl, s2.rel, rv.eat, eg, fun σ' s3 _ => r1 _ _ _ ((SStep.of s2).trans s3)⟩

/-! ### a new thing held aside -/
def BC.hold (B : BC) (p : Addr) : BC := ⟨B.C, fun a => B.O a ∨ a = p, B.H0⟩
variable {σ1 : L2.St} {p : Addr}
theorem av_hold {O : Addr → Prop} {a : Addr} : Av ρ (fun a => O a ∨ a = p) st σ a → Av ρ O st σ a ∨ a = p := fun z => by
  rcases z with (z | z) | z | z
  · exact .inl (.inl z)
  · exact .inr z
  · exact .inl (.inr (.inl z))
  · exact .inl (.inr (.inr z))
theorem hold_av {O : Addr → Prop} {a : Addr} : Av ρ O st σ a ∨ a = p → Av ρ (fun a => O a ∨ a = p) st σ a := fun z => by
  rcases z with (z | z | z) | z
  · exact .inl (.inl z)
  · exact .inr (.inl z)
  · exact .inr (.inr z)
  · exact .inl (.inr z)
theorem Rel.hold (r0 : Rel B ρ st σ H) (s : Step B σ ρ st H ρ1 st1 H1) (hd : st1.cs.all isDraw = true) (hp : H p = none) (h1 : H1 p ≠ none) : Rel (B.hold p) ρ1 st1 σ H1 := by
  have r1 := s.rel
  have fr0 : ∀ a o, H a = some o → ¬ Av ρ B.O st σ a → NT o → H1 a = some o := fun a o e n => s.fr a o e fun z => n (.cm z)
  have av0 : ∀ a, Av ρ1 (B.hold p).O st1 σ a → Av ρ B.O st σ a ∨ H a = none := fun a z => by
    rcases av_hold z with z | rfl
    · exact s.av a z
    · exact .inr hp
  refine ⟨r1.len, fun j e h => ?_, fun j e h => ?_, r1.dis, r1.dom, fun a z => ?_, cells_draw hd r1.cel, r1.cdom, r1.tabs⟩
  · obtain ⟨c, h0⟩ := s.sl j e false h
    cases c with
    | false =>
      obtain ⟨w, e1, q⟩ := r0.fro j e h0
      exact ⟨w, e1, q.mv s.pre fr0 av0⟩
    | true =>
      obtain ⟨w, e1, q, n1, n2, n3⟩ := r0.own j e h0
      obtain ⟨o, eo, nteo⟩ := q.nt
      obtain ⟨w', e1', q'⟩ := r1.fro j e h
      rw [e1] at e1'
      cases e1'
      refine ⟨_, e1, (q.mv s.pre fr0 av0 ((s.fr w o eo n1 nteo).trans eo.symm)).rep (fun a z => z) fun z => ?_⟩
      rcases av_hold z with z | rfl
      · rcases z with z | z | ⟨k, z⟩
        · exact n2 z
        · rcases s.cm w z with z | z
          · exact n1 z
          · rw [eo] at z; cases z
        · have z0 := s.sub k w z
          obtain rfl := r0.dis k j w z0 ⟨e, h0, e1⟩
          obtain ⟨e', z1, _⟩ := z
          rw [h] at z1
          cases z1
      · rw [eo] at hp; cases hp
  · obtain ⟨w, e1, q1, n1, n2, n3⟩ := r1.own j e h
    obtain ⟨c, h0⟩ := s.sl j e true h
    obtain ⟨e0, h00, _⟩ := s.sub j w ⟨e, h, e1⟩
    obtain ⟨w', e1', q, m1, m2, m3⟩ := r0.own j e0 h00
    rw [e1] at e1'
    cases e1'
    rw [h0] at h00
    cases h00
    obtain ⟨o, eo, nteo⟩ := q.nt
    refine ⟨w, e1, q.mv s.pre fr0 av0 ((s.fr w o eo m1 nteo).trans eo.symm), n1, fun z => ?_, n3⟩
    rcases z with z | rfl
    · exact n2 z
    · rw [eo] at hp; cases hp
  · rcases z with z | rfl
    · exact r1.odom a z
    · exact h1
theorem Rel.unhold (r : Rel (B.hold p) ρ st σ H) : Rel B ρ st σ H := by
  have mv : ∀ a, Av ρ B.O st σ a → Av ρ (B.hold p).O st σ a ∨ H a = none := fun a z => .inl (hold_av (.inl z))
  refine ⟨r.len, fun i d h => ?_, fun i d h => ?_, r.dis, r.dom, fun a z => r.odom a (.inl z), ⟨r.cel.len, fun k c x h1 h2 => ?_, r.cel.dis⟩, r.cdom, r.tabs⟩
  · obtain ⟨v, e, q⟩ := r.fro i d h
    exact ⟨v, e, q.mv (List.prefix_refl _) (fun _ _ e _ _ => e) mv⟩
  · obtain ⟨q, e, c, n1, n2, n3⟩ := r.own i d h
    exact ⟨q, e, c.mv (List.prefix_refl _) (fun _ _ e _ _ => e) mv rfl, n1, fun z => n2 (.inl z), n3⟩
  · have q := r.cel.ok k c x h1 h2
    cases x with
    | draw d => exact q
    | obj d => exact ⟨q.1, q.2.mv (List.prefix_refl _) (fun _ _ e _ _ => e) mv rfl⟩
    | dead => trivial
/-- the step with p held aside, seen from where p was not yet -/
theorem SStep.unhold (s0 : Step B σ ρ st H ρ1 st1 H1) {ρ2 : List CellA} {st2 : DS} {H2 : Hp} (hp : H p = none) (s : SStep (B.hold p) σ ρ1 st1 H1 σ1 ρ2 st2 H2) : SStep B σ ρ st H σ1 ρ2 st2 H2 where
  pre := s0.pre.trans s.pre
  rel := s.rel.unhold
  fr := fun a o e n no nt => s.fr a o (s0.fr a o e n nt) (fun z => (s0.cm a z).elim n fun q => by rw [e] at q; cases q) (fun i ow => no i (s0.sub i a ow)) nt
  av := fun a z => by
    rcases s.av a (hold_av (.inl z)) with z | z
    · rcases av_hold z with z | rfl
      · exact s0.av a z
      · exact .inr hp
    · exact .inr (none_of_dm s0.dm z)
  cm := fun a z => (s.cm a z).elim (s0.cm a) fun q => .inr (none_of_dm s0.dm q)
  dm := fun a z => s.dm a (s0.dm a z)
theorem Step.unhold (s0 : Step B σ ρ st H ρ1 st1 H1) {ρ2 : List CellA} {st2 : DS} {H2 : Hp} (s : Step (B.hold p) σ ρ1 st1 H1 ρ2 st2 H2) : Step B σ ρ st H ρ2 st2 H2 where
  pre := s0.pre.trans s.pre
  rel := s.rel.unhold
  fr := fun a o e n nt => s.fr a o (s0.fr a o e n nt) (fun z => (s0.cm a z).elim n fun q => by rw [e] at q; cases q) nt
  sub := fun i a z => s0.sub i a (s.sub i a z)
  sl := fun i d b z => let ⟨c, z'⟩ := s.sl i d b z; s0.sl i d c z'
  cm := fun a z => (s.cm a z).elim (s0.cm a) fun q => .inr (none_of_dm s0.dm q)
  dm := fun a z => s.dm a (s0.dm a z)
theorem Rep.unhold {v : V} {d : DV} (r : Rep B.C ρ (Av ρ (B.hold p).O st σ) H v d) : Rep B.C ρ (Av ρ B.O st σ) H v d :=
  r.mv (List.prefix_refl _) (fun _ _ e _ _ => e) fun a z => .inl (hold_av (.inl z))
theorem RepL.unhold {v : List V} {d : List DV} (r : RepL B.C ρ (Av ρ (B.hold p).O st σ) H v d) : RepL B.C ρ (Av ρ B.O st σ) H v d :=
  r.mv (List.prefix_refl _) (fun _ _ e _ _ => e) fun a z => .inl (hold_av (.inl z))
theorem XRep.unhold {x : DX} {cls : Value} {d : Option Addr} (r : XRep (B.hold p) ρ st σ H x cls d) : XRep B ρ st σ H x cls d := by
  obtain ⟨e, r⟩ := r
  refine ⟨e, ?_⟩
  rcases r with r | ⟨a, vs, h1, h2, h3, h4, h5⟩
  · exact .inl r
  · exact .inr ⟨a, vs, h1, fun z => h2 (hold_av (.inl z)), h3, h4, RepL.unhold h5⟩
/-- what is held is put into a slot -/
theorem SStep.release (s : SStep B σ ρ st H σ1 ρ1 st1 H1) (rh : Rel (B.hold p) ρ1 st1 σ1 H1) (hp : H p = none) {i : Nat} {d : DV} (hc : Cont B.C ρ1 (Av ρ1 (B.hold p).O st1 σ1) H1 p d) (n1 : ¬ CM ρ1 p) (n2 : ¬ B.O p) (n3 : B.H0 p = none) :
    SStep B σ ρ st H (σ1.set i (some (.ref p))) ρ1 ⟨st1.sl.set i (some (d, true)), st1.cs⟩ H1 := by
  have own1 : ∀ j q, ownAt ⟨st1.sl.set i (some (d, true)), st1.cs⟩ (σ1.set i (some (.ref p))) j q → (j = i ∧ q = p) ∨ (j ≠ i ∧ ownAt st1 σ1 j q) := fun j q ⟨e, h1, h2⟩ => by
    by_cases hj : j = i
    · subst hj
      refine .inl ⟨rfl, ?_⟩
      by_cases hl : j < σ1.length
      · rw [List.getElem?_set_self hl] at h2; cases h2; rfl
      · rw [List.getElem?_eq_none (by rw [List.length_set]; omega)] at h2; cases h2
    · refine .inr ⟨hj, e, ?_, ?_⟩
      · rw [← h1]; exact (List.getElem?_set_ne (Ne.symm hj)).symm
      · rw [← h2]; exact (List.getElem?_set_ne (Ne.symm hj)).symm
  have avh : ∀ a, Av ρ1 B.O ⟨st1.sl.set i (some (d, true)), st1.cs⟩ (σ1.set i (some (.ref p))) a → Av ρ1 (B.hold p).O st1 σ1 a := fun a z => by
    rcases z with z | z | ⟨j, z⟩
    · exact .inl (.inl z)
    · exact .inr (.inl z)
    · rcases own1 j a z with ⟨_, rfl⟩ | ⟨_, z⟩
      · exact .inl (.inr rfl)
      · exact .inr (.inr ⟨j, z⟩)
  have mv : ∀ a, Av ρ1 B.O ⟨st1.sl.set i (some (d, true)), st1.cs⟩ (σ1.set i (some (.ref p))) a → Av ρ1 (B.hold p).O st1 σ1 a ∨ H1 a = none := fun a z => .inl (avh a z)
  have r1 := s.rel
  refine ⟨s.pre, ⟨by simp [r1.len], fun j e h => ?_, fun j e h => ?_, fun j k q h1 h2 => ?_, r1.dom, r1.odom, ⟨r1.cel.len, fun k c x h1 h2 => ?_, r1.cel.dis⟩, r1.cdom, r1.tabs⟩, s.fr, fun a z => ?_, s.cm, s.dm⟩
  · by_cases hj : j = i
    · subst hj
      dsimp only at h
      by_cases hl : j < st1.sl.length
      · rw [List.getElem?_set_self hl] at h; cases h
      · rw [List.getElem?_eq_none (by rw [List.length_set]; omega)] at h; cases h
    · have h' : st1.sl[j]? = some (some (e, false)) := by rw [← h]; exact (List.getElem?_set_ne (Ne.symm hj)).symm
      rw [List.getElem?_set_ne (Ne.symm hj)]
      obtain ⟨w, e1, q⟩ := rh.fro j e h'
      exact ⟨w, e1, q.mv (List.prefix_refl _) (fun _ _ e _ _ => e) mv⟩
  · by_cases hj : j = i
    · subst hj
      dsimp only at h
      by_cases hl : j < st1.sl.length
      · rw [List.getElem?_set_self hl] at h
        cases h
        exact ⟨p, List.getElem?_set_self (by rw [← r1.len]; exact hl), hc.mv (List.prefix_refl _) (fun _ _ e _ _ => e) mv rfl, n1, n2, n3⟩
      · rw [List.getElem?_eq_none (by rw [List.length_set]; omega)] at h; cases h
    · have h' : st1.sl[j]? = some (some (e, true)) := by rw [← h]; exact (List.getElem?_set_ne (Ne.symm hj)).symm
      obtain ⟨w, e1, q1, m1, m2, m3⟩ := rh.own j e h'
      exact ⟨w, by rw [List.getElem?_set_ne (Ne.symm hj)]; exact e1, q1.mv (List.prefix_refl _) (fun _ _ e _ _ => e) mv rfl, m1, fun z => m2 (.inl z), m3⟩
  · have np : ∀ k, ¬ ownAt st1 σ1 k p := fun k ⟨e, z1, z2⟩ => by
      obtain ⟨w, e1, q1, m1, m2, m3⟩ := rh.own k e z1
      rw [z2] at e1
      cases e1
      exact m2 (.inr rfl)
    rcases own1 j q h1 with ⟨rfl, rfl⟩ | ⟨hj, z1⟩
    · rcases own1 k q h2 with ⟨rfl, _⟩ | ⟨hk, z2⟩
      · rfl
      · exact absurd z2 (np k)
    · rcases own1 k q h2 with ⟨rfl, rfl⟩ | ⟨hk, z2⟩
      · exact absurd z1 (np j)
      · exact r1.dis j k q z1 z2
  · have q := rh.cel.ok k c x h1 h2
    cases x with
    | draw d => exact q
    | obj d => exact ⟨q.1, q.2.mv (List.prefix_refl _) (fun _ _ e _ _ => e) mv rfl⟩
    | dead => trivial
  · rcases av_hold (avh a z) with z | rfl
    · exact s.av a z
    · exact .inr hp

/-! ### a, b = x, y -/
def sets (σ : L2.St) : List Nat → List V → L2.St
  | i :: is, v :: vs => (sets σ is vs).set i (some v)
  | _, _ => σ
def svPar (i : Nat) (f : Ev) (g : Sv) : Sv := fun st => (f st).bind fun a st1 => match a.2 with
  | .new => (match isCont a.1 && st1.cs.all isDraw with
    | true => (g st1).bind fun _ st2 => .ok .nx ⟨st2.sl.set i (some (a.1, true)), st2.cs⟩
    | false => (g st1).bind fun _ st2 => .ok .nx ⟨st2.sl.set i (some (a.1, false)), st2.cs⟩)
  | kd => (g (st1.eat kd)).bind fun _ st2 => .ok .nx ⟨st2.sl.set i (some (a.1, false)), st2.cs⟩
/-- behind the parts: the slots ix have the values -/
def RPar (C : RC) (W : WX) (ix : List Nat) (f : Sv) : TA := fun σ H Q => ∃ B ρ st, B.C = C ∧ Rel B ρ st σ H ∧ SRes B W σ ρ st H (f st) fun fl σ' st' ρ' H' => ∀ vs, vs.length = ix.length → σ' = sets σ ix vs → Q vs H'
def PPar (X : Cx) (C : RC) (W : WX) (ix : List Nat) (es : List Expr) (f : Sv) : Prop := PA X es (RPar C W ix f)
theorem ppar_nil : PPar X C W [] [] svNx := PA.mono pa_nil fun σ H Q ⟨B, ρ, st, _, rel, r⟩ => SRes.now rel r [] rfl rfl
def RDx (C : RC) (W : WX) (f : Ev) : TE := fun σ H Q => ∃ B, B.C = C ∧ RD B W f σ H Q
theorem pdx {f : Ev} {e : Expr} (h : ∀ B, B.C = C → PD X B W e f) : PE X e (RDx C W f) := ⟨fun pins s σ H Q I ⟨B, e, r⟩ => (h B e).run pins s σ H Q I r⟩
/-- an answer under B.hold p, from one under B -/
theorem SRes.hold {o : Out Fl} {G : SG} (s0 : Step B σ ρ st H ρ1 st1 H1) (hp : H p = none) (r : SRes B W σ ρ st H o G) : SRes (B.hold p) W σ ρ1 st1 H1 o G := by
  cases o with
  | ok a st' => exact fun σ' ρ' H' s => r σ' ρ' H' (SStep.unhold s0 hp s)
  | exc x st' => exact fun σ' ρ' H' cls d s q => r σ' ρ' H' cls d (SStep.unhold s0 hp s) q.unhold
  | stuck => exact r
theorem nomatchCM {d : DV} {C : RC} {p : Addr} (r : Rep C ρ (Av ρ B.O st σ) H (.ref p) d) (h : isCont d = true) : ¬ CM ρ p := fun z => by
  cases r with
  | lst n' _ _ => exact n' (.inr (.inl z))
  | dct n' _ _ _ => exact n' (.inr (.inl z))
  | ins n' _ _ _ => exact n' (.inr (.inl z))
  | _ => cases h
theorem ppar_cons {i : Nat} {ix : List Nat} {e : Expr} {es : List Expr} {f : Ev} {g : Sv} (he : ∀ B, B.C = C → PD X B W e f) (hg : PPar X C W ix es g) (hs : starEach (e :: es) X.env = (false, eval e X.env) :: starEach es X.env) : PPar X C W (i :: ix) (e :: es) (svPar i f g) := by
  refine PA.mono (pa_cons (pdx he) hg hs) fun σ H Q ⟨B, ρ, st, eC, rel, r⟩ => ?_
  refine ⟨B, eC, RD.go rel (SRes.ex0 r) fun a st1 ρ1 H1 s1 r1 v rv fv => ?_⟩
  obtain ⟨d, kd⟩ := a
  -- the plain case
  have plain : ∀ st2, Step B σ ρ1 st1 H1 ρ1 st2 H1 → Rep B.C ρ1 (Av ρ1 B.O st2 σ) H1 v d → SRes B W σ ρ st H ((g st2).bind fun _ st2 => .ok .nx ⟨st2.sl.set i (some (d, false)), st2.cs⟩) (fun fl σ' st' ρ' H' => ∀ vs, vs.length = (i :: ix).length → σ' = sets σ (i :: ix) vs → Q vs H') →
      RPar C W ix g σ H1 fun vs H2 => Q (v :: vs) H2 := fun st2 s2 rv r2 => by
    refine ⟨B, ρ1, st2, eC, s2.rel, ?_⟩
    refine (SRes.bind (SRes.from (.of (s1.trans s2)) r2)).imp fun fl σ' st' ρ' H' s3 r3 vs hl hσ => ?_
    have s4 := SStep.putF (i := i) s3.rel (Rep.sstep s3 rv)
    refine r3 _ _ _ s4 (v :: vs) (by simp [hl]) ?_
    rw [hσ]
    rfl
  cases kd with
  | fro => exact plain st1 (.refl s1.rel) rv r1
  | view j => exact plain _ (Step.eat s1.rel (.view j)) rv.eat r1
  | new =>
    simp only at r1
    cases hb : isCont d && st1.cs.all isDraw with
    | false => rw [hb] at r1; exact plain st1 (.refl s1.rel) rv.1 r1
    | true =>
      rw [hb] at r1
      rw [Bool.and_eq_true] at hb
      obtain ⟨p, rfl⟩ := Rep.ref_of_cont hb.1 rv.1
      have hp := fv p rfl
      have c1 := rv.2 p rfl hb.1
      have h1 : H1 p ≠ none := c1.some
      have rh := Rel.hold rel s1 hb.2 hp h1
      have np1 : ¬ CM ρ1 p := nomatchCM rv.1 hb.1
      have npO : ¬ B.O p := fun z => rel.odom p z hp
      refine ⟨B.hold p, ρ1, st1, eC, rh, ?_⟩
      have c1' : Cont B.C ρ1 (Av ρ1 (B.hold p).O st1 σ) H1 p d := c1.mv (List.prefix_refl _) (fun _ _ e _ _ => e) (fun a z => .inl (av_hold z)) rfl
      have nown : ∀ j, ¬ ownAt st1 σ j p := fun j ⟨e, z1, z2⟩ => by
        obtain ⟨w, e1, q1, m1, m2, m3⟩ := rh.own j e z1
        rw [z2] at e1
        cases e1
        exact m2 (.inr rfl)
      cases eg : g st1 with
      | stuck => rw [eg] at r1; exact r1.elim
      | exc x st2 => rw [eg] at r1; exact fun σ' ρ' H' cls q s3 xr => r1 σ' ρ' H' cls q (SStep.unhold s1 hp s3) xr.unhold
      | ok fl st2 =>
        rw [eg] at r1
        intro σ' ρ' H' s3 vs hl hσ
        obtain ⟨o, eo, nteo⟩ := c1'.nt
        have np' : ¬ CM ρ' p := fun z => (s3.cm p z).elim np1 fun q => h1 q
        have c3 : Cont B.C ρ' (Av ρ' (B.hold p).O st2 σ') H' p d := c1'.mv s3.pre (fun a o e n => s3.fr a o e (fun z => n (.cm z)) fun i z => n (.inr (.inr ⟨i, z⟩))) s3.av ((s3.fr p o eo np1 nown nteo).trans eo.symm)
        have s4 := SStep.release (i := i) (SStep.unhold s1 hp s3) s3.rel hp c3 np' npO (none_of_dm rel.dom hp)
        refine r1 _ _ _ s4 (V.ref p :: vs) (by simp [hl]) ?_
        rw [hσ]
        rfl
def svThen (f : Sv) : Sv := fun st => (f st).bind fun _ st1 => .ok .nx st1
theorem SRes.then {o : Out Fl} {G : SG} {σ0 : L2.St} (r : SRes B W σ0 ρ st H (o.bind fun _ st1 => .ok .nx st1) G) : SRes B W σ0 ρ st H o fun _ σ' st' ρ' H' => G .nx σ' st' ρ' H' := by
  cases o with
  | ok a st1 => exact r
  | exc x st' => exact r
  | stuck => exact r
theorem psd_par {i j : Nat} {x y : Str} {a b : Expr} {fa fb : Ev} {px py pt : Pos} {kt k2 pt2} (hc : X.calm = true) (hN : X.N.Nodup) (hi : X.N[i]? = some x) (hj : X.N[j]? = some y) (hij : i ≠ j)
    (hx : X.env.scope.names.lookup x = some .local) (hy : X.env.scope.names.lookup y = some .local) (ha : ∀ B', B'.C = B.C → PD X B' W a fa) (hb : ∀ B', B'.C = B.C → PD X B' W b fb)
    (hsa : starEach [a, b] X.env = (false, eval a X.env) :: starEach [b] X.env) (hsb : starEach [b] X.env = (false, eval b X.env) :: starEach [] X.env)
    (hw : swappedStores [.Tuple [.Name x px, .Name y py] kt pt] (.Tuple [a, b] k2 pt2) X.env = pure (some [x, y]))
    (hs : swapsWithSole [.Tuple [.Name x px, .Name y py] kt pt] (.Tuple [a, b] k2 pt2) pos.line X.env = pure false) :
    PSD X B W (.Assign [.Tuple [.Name x px, .Name y py] kt pt] (.Tuple [a, b] k2 pt2) pos) (svThen (svPar i fa (svPar j fb svNx))) := by
  refine PS.mono (ps_par hc hN hi hj hij hx hy (ppar_cons (i := i) ha (ppar_cons (i := j) hb ppar_nil hsb) hsa) hw hs) fun D σ H ⟨ρ, st, rel, r⟩ => ?_
  refine ⟨B, ρ, st, rfl, rel, (SRes.then r).imp fun fl σ' st' ρ' H' s r' vs hl hσ => ?_⟩
  obtain ⟨v, w, rfl⟩ : ∃ v w, vs = [v, w] := by
    match vs, hl with
    | [v, w], _ => exact ⟨v, w, rfl⟩
  refine ⟨v, w, rfl, ?_⟩
  rw [hσ] at r'
  have r' : D.nx _ H' := r'
  rw [List.set_comm _ _ hij]
  exact r'
/-! ### x += e, ints -/
def dAddI : Op2
  | .int i, .int j => some (.int (i + j), .new)
  | _, _ => none
def svAug (i : Nat) (fe : Ev) : Sv := fun st => match st.sl[i]? with
  | some (some (.int n, false)) => svSet i (evOp dAddI (evC (.int n)) fe) st
  | _ => .stuck
end
end D

/-! D: what a loop walks; for. -/
namespace D
open PySem L2 PyProof.Rows

structure Later (ρ : List CellA) (A : Addr → Prop) (H : Hp) (ρ' : List CellA) (A' : Addr → Prop) (H' : Hp) : Prop where
  pre : ρ <+: ρ'
  fr : ∀ a o, H a = some o → ¬ A a → NT o → H' a = some o
  av : ∀ a, A' a → A a ∨ H a = none
  dm : ∀ a, H a ≠ none → H' a ≠ none
section
variable {ρ ρ1 ρ2 : List CellA} {A A1 A2 : Addr → Prop} {H H1 H2 : Hp}
theorem Later.refl : Later ρ A H ρ A H := ⟨List.prefix_refl _, fun _ _ e _ _ => e, fun _ z => .inl z, fun _ z => z⟩
theorem Later.trans (a : Later ρ A H ρ1 A1 H1) (b : Later ρ1 A1 H1 ρ2 A2 H2) : Later ρ A H ρ2 A2 H2 :=
  ⟨a.pre.trans b.pre, fun p o e n nt => b.fr p o (a.fr p o e n nt) (fun z => (a.av p z).elim n fun q => (by rw [e] at q; cases q)) nt, fun p z => (b.av p z).elim (a.av p) fun q => .inr (none_of_dm a.dm q), fun p z => b.dm p (a.dm p z)⟩
theorem Rep.later {C : RC} {v : V} {d : DV} (l : Later ρ A H ρ1 A1 H1) (r : Rep C ρ A H v d) : Rep C ρ1 A1 H1 v d := r.mv l.pre l.fr l.av
theorem RepL.later {C : RC} {v : List V} {d : List DV} (l : Later ρ A H ρ1 A1 H1) (r : RepL C ρ A H v d) : RepL C ρ1 A1 H1 v d := r.mv l.pre l.fr l.av
theorem Later.of {B : BC} {σ σ1 : L2.St} {st st1 : DS} (s : SStep B σ ρ st H σ1 ρ1 st1 H1) : Later ρ (Av ρ B.O st σ) H ρ1 (Av ρ1 B.O st1 σ1) H1 :=
  ⟨s.pre, fun a o e n => s.fr a o e (fun z => n (.cm z)) fun i z => n (.inr (.inr ⟨i, z⟩)), s.av, s.dm⟩
/-- an object at p that is not there yet -/
theorem Later.alloc {p : Addr} {o : HO} (hp : H p = none) : Later ρ A H ρ A (upd H p o) :=
  ⟨List.prefix_refl _, fun a u e _ _ => by rw [upd_ne (ne_of_none e hp)]; exact e, fun _ z => .inl z, fun a z => by
    obtain ⟨u, eu⟩ := Option.ne_none_iff_exists'.mp z
    rw [upd_ne (ne_of_none eu hp), eu]; exact fun z => nomatch z⟩
end
/-- what J yields, from there on -/
def Src (C : RC) (J : It) (ds : List DV) (ρ : List CellA) (A : Addr → Prop) (H : Hp) : Prop := ∀ ρ' A' H', Later ρ A H ρ' A' H' → (∀ a, A' a → H' a ≠ none) →
  (∀ (i : Nat) (d : DV), ds[i]? = some d → J.go i H' ∧ ∀ x H2, J.yld i H' x H2 → (H2 = H' ∨ ∃ p o, H' p = none ∧ H2 = upd H' p o) ∧ Rep C ρ' A' H2 x d) ∧ ∀ i, ds.length ≤ i → J.stop i H'
theorem Src.later {C : RC} {J : It} {ds : List DV} {ρ ρ1 : List CellA} {A A1 : Addr → Prop} {H H1 : Hp} (s : Src C J ds ρ A H) (l : Later ρ A H ρ1 A1 H1) : Src C J ds ρ1 A1 H1 :=
  fun ρ' A' H' l' => s ρ' A' H' (l.trans l')
abbrev Iv := DS → Out (List DV)
def GI (B : BC) (σ : L2.St) (R : It → Hp → Prop) : List DV → DS → List CellA → Hp → Prop := fun ds st' ρ' H' => ∀ J, Src B.C J ds ρ' (Av ρ' B.O st' σ) H' → R J H'
def RI (B : BC) (W : WX) (f : Iv) : TI := fun σ H R => ∃ ρ st, Rel B ρ st σ H ∧ Res B W σ ρ st H (f st) (GI B σ R)
def PID (X : Cx) (B : BC) (W : WX) (tg iter : Expr) (f : Iv) : Prop := PI X tg iter (RI B W f)
theorem PI.mono {X : Cx} {tg e : Expr} {t t' : TI} (h : PI X tg e t) (m : ∀ σ H R, t' σ H R → t σ H R) : PI X tg e t' := ⟨fun pins s σ H R I r => h.run pins s σ H R I (m _ _ _ r)⟩

section
variable {X : Cx} {B : BC} {W : WX} {σ : L2.St} {ρ ρ1 : List CellA} {st st1 : DS} {H H1 : Hp} {e tg iter : Expr} {fe : Ev} {pos : Pos} {C : RC}
/-! ### sources -/
theorem src_lst {A : Addr → Prop} {a : Addr} {ds : List DV} (h : ∀ ρ' A' H', Later ρ A H ρ' A' H' → ∃ xs, SqL C.K H' a xs ∧ RepL C ρ' A' H' xs ds) : Src C (Itl C.K a) ds ρ A H := by
  intro ρ' A' H' l dom
  obtain ⟨xs, hq, r⟩ := h ρ' A' H' l
  refine ⟨fun i d hd => ?_, fun i hi => ⟨xs, hq, by rw [r.length]; exact hi⟩⟩
  obtain ⟨v, hv, rv⟩ := r.get hd
  refine ⟨⟨xs, v, hq, hv⟩, fun x H2 ⟨e, y⟩ => ⟨.inl e, ?_⟩⟩
  subst e
  have := y xs hq
  rw [hv] at this
  cases this
  exact rv
theorem src_tup {A : Addr → Prop} {a : Addr} {ds : List DV} (h : ∀ ρ' A' H', Later ρ A H ρ' A' H' → ∃ xs, SqT C.K H' a xs ∧ RepL C ρ' A' H' xs ds) : Src C (Itt C.K a) ds ρ A H := by
  intro ρ' A' H' l dom
  obtain ⟨xs, hq, r⟩ := h ρ' A' H' l
  refine ⟨fun i d hd => ?_, fun i hi => ⟨xs, hq, by rw [r.length]; exact hi⟩⟩
  obtain ⟨v, hv, rv⟩ := r.get hd
  refine ⟨⟨xs, v, hq, hv⟩, fun x H2 ⟨e, y⟩ => ⟨.inl e, ?_⟩⟩
  subst e
  have := y xs hq
  rw [hv] at this
  cases this
  exact rv
theorem scr_repL {A : Addr → Prop} : ∀ ns : List Int, RepL C ρ A H (ns.map V.int) (ns.map DV.int)
  | [] => .nil
  | n :: ns => .cons (.int n) (scr_repL ns)
/-- a list, in all states from there on -/
theorem lst_later {A : Addr → Prop} {v : V} {ds : List DV} (r : Rep C ρ A H v (.lst ds)) : ∃ a, v = .ref a ∧ ∀ ρ' A' H', Later ρ A H ρ' A' H' → ∃ xs, SqL C.K H' a xs ∧ RepL C ρ' A' H' xs ds := by
  have r0 := r
  cases r with
  | lst n e r =>
    refine ⟨_, rfl, fun ρ' A' H' l => ?_⟩
    have r' := r0.later l
    cases r' with
    | lst n e r => exact ⟨_, .of e, r⟩
theorem tup_later {A : Addr → Prop} {v : V} {ds : List DV} (r : Rep C ρ A H v (.tup ds)) : ∃ a, v = .ref a ∧ ∀ ρ' A' H', Later ρ A H ρ' A' H' → ∃ xs, SqT C.K H' a xs ∧ RepL C ρ' A' H' xs ds := by
  have r0 := r
  obtain ⟨a, xs, rfl, _⟩ := sqT_of r
  refine ⟨a, rfl, fun ρ' A' H' l => ?_⟩
  obtain ⟨a', xs, e, h1, h2⟩ := sqT_of (r0.later l)
  cases e
  exact ⟨xs, h1, h2⟩
theorem scr_later {A : Addr → Prop} {v : V} {ns : List Int} (r : Rep C ρ A H v (.scr ns)) : ∃ a, v = .ref a ∧ ∀ ρ' A' H', Later ρ A H ρ' A' H' → ∃ xs, SqL C.K H' a xs ∧ RepL C ρ' A' H' xs (ns.map DV.int) := by
  have r0 := r
  cases r with
  | scr n e =>
    refine ⟨_, rfl, fun ρ' A' H' l => ?_⟩
    have r' := r0.later l
    cases r' with
    | scr n e => exact ⟨_, .inl (.inr ⟨_, e⟩), scr_repL _⟩
    | kscr k => exact ⟨_, .inr k, scr_repL _⟩
  | kscr k => exact ⟨_, rfl, fun ρ' A' H' l => ⟨_, .inr k, scr_repL _⟩⟩
theorem src_str {A : Addr → Prop} {s : Str} : Src C (Its s) (strItems s) ρ A H := by
  intro ρ' A' H' l dom
  refine ⟨fun i d hd => ?_, fun i hi => (show s.cps.size ≤ i by simpa [strItems] using hi)⟩
  simp only [strItems, List.getElem?_map, Option.map_eq_some_iff] at hd
  obtain ⟨c, hc, rfl⟩ := hd
  have hi : i < s.cps.size := by
    have := (List.getElem?_eq_some_iff.mp hc).1
    simpa using this
  refine ⟨hi, fun x H2 ⟨e, c', hc', ex⟩ => ⟨.inl e, ?_⟩⟩
  subst e ex
  have : c' = c := by
    have h1 : s.cps.toList[i]? = some c' := by rw [Array.getElem?_toList]; exact hc'
    rw [hc] at h1; cases h1; rfl
  subst this
  exact .str _
def rangeL (lo : Int) (n : Nat) : List DV := (List.range n).map fun i => .int (lo + (i : Nat))
theorem src_range {A : Addr → Prop} {lo : Int} {n : Nat} : Src C (Itr lo n) (rangeL lo n) ρ A H := by
  intro ρ' A' H' l dom
  refine ⟨fun i d hd => ?_, fun i hi => (show n ≤ i by simpa [rangeL] using hi)⟩
  simp only [rangeL, List.getElem?_map, Option.map_eq_some_iff] at hd
  obtain ⟨k, hk, rfl⟩ := hd
  obtain ⟨hi, hk⟩ := List.getElem?_eq_some_iff.mp hk
  simp only [List.getElem_range] at hk
  subst hk
  refine ⟨(show i < n by simpa using hi), fun x H2 ⟨e, ex⟩ => ⟨.inl e, ?_⟩⟩
  subst ex
  exact .int _
def rangeC (lo c : Int) (n : Nat) : List DV := (List.range n).map fun i => .int (lo + (i : Nat) * c)
theorem src_rangeC {A : Addr → Prop} {lo c : Int} {n : Nat} : Src C (Itc lo c n) (rangeC lo c n) ρ A H := by
  intro ρ' A' H' l dom
  refine ⟨fun i d hd => ?_, fun i hi => (show n ≤ i by simpa [rangeC] using hi)⟩
  simp only [rangeC, List.getElem?_map, Option.map_eq_some_iff] at hd
  obtain ⟨k, hk, rfl⟩ := hd
  obtain ⟨hi, hk⟩ := List.getElem?_eq_some_iff.mp hk
  simp only [List.getElem_range] at hk
  subst hk
  refine ⟨(show i < n by simpa using hi), fun x H2 ⟨e, ex⟩ => ⟨.inl e, ?_⟩⟩
  subst ex
  exact .int _
def enumL (ds : List DV) : List DV := ds.zipIdx.map fun p => .tup [.int (p.2 : Nat), p.1]
def zipL (ds es : List DV) : List DV := (ds.zip es).map fun p => .tup [p.1, p.2]
/-! ### iterables -/
def iAny (K : PySem.W.Frag) (tl : TE) : TI := fun σ H R => tl σ H fun x H1 => (∃ a, x = .ref a ∧ (∃ xs, SqL K H1 a xs) ∧ R (Itl K a) H1) ∨ (∃ a, x = .ref a ∧ (∃ xs, SqT K H1 a xs) ∧ R (Itt K a) H1) ∨ ∃ s, x = .str s ∧ R (Its s) H1
theorem pi_any {l : Expr} {tl : TE} (hl : PE X l tl) : PI X tg l (iAny X.K tl) := by
  refine ⟨fun pins s σ H R I h => ?_⟩
  refine thn (hl.run pins s σ H _ I h) fun v s1 ⟨x, H1, I1, r1, q1⟩ => ?_
  rcases q1 with ⟨a, e, ⟨xs, hq⟩, q⟩ | ⟨a, e, ⟨xs, hq⟩, q⟩ | ⟨y, e, q⟩
  · subst e
    cases r1
    obtain ⟨its, rv, p, hz⟩ := I1.list hq
    exact wpAny_pyIter_list p.isList (pi_one (tk := s1.toks) I1 _ (turn_list a _) ⟨_, Heap.get?_push_size _ rfl, rfl, rfl⟩ q)
  · subst e
    cases r1
    obtain ⟨its, rv, p, hz⟩ := I1.tuple hq
    exact wpAny_pyIter_tuple (show s1.heap.IsTuple a its.toArray from p) (pi_one (tk := s1.toks) I1 _ (turn_tuple a _) ⟨_, Heap.get?_push_size _ rfl, rfl, rfl⟩ q)
  · subst e
    obtain ⟨t, rfl⟩ := r1
    cases ha : y.cps.all (· < 128)
    · exact wpAny_pyIter_wide ha (pi_one (tk := s1.toks) I1 _ (turn_str _ y t "str_iterator" (.inr rfl)) ⟨_, Heap.get?_push_size _ rfl, rfl, rfl⟩ q)
    · exact wpAny_pyIter_ascii ha (pi_one (tk := s1.toks) I1 _ (turn_str _ y t "str_ascii_iterator" (.inl rfl)) ⟨_, Heap.get?_push_size _ rfl, rfl, rfl⟩ q)
def itemsD : DV → Option (List DV)
  | .lst ds => some ds
  | .tup ds => some ds
  | .scr ns => some (ns.map .int)
  | .str s => some (strItems s)
  | _ => none
def ivE (fe : Ev) : Iv := fun st => (fe st).bind fun a st1 => match itemsD a.1 with
  | some ds => .ok ds (st1.eat a.2)
  | none => .stuck
/-- a list, tuple or text -/
theorem pid_any (hK : B.C.K = X.K) (he : PD X B W e fe) : PID X B W tg e (ivE fe) := by
  refine PI.mono (pi_any he) fun σ H R ⟨ρ, st, rel, res⟩ => ?_
  refine RD.go rel (Res.bind res) fun a st1 ρ1 H1 s1 r1 v rv fv => ?_
  obtain ⟨d, kd⟩ := a
  cases ed : itemsD d with
  | none => rw [ed] at r1; exact r1.elim
  | some ds =>
    rw [ed] at r1
    have go := r1 _ _ (Step.eat s1.rel kd)
    have rv := rv.eat
    rw [← hK]
    cases d <;> first | (cases ed; done) | skip
    · cases ed
      obtain ⟨s, e, _⟩ : ∃ s, v = .str s ∧ True := by cases rv; exact ⟨_, rfl, trivial⟩
      subst e
      have := RepK.str (kd := .fro) (B := B) (σ := σ) rv
      cases this
      exact .inr (.inr ⟨_, rfl, go _ src_str⟩)
    · cases ed
      obtain ⟨a, rfl, h⟩ := lst_later rv
      obtain ⟨xs, h1, _⟩ := h _ _ _ .refl
      exact .inl ⟨a, rfl, ⟨xs, h1⟩, go _ (src_lst h)⟩
    · cases ed
      obtain ⟨a, rfl, h⟩ := tup_later rv
      obtain ⟨xs, h1, _⟩ := h _ _ _ .refl
      exact .inr (.inl ⟨a, rfl, ⟨xs, h1⟩, go _ (src_tup h)⟩)
    · cases ed
      obtain ⟨a, rfl, h⟩ := scr_later rv
      obtain ⟨xs, h1, _⟩ := h _ _ _ .refl
      exact .inl ⟨a, rfl, ⟨xs, h1⟩, go _ (src_lst h)⟩

def ivR1 (g : Ak) : Iv := fun st => (g st).bind fun (as : List (DV × Kd)) st1 => match as.map (·.1) with
  | [DV.int j] => if -(2 ^ 62) ≤ j ∧ j < 2 ^ 62 then .ok (rangeL 0 j.toNat) st1 else .stuck
  | _ => .stuck
def ivR2 (g : Ak) : Iv := fun st => (g st).bind fun (as : List (DV × Kd)) st1 => match as.map (·.1) with
  | [DV.int i, DV.int j] => if (-(2 ^ 62) ≤ i ∧ i < 2 ^ 62) ∧ (-(2 ^ 62) ≤ j ∧ j < 2 ^ 62) then .ok (rangeL i (j - i).toNat) st1 else .stuck
  | _ => .stuck
def rgOk (i j c : Int) : Bool := c != 0 && decide (c.natAbs < 1073741824) && Builtin.Range.small i j c && decide (0 ≤ Builtin.Range.rangeSize i j c)
def ivR3 (g : Ak) : Iv := fun st => (g st).bind fun (as : List (DV × Kd)) st1 => match as.map (·.1) with
  | [DV.int i, DV.int j, DV.int c] => if rgOk i j c = true then .ok (rangeC i c (Builtin.Range.rangeSize i j c).toNat) st1 else .stuck
  | _ => .stuck
def ivEnum (g : Ak) : Iv := fun st => (g st).bind fun (as : List (DV × Kd)) st1 => match as with
  | [a] => (match a.1 with
    | .lst ds => .ok (enumL ds) (st1.eat a.2)
    | _ => .stuck)
  | _ => .stuck
def ivZip (g : Ak) : Iv := fun st => (g st).bind fun (as : List (DV × Kd)) st1 => match as with
  | [a, b] => (match a.1, b.1 with
    | .lst ds, .lst es => .ok (zipL ds es) ((st1.eat a.2).eat b.2)
    | _, _ => .stuck)
  | _ => .stuck
variable {g : Ak} {a b c : Expr} {p : Pos}
theorem pid_range1 (hg : Gl X "range") (hm : X.mg "range" = none) (ha : PKD X B W [a] g) (hs : starEach [a] X.env = [(false, eval a X.env)]) : PID X B W tg (.Call (.Name "range" p) [a] [] pos) (ivR1 g) := by
  refine PI.mono (pi_range1 hg hm ha hs) fun σ H R ⟨ρ, st, rel, res⟩ => ?_
  refine RK.go rel (Res.bind res) fun as st1 ρ1 H1 s1 r1 vs rv => ?_
  split at r1
  · rename_i j e
    split at r1
    · rename_i hj
      obtain ⟨v, kd, rfl, r⟩ := one_of rv e
      obtain rfl := r.int
      exact ⟨j, rfl, hj.1, hj.2, Res.now s1.rel r1 _ src_range⟩
    · exact r1.elim
  · exact r1.elim
theorem three_of {xs : List V} {as : List (DV × Kd)} {d d' d'' : DV} (r : RepKs B ρ st σ H xs as) (e : as.map (·.1) = [d, d', d'']) : ∃ v w u kd kd' kd'', xs = [v, w, u] ∧ RepK B ρ st σ H kd v d ∧ RepK B ρ st σ H kd' w d' ∧ RepK B ρ st σ H kd'' u d'' := by
  cases r with
  | nil => cases e
  | @cons v vs a as h t =>
    rw [List.map_cons, List.cons.injEq] at e
    obtain ⟨rfl, e⟩ := e
    obtain ⟨v', w', kd, kd', rfl, h1, h2⟩ := two_of t e
    exact ⟨v, v', w', _, _, _, rfl, h, h1, h2⟩
theorem pid_range3 (hg : Gl X "range") (hm : X.mg "range" = none) (ha : PKD X B W [a, b, c] g) (hs : starEach [a, b, c] X.env = (false, eval a X.env) :: starEach [b, c] X.env) (hpl : (backTo pos (starEach [b, c] X.env)).any (·.1) = false) : PID X B W tg (.Call (.Name "range" p) [a, b, c] [] pos) (ivR3 g) := by
  refine PI.mono (pi_range3 hg hm ha hs hpl) fun σ H R ⟨ρ, st, rel, res⟩ => ?_
  refine RK.go rel (Res.bind res) fun as st1 ρ1 H1 s1 r1 vs rv => ?_
  split at r1
  · rename_i i j k e
    split at r1
    · rename_i hj
      obtain ⟨v, w, u, kd, kd', kd'', rfl, r, r', r''⟩ := three_of rv e
      obtain rfl := r.int
      obtain rfl := r'.int
      obtain rfl := r''.int
      simp only [rgOk, Bool.and_eq_true, decide_eq_true_eq, bne_iff_ne] at hj
      refine ⟨i, j, k, _, rfl, ⟨hj.1.1.1, hj.1.1.2, hj.1.2, ?_⟩, Res.now s1.rel r1 _ src_rangeC⟩
      omega
    · exact r1.elim
  · exact r1.elim
/-! ### for -/
def forGo (g : Gv) (f : Sv) : List DV → Sv
  | [] => fun st => .ok .nx st
  | d :: ds => fun st => match g d st with
    | none => .stuck
    | some st1 => (f st1).bind fun fl st2 => (match fl with
      | .nx => forGo g f ds st2
      | .ct => forGo g f ds st2
      | .bk => .ok .nx st2
      | .rt d kd => .ok (.rt d kd) st2)
def svFor (fi : Iv) (g : Gv) (f : Sv) : Sv := fun st => (fi st).bind fun ds st1 => forGo g f ds st1
theorem RI.go {R : It → Hp → Prop} {f : Iv} {G : List DV → DS → List CellA → Hp → Prop} (rel : Rel B ρ st σ H) (r : Res B W σ ρ st H (f st) G)
    (h : ∀ ds st' ρ' H', Step B σ ρ st H ρ' st' H' → G ds st' ρ' H' → ∀ J, Src B.C J ds ρ' (Av ρ' B.O st' σ) H' → R J H') : RI B W f σ H R := ⟨ρ, st, rel, r.imp h⟩
/-- the turn's new object -/
theorem yld_step {H2 : Hp} (rel : Rel B ρ st σ H) (h : H2 = H ∨ ∃ p o, H p = none ∧ H2 = upd H p o) : Step B σ ρ st H ρ st H2 := by
  rcases h with rfl | ⟨p, o, hp, rfl⟩
  · exact .refl rel
  · exact .alloc rel hp
theorem psd_for {vs : List Nat} {body : List Stmt} {fi : Iv} {gv : Gv} {f : Sv} (hp : PassesOwn (model X.prog X.w) X.A X.env X.xe) (hc : X.calm = true) (hi : PID X B W tg iter fi) (hg : PGD X B.C vs tg gv) (hb : PSsD X B W body f)
    (hs : ∀ x, foldedSetIterable iter X.env x = pure x) : PSD X B W (.For tg iter body [] pos) (svFor fi gv f) := by
  refine PS.mono (ps_for hp hc hi hg hb hs) fun D σ H ⟨ρ, st, rel, r⟩ => ?_
  refine RI.go rel (SRes.ex r) fun ds st1 ρ1 H1 s1 r1 J src => ?_
  refine ⟨fun i m σ' H' => ∃ ρ' st', Later ρ1 (Av ρ1 B.O st1 σ) H1 ρ' (Av ρ' B.O st' σ') H' ∧ Rel B ρ' st' σ' H' ∧ m + i = ds.length ∧ SRes B W σ' ρ' st' H' (forGo gv f (ds.drop i) st') (GS B D), ⟨ds.length, ρ1, st1, .refl, s1.rel, by simp, r1⟩, ?_⟩
  rintro i m σ2 H2 ⟨ρ2, st2, l2, rel2, hm, r2⟩
  obtain ⟨hgo, hstop⟩ := src _ _ _ l2 fun a z => rel2.av_dom z
  cases hd : ds[i]? with
  | none =>
    have hi : ds.length ≤ i := List.getElem?_eq_none_iff.mp hd
    rw [List.drop_eq_nil_of_le hi] at r2
    exact .inl ⟨hstop i hi, SRes.now rel2 r2⟩
  | some d =>
    obtain ⟨hi, hd'⟩ := List.getElem?_eq_some_iff.mp hd
    rw [List.drop_eq_getElem_cons hi, hd'] at r2
    obtain ⟨g1, y1⟩ := hgo i d hd
    have r2 : SRes B W σ2 ρ2 st2 H2 (match gv d st2 with
      | none => .stuck
      | some st1 => (f st1).bind fun fl st2 => (match fl with
        | .nx => forGo gv f (ds.drop (i + 1)) st2
        | .ct => forGo gv f (ds.drop (i + 1)) st2
        | .bk => .ok .nx st2
        | .rt d kd => .ok (.rt d kd) st2)) (GS B D) := r2
    cases eg : gv d st2 with
    | none => rw [eg] at r2; exact r2.elim
    | some st3 =>
      rw [eg] at r2
      refine .inr ⟨g1, fun σ' H' => ∃ ρ' st', Later ρ1 (Av ρ1 B.O st1 σ) H1 ρ' (Av ρ' B.O st' σ') H' ∧ Rel B ρ' st' σ' H' ∧ (m - 1) + (i + 1) = ds.length ∧ SRes B W σ' ρ' st' H' (forGo gv f (ds.drop (i + 1)) st') (GS B D),
        fun σ' H' hN => ⟨m - 1, by omega, hN⟩, fun x H3 hy => ?_⟩
      obtain ⟨ha, rx⟩ := y1 x H3 hy
      have s3 := yld_step rel2 ha
      refine ⟨B, ρ2, st2, d, st3, rfl, s3.rel, rx, eg, fun σ4 s4 _ => ?_⟩
      have s34 := (SStep.of s3).trans s4
      refine ⟨ρ2, st3, s4.rel, (SRes.bind (SRes.from s34 r2)).imp fun fl σ5 st5 ρ5 H5 s5 r5 => ?_⟩
      have l5 := l2.trans (Later.of (s34.trans s5))
      cases fl with
      | nx => exact ⟨ρ5, st5, l5, s5.rel, by omega, r5⟩
      | ct => exact ⟨ρ5, st5, l5, s5.rel, by omega, r5⟩
      | bk => exact SRes.now (W := W) s5.rel r5
      | rt d kd => exact SRes.now (W := W) s5.rel r5
end
end D

/-! D: list comprehensions. -/
namespace D
open PySem L2 PyProof.Rows

def WF : WX := fun _ _ _ _ => False
/-! ### slots forgotten, brought back -/
def wipeSl (l : List Slot) : List Nat → List Slot
  | [] => l
  | v :: vs => (wipeSl l vs).set v none
def backSl (l0 l : List Slot) : List Nat → List Slot
  | [] => l
  | v :: vs => match l0[v]? with
    | some s => (backSl l0 l vs).set v s
    | none => backSl l0 l vs
def DS.wipe (st : DS) (vs : List Nat) : DS := ⟨wipeSl st.sl vs, st.cs⟩
def DS.back (st0 st : DS) (vs : List Nat) : DS := ⟨backSl st0.sl st.sl vs, st.cs⟩
def DS.dropAll (st : DS) : List Nat → DS
  | [] => st
  | v :: vs => (st.drop v).dropAll vs
theorem wipeSl_len (l : List Slot) : ∀ vs, (wipeSl l vs).length = l.length
  | [] => rfl
  | v :: vs => by unfold wipeSl; rw [List.length_set, wipeSl_len l vs]
theorem wipeSl_out {l : List Slot} {i : Nat} : ∀ {vs : List Nat}, i ∉ vs → (wipeSl l vs)[i]? = l[i]?
  | [], _ => rfl
  | v :: vs, h => by
    unfold wipeSl
    have h1 : v ≠ i := fun z => h (by simp [z])
    rw [List.getElem?_set_ne h1]
    exact wipeSl_out fun z => h (by simp [z])
theorem wipeSl_in {l : List Slot} {i : Nat} {x : DV × Bool} : ∀ {vs : List Nat}, i ∈ vs → (wipeSl l vs)[i]? ≠ some (some x)
  | [], h => by simp at h
  | v :: vs, h => by
    unfold wipeSl
    intro z
    by_cases hv : v = i
    · subst hv
      by_cases hl : v < (wipeSl l vs).length
      · rw [List.getElem?_set_self hl] at z; cases z
      · rw [List.getElem?_eq_none (by rw [List.length_set]; omega)] at z; cases z
    · rw [List.getElem?_set_ne hv] at z
      have : i ∈ vs := by
        rcases List.mem_cons.mp h with h | h
        · exact absurd h.symm hv
        · exact h
      exact wipeSl_in this z
theorem wipe_in {σ : L2.St} {i : Nat} {x : V} {vs : List Nat} (h : i ∈ vs) : (wipe σ vs)[i]? ≠ some (some x) := fun z => (wipe_some z).2 h
theorem backSl_len (l0 l : List Slot) : ∀ vs, (backSl l0 l vs).length = l.length
  | [] => rfl
  | v :: vs => by
    unfold backSl
    split
    · rw [List.length_set, backSl_len l0 l vs]
    · exact backSl_len l0 l vs
theorem backSl_out {l0 l : List Slot} {i : Nat} : ∀ {vs : List Nat}, i ∉ vs → (backSl l0 l vs)[i]? = l[i]?
  | [], _ => rfl
  | v :: vs, h => by
    unfold backSl
    have h1 : v ≠ i := fun z => h (by simp [z])
    have h2 := backSl_out (l0 := l0) (l := l) (i := i) (vs := vs) fun z => h (by simp [z])
    split
    · rw [List.getElem?_set_ne h1]; exact h2
    · exact h2
theorem backSl_in {l0 l : List Slot} (hl : l0.length = l.length) {i : Nat} : ∀ {vs : List Nat}, i ∈ vs → (backSl l0 l vs)[i]? = l0[i]?
  | [], h => by simp at h
  | v :: vs, h => by
    unfold backSl
    by_cases hv : v = i
    · subst hv
      cases e : l0[v]? with
      | none =>
        have : l0.length ≤ v := List.getElem?_eq_none_iff.mp e
        exact List.getElem?_eq_none (by rw [backSl_len]; omega)
      | some s =>
        have : v < l0.length := (List.getElem?_eq_some_iff.mp e).1
        exact List.getElem?_set_self (by rw [backSl_len]; omega)
    · have hi : i ∈ vs := by
        rcases List.mem_cons.mp h with h | h
        · exact absurd h.symm hv
        · exact h
      split
      · rw [List.getElem?_set_ne hv]; exact backSl_in hl hi
      · exact backSl_in hl hi
theorem wipe_eq {σ σ' : L2.St} {vs : List Nat} (hl : σ'.length = σ.length) (h : ∀ i, i ∉ vs → σ'[i]? = σ[i]?) : wipe σ' vs = wipe σ vs := by
  refine List.ext_getElem? fun i => ?_
  by_cases hi : i ∈ vs
  · by_cases hn : i < σ.length
    · have a : ∀ σ0 : L2.St, i < σ0.length → (wipe σ0 vs)[i]? = some none := fun σ0 h0 => by
        have h1 : i < (wipe σ0 vs).length := by rw [wipe_length]; exact h0
        rw [List.getElem?_eq_getElem h1]
        cases e : (wipe σ0 vs)[i] with
        | none => rfl
        | some x =>
          exfalso
          exact wipe_in (x := x) (σ := σ0) hi (by rw [List.getElem?_eq_getElem h1, e])
      rw [a σ' (by omega), a σ hn]
    · rw [List.getElem?_eq_none (by rw [wipe_length]; omega), List.getElem?_eq_none (by rw [wipe_length]; omega)]
  · rw [wipe_out hi, wipe_out hi, h i hi]
section
variable {X : Cx} {B : BC} {W : WX} {σ σ1 σ2 : L2.St} {ρ ρ1 ρ2 : List CellA} {st st1 st2 : DS} {H H1 H2 : Hp} {p : Addr} {vs : List Nat}
theorem Step.dropAll : ∀ (vs : List Nat) {st : DS}, Rel B ρ st σ H → Step B σ ρ st H ρ (st.dropAll vs) H
  | [], _, r => .refl r
  | v :: vs, _, r => (Step.drop r v).trans (Step.dropAll vs (Step.drop r v).rel)
theorem drop_frozen {st : DS} {v i : Nat} {d : DV} (h : (st.drop v).sl[i]? = some (some (d, true))) : i ≠ v ∧ st.sl[i]? = some (some (d, true)) := by
  by_cases hj : i = v
  · subst hj
    exact absurd (dropSl_at st.sl i d true h).1 (by simp)
  · exact ⟨hj, by rw [← dropSl_ne st.sl v i hj]; exact h⟩
theorem dropAll_frozen {i : Nat} {d : DV} : ∀ {vs : List Nat} {st : DS}, (st.dropAll vs).sl[i]? = some (some (d, true)) → i ∉ vs ∧ st.sl[i]? = some (some (d, true))
  | [], st, h => ⟨by simp, h⟩
  | v :: vs, st, h => by
    obtain ⟨h1, h2⟩ := dropAll_frozen (vs := vs) (st := st.drop v) h
    obtain ⟨h3, h4⟩ := drop_frozen h2
    exact ⟨by simp [h1, h3], h4⟩
/-- none of the block's slots is own -/
def NoOwn (vs : List Nat) (st : DS) : Prop := ∀ (i : Nat) (d : DV), i ∈ vs → st.sl[i]? ≠ some (some (d, true))
theorem noOwn_dropAll : NoOwn vs (st.dropAll vs) := fun i d hi h => (dropAll_frozen h).1 hi
theorem wipe_own (no : NoOwn vs st) {i : Nat} {a : Addr} : ownAt (st.wipe vs) (wipe σ vs) i a ↔ ownAt st σ i a := by
  constructor
  · rintro ⟨d, h1, h2⟩
    by_cases hi : i ∈ vs
    · exact absurd h1 (wipeSl_in hi)
    · have h1 : (wipeSl st.sl vs)[i]? = some (some (d, true)) := h1
      rw [wipeSl_out hi] at h1
      rw [wipe_out hi] at h2
      exact ⟨d, h1, h2⟩
  · rintro ⟨d, h1, h2⟩
    have hi : i ∉ vs := fun z => no i d z h1
    exact ⟨d, (wipeSl_out hi).trans h1, (wipe_out hi).trans h2⟩
theorem wipe_av (no : NoOwn vs st) {O : Addr → Prop} {a : Addr} : Av ρ O (st.wipe vs) (wipe σ vs) a ↔ Av ρ O st σ a := by
  unfold Av
  simp only [wipe_own no]
theorem Rel.wipe (r : Rel B ρ st σ H) (no : NoOwn vs st) : Rel B ρ (st.wipe vs) (L2.wipe σ vs) H := by
  have mv : ∀ a, Av ρ B.O (st.wipe vs) (L2.wipe σ vs) a → Av ρ B.O st σ a ∨ H a = none := fun a z => .inl ((wipe_av no).mp z)
  refine ⟨by rw [wipe_length]; exact (wipeSl_len _ _).trans r.len, fun i d h => ?_, fun i d h => ?_, fun i j q h1 h2 => r.dis i j q ((wipe_own no).mp h1) ((wipe_own no).mp h2), r.dom, r.odom, ⟨r.cel.len, fun k c x h1 h2 => ?_, r.cel.dis⟩, r.cdom, r.tabs⟩
  · by_cases hi : i ∈ vs
    · exact absurd h (wipeSl_in hi)
    · have h : (wipeSl st.sl vs)[i]? = some (some (d, false)) := h
      rw [wipeSl_out hi] at h
      obtain ⟨v, e, q⟩ := r.fro i d h
      exact ⟨v, (wipe_out hi).trans e, q.mv (List.prefix_refl _) (fun _ _ e _ _ => e) mv⟩
  · by_cases hi : i ∈ vs
    · exact absurd h (wipeSl_in hi)
    · have h : (wipeSl st.sl vs)[i]? = some (some (d, true)) := h
      rw [wipeSl_out hi] at h
      obtain ⟨q, e, c, n⟩ := r.own i d h
      exact ⟨q, (wipe_out hi).trans e, c.mv (List.prefix_refl _) (fun _ _ e _ _ => e) mv rfl, n⟩
  · have q := r.cel.ok k c x h1 h2
    cases x with
    | draw d => exact q
    | obj d => exact ⟨q.1, q.2.mv (List.prefix_refl _) (fun _ _ e _ _ => e) mv rfl⟩
    | dead => trivial
theorem Rel.holdA (r : Rel B ρ st σ H) {o : HO} (hp : H p = none) : Rel (B.hold p) ρ st σ (upd H p o) := by
  have r1 := r.alloc (o := o) hp
  have kp : ∀ a u, H a = some u → upd H p o a = some u := fun a u e => by rw [upd_ne (ne_of_none e hp)]; exact e
  have mv : ∀ a, Av ρ (B.hold p).O st σ a → Av ρ B.O st σ a ∨ H a = none := fun a z => by
    rcases av_hold z with z | rfl
    · exact .inl z
    · exact .inr hp
  refine ⟨r.len, fun i d h => ?_, fun i d h => ?_, r.dis, r1.dom, fun a z => ?_, ⟨r.cel.len, fun k c x h1 h2 => ?_, r.cel.dis⟩, r1.cdom, r1.tabs⟩
  · obtain ⟨v, e, q⟩ := r.fro i d h
    exact ⟨v, e, q.mv (List.prefix_refl _) (fun a u e _ _ => kp a u e) mv⟩
  · obtain ⟨q, e, c, n1, n2, n3⟩ := r.own i d h
    obtain ⟨u, eu, nteu⟩ := c.nt
    exact ⟨q, e, c.mv (List.prefix_refl _) (fun a u e _ _ => kp a u e) mv ((kp _ _ eu).trans eu.symm), n1, fun z => z.elim n2 fun z => (by subst z; exact c.some hp), n3⟩
  · rcases z with z | rfl
    · exact r1.odom a z
    · rw [upd_same]; exact fun z => nomatch z
  · have q := r.cel.ok k c x h1 h2
    cases x with
    | draw d =>
      obtain ⟨g, l, e, n1, n2, n3, a, b, c⟩ := q
      exact ⟨g, l, e, n1, n2, n3, kp _ _ a, kp _ _ b, kp _ _ c⟩
    | obj d =>
      obtain ⟨e, q⟩ := q
      obtain ⟨u, eu, nteu⟩ := q.nt
      exact ⟨e, q.mv (List.prefix_refl _) (fun a u e _ _ => kp a u e) mv ((kp _ _ eu).trans eu.symm)⟩
    | dead => trivial
/-- what is held may be written -/
theorem Rel.writeHeld (r : Rel (B.hold p) ρ st σ H) (hc : ¬ CM ρ p) {o : HO} (hw : ∀ u, H p = some u → WR u) : Rel (B.hold p) ρ st σ (upd H p o) := by
  have kp : ∀ a u, H a = some u → ¬ Av ρ (B.hold p).O st σ a → NT u → upd H p o a = some u := fun a u e n _ => by
    rw [upd_ne (fun z => n (by subst z; exact .inl (.inr rfl)))]; exact e
  have mv : ∀ a, Av ρ (B.hold p).O st σ a → Av ρ (B.hold p).O st σ a ∨ H a = none := fun a z => .inl z
  have dm : ∀ a, H a ≠ none → upd H p o a ≠ none := fun a z => by
    by_cases h : a = p
    · subst h; rw [upd_same]; exact fun z => nomatch z
    · rw [upd_ne h]; exact z
  have kc : ∀ a, CM ρ a → upd H p o a = H a := fun a z => upd_ne fun e => hc (e ▸ z)
  refine ⟨r.len, fun i d h => ?_, fun i d h => ?_, r.dis, fun a z => dm a (r.dom a z), fun a z => dm a (r.odom a z), ⟨r.cel.len, fun k c x h1 h2 => ?_, r.cel.dis⟩, fun a z => dm a (r.cdom a z), tabs_write r.tabs hw⟩
  · obtain ⟨v, e, q⟩ := r.fro i d h
    exact ⟨v, e, q.mv (List.prefix_refl _) kp mv⟩
  · obtain ⟨q, e, c, n1, n2, n3⟩ := r.own i d h
    exact ⟨q, e, c.mv (List.prefix_refl _) kp mv (upd_ne fun z => n2 (.inr z)), n1, n2, n3⟩
  · have q := r.cel.ok k c x h1 h2
    have cm : ∀ a, (a = c.main ∨ a ∈ c.more) → CM ρ a := fun a z => ⟨c, List.mem_of_getElem? h1, z⟩
    cases x with
    | draw d =>
      obtain ⟨g, l, e, n1, n2, n3, a, b, c'⟩ := q
      exact ⟨g, l, e, n1, n2, n3, (kc _ (cm _ (.inl rfl))).trans a, (kc _ (cm _ (.inr (by rw [e]; simp)))).trans b, (kc _ (cm _ (.inr (by rw [e]; simp)))).trans c'⟩
    | obj d => exact ⟨q.1, q.2.mv (List.prefix_refl _) kp mv (kc _ (cm _ (.inl rfl)))⟩
    | dead => trivial
/-- back from the block: st the outer state ahead of the turn, sti the block's own behind it -/
theorem Step.back {sti : DS} (r : Rel B ρ st σ H) (no : NoOwn vs st) (ho : ∀ i, i ∉ vs → σ2[i]? = σ[i]?) (hsl : ∀ (i : Nat) (d : DV) (b : Bool), i ∉ vs → sti.sl[i]? = some (some (d, b)) → ∃ c, st.sl[i]? = some (some (d, c)))
    (hsub : ∀ i a, i ∉ vs → ownAt sti σ2 i a → ownAt st σ i a) (pre : ρ <+: ρ1) (rel : Rel B ρ1 sti σ2 H1) (hlen : sti.sl.length = st.sl.length) (fr : ∀ a o, H a = some o → ¬ CM ρ a → NT o → H1 a = some o) (cm : ∀ a, CM ρ1 a → CM ρ a ∨ H a = none) (dm : ∀ a, H a ≠ none → H1 a ≠ none) :
    Step B σ ρ st H ρ1 (st.back sti vs) H1 ∧ NoOwn vs (st.back sti vs) ∧ ∀ a, Av ρ1 B.O (st.back sti vs) σ a → Av ρ1 B.O sti σ2 a := by
  have bi : ∀ i, i ∈ vs → (st.back sti vs).sl[i]? = st.sl[i]? := fun i hi => backSl_in hlen.symm hi
  have bo : ∀ i, i ∉ vs → (st.back sti vs).sl[i]? = sti.sl[i]? := fun i hi => backSl_out hi
  have own1 : ∀ i a, ownAt (st.back sti vs) σ i a → i ∉ vs ∧ ownAt sti σ2 i a := fun i a ⟨d, h1, h2⟩ => by
    by_cases hi : i ∈ vs
    · rw [bi i hi] at h1
      exact absurd h1 (no i d hi)
    · rw [bo i hi] at h1
      exact ⟨hi, d, h1, by rw [ho i hi]; exact h2⟩
  have avI : ∀ a, Av ρ1 B.O (st.back sti vs) σ a → Av ρ1 B.O sti σ2 a := fun a z => by
    rcases z with z | z | ⟨i, z⟩
    · exact .inl z
    · exact .inr (.inl z)
    · exact .inr (.inr ⟨i, (own1 i a z).2⟩)
  have mvI : ∀ a, Av ρ1 B.O (st.back sti vs) σ a → Av ρ1 B.O sti σ2 a ∨ H1 a = none := fun a z => .inl (avI a z)
  have avO : ∀ a, Av ρ1 B.O (st.back sti vs) σ a → Av ρ B.O st σ a ∨ H a = none := fun a z => by
    rcases z with z | z | ⟨i, z⟩
    · exact .inl (.inl z)
    · exact (cm a z).imp (fun z => .inr (.inl z)) id
    · obtain ⟨hi, z⟩ := own1 i a z
      exact .inl (.inr (.inr ⟨i, hsub i a hi z⟩))
  have rel' : Rel B ρ1 (st.back sti vs) σ H1 := by
    refine ⟨?_, fun i d h => ?_, fun i d h => ?_, fun i j q h1 h2 => rel.dis i j q (own1 i q h1).2 (own1 j q h2).2, rel.dom, rel.odom, ⟨rel.cel.len, fun k c x h1 h2 => ?_, rel.cel.dis⟩, rel.cdom, rel.tabs⟩
    · show (backSl _ _ _).length = _
      rw [backSl_len, hlen, r.len]
    · by_cases hi : i ∈ vs
      · rw [bi i hi] at h
        obtain ⟨v, e, q⟩ := r.fro i d h
        exact ⟨v, e, q.mv pre (fun a o e n => fr a o e fun z => n (.cm z)) avO⟩
      · rw [bo i hi] at h
        obtain ⟨v, e, q⟩ := rel.fro i d h
        exact ⟨v, by rw [← ho i hi]; exact e, q.mv (List.prefix_refl _) (fun _ _ e _ _ => e) mvI⟩
    · by_cases hi : i ∈ vs
      · rw [bi i hi] at h
        exact absurd h (no i d hi)
      · rw [bo i hi] at h
        obtain ⟨q, e, c, n⟩ := rel.own i d h
        exact ⟨q, by rw [← ho i hi]; exact e, c.mv (List.prefix_refl _) (fun _ _ e _ _ => e) mvI rfl, n⟩
    · have q := rel.cel.ok k c x h1 h2
      cases x with
      | draw d => exact q
      | obj d => exact ⟨q.1, q.2.mv (List.prefix_refl _) (fun _ _ e _ _ => e) mvI rfl⟩
      | dead => trivial
  refine ⟨⟨pre, rel', fr, fun i a z => hsub i a (own1 i a z).1 (own1 i a z).2, fun i d b z => ?_, cm, dm⟩, fun i d hi z => ?_, avI⟩
  · by_cases hi : i ∈ vs
    · rw [bi i hi] at z
      exact ⟨b, z⟩
    · rw [bo i hi] at z
      exact hsl i d b hi z
  · rw [bi i hi] at z
    exact no i d hi z

/-! ### [elt for target in iter if ..] -/
def lcGo (vs : List Nat) (g : Gv) (tt : Tv) (fe : Ev) : List DV → List DV → DS → Option (List DV × DS)
  | [], acc, st => some (acc, st)
  | d :: ds, acc, st => match g d (st.wipe vs) with
    | none => none
    | some sta => match tt sta with
      | .ok true stb => (match fe stb with
        | .ok a stc => lcGo vs g tt fe ds (acc ++ [a.1]) (st.back (stc.eat a.2) vs)
        | _ => none)
      | .ok false stb => lcGo vs g tt fe ds acc (st.back stb vs)
      | _ => none
def evLc (vs : List Nat) (fi : Iv) (g : Gv) (tt : Tv) (fe : Ev) : Ev := fun st => (fi st).bind fun ds st1 => if ds.length ≤ sizeLine then (match lcGo vs g tt fe ds [] (st1.dropAll vs) with
  | some r => .ok (.lst r.1, .new) r.2
  | none => .stuck) else .stuck
def RTx (C : RC) (f : Tv) : TT := fun σ H Q => ∃ B, B.C = C ∧ RT B WF f σ H Q
def tvYes : Tv := fun st => .ok true st
theorem ptsx_nil {C : RC} : PTs X [] (RTx C tvYes) := ⟨fun pins s σ H Q I ⟨B, _, ρ, st, rel, r⟩ => (pts_nil (X := X)).run pins s σ H Q I (Res.now rel r)⟩
theorem ptsx_one {C : RC} {c : Expr} {t : Tv} (h : ∀ B, B.C = C → PTD X B WF c t) : PTs X [c] (RTx C t) := pts_one ⟨fun pins s σ H Q I ⟨B, e, r⟩ => (h B e).run pins s σ H Q I r⟩
theorem tLc_of {vt : List Nat} {fi : Iv} {g : Gv} {tt : Tv} {fe : Ev} {Q : VK} (hv : ∀ i ∈ vt, i ∈ vs) (h : RD B W (evLc vs fi g tt fe) σ H Q) : tLc (RI B W fi) (RG B.C vt g) (RTx B.C tt) (RDx B.C WF fe) vs σ H Q := by
  obtain ⟨ρ, st, rel, res⟩ := h
  refine RI.go rel (Res.bind res) fun ds st1 ρ1 H1 s1 r1 J src => ?_
  intro D hD
  split at r1
  case isFalse => exact r1.elim
  rename_i hlen
  have sd := Step.dropAll vs s1.rel
  cases hfin : lcGo vs g tt fe ds [] (st1.dropAll vs) with
  | none => rw [hfin] at r1; exact r1.elim
  | some fin =>
  rw [hfin] at r1
  generalize hst2 : st1.dropAll vs = st2 at *
  have no2 : NoOwn vs st2 := by rw [← hst2]; exact noOwn_dropAll
  have rel2 := sd.rel
  -- the invariant
  let Wv : Nat → Nat → Hp → Prop := fun i m H' => ∃ ρ' st' xs acc, m + i = ds.length ∧ Step B σ ρ1 st2 H1 ρ' st' H' ∧ Rel (B.hold D) ρ' st' σ H' ∧ NoOwn vs st' ∧ ¬ CM ρ' D ∧ H' D = some (.lst xs) ∧ RepL B.C ρ' (Av ρ' (B.hold D).O st' σ) H' xs acc ∧ acc.length ≤ i ∧ lcGo vs g tt fe (ds.drop i) acc st' = some fin
  have nD : ¬ CM ρ1 D := fun z => rel2.cdom D z hD
  refine ⟨Wv, ⟨ds.length, ρ1, st2, [], [], by simp, Step.alloc rel2 hD, Rel.holdA rel2 hD, no2, nD, upd_same, .nil, Nat.le_refl _, hfin⟩, ?_⟩
  rintro i m H2 ⟨ρ2, st3, xs, acc, hm, s2, rh, no3, ncm, hDl, racc, hacc, go⟩
  have l2 : Later ρ1 (Av ρ1 B.O st1 σ) H1 ρ2 (Av ρ2 (B.hold D).O st3 σ) H2 := by
    have l0 := (Later.of (SStep.of sd)).trans (Later.of (SStep.of s2))
    refine ⟨l0.pre, l0.fr, fun a z => ?_, l0.dm⟩
    rcases av_hold z with z | rfl
    · exact l0.av a z
    · exact .inr hD
  obtain ⟨hgo, hstop⟩ := src _ _ _ l2 fun a z => rh.av_dom z
  cases hd : ds[i]? with
  | none =>
    have hi : ds.length ≤ i := List.getElem?_eq_none_iff.mp hd
    rw [List.drop_eq_nil_of_le hi] at go
    simp only [lcGo, Option.some.injEq] at go
    subst go
    refine .inl ⟨hstop i hi, ?_⟩
    have nav : ¬ Av ρ2 B.O st3 σ D := fun z => by
      rcases z with z | z | ⟨k, z⟩
      · exact rel2.odom D z hD
      · exact ncm z
      · obtain ⟨d, z1, z2⟩ := z
        obtain ⟨w, e1, _, _, n2, _⟩ := rh.own k d z1
        rw [z2] at e1
        cases e1
        exact n2 (.inr rfl)
    refine r1 ρ2 H2 (sd.trans s2) (.ref D) ⟨.lst nav hDl (RepL.unhold racc), fun q e _ => ?_⟩ fun q e => ?_
    · cases e
      exact ⟨xs, hDl, racc.mv (List.prefix_refl _) (fun _ _ e _ _ => e) fun a z => .inl (hold_av z)⟩
    · cases e
      exact none_of_dm s1.dm hD
  | some d =>
    obtain ⟨hi, hd'⟩ := List.getElem?_eq_some_iff.mp hd
    rw [List.drop_eq_getElem_cons hi, hd'] at go
    obtain ⟨g1, y1⟩ := hgo i d hd
    unfold lcGo at go
    cases eg : g d (st3.wipe vs) with
    | none => rw [eg] at go; cases go
    | some sta =>
      rw [eg] at go
      dsimp only at go
      refine .inr ⟨g1, fun H' => Wv (i + 1) (m - 1) H', fun H' hN => ⟨m - 1, by omega, hN⟩, fun x H3 hy => ?_⟩
      obtain ⟨ha, rx⟩ := y1 x H3 hy
      have s3 := yld_step rh ha
      have s2' : Step B σ ρ1 st2 H1 ρ2 st3 H3 := Step.unhold s2 s3
      have rw3 := Rel.wipe s3.rel no3
      have rxw : Rep B.C ρ2 (Av ρ2 (B.hold D).O (st3.wipe vs) (L2.wipe σ vs)) H3 x d := rx.mv (List.prefix_refl _) (fun _ _ e _ _ => e) fun a z => .inl ((wipe_av no3).mp z)
      have hD3 : H3 D = some (.lst xs) := s3.fr D _ hDl ncm trivial
      have racc3 : RepL B.C ρ2 (Av ρ2 (B.hold D).O st3 σ) H3 xs acc := RepL.step s3 racc
      refine ⟨B.hold D, ρ2, st3.wipe vs, d, sta, rfl, rw3, rxw, eg, fun σ4 s4 on => ?_⟩
      have hw4 : L2.wipe σ4 vs = L2.wipe σ vs := by
        have e1 := wipe_eq (σ := L2.wipe σ vs) (σ' := σ4) (vs := vs) on.len fun k hk => (on.out k fun z => hk (hv k z)).1
        rw [e1]
        exact wipe_eq (wipe_length _ _) fun k hk => wipe_out hk
      refine ⟨hw4, ?_⟩
      -- outside the block's slots all is as it was
      have ho4 : ∀ k, k ∉ vs → σ4[k]? = σ[k]? := fun k hk => ((on.out k fun z => hk (hv k z)).1).trans (wipe_out hk)
      have hsl4 : ∀ k, k ∉ vs → sta.sl[k]? = st3.sl[k]? := fun k hk => ((on.out k fun z => hk (hv k z)).2).trans (wipeSl_out hk)
      have own4 : ∀ k a, k ∉ vs → ownAt sta σ4 k a → ownAt st3 σ k a := fun k a hk ⟨d, z1, z2⟩ => ⟨d, by rw [← hsl4 k hk]; exact z1, by rw [← ho4 k hk]; exact z2⟩
      have len4 : sta.sl.length = st3.sl.length := by
        rw [s4.rel.len, on.len, wipe_length, ← s3.rel.len]
      -- the end of a turn
      have turn : ∀ ρ5 (sti : DS) H5, Step (B.hold D) σ4 ρ2 sta H3 ρ5 sti H5 → Step (B.hold D) σ ρ2 st3 H3 ρ5 (st3.back sti vs) H5 ∧ NoOwn vs (st3.back sti vs) ∧ ∀ a, Av ρ5 (B.hold D).O (st3.back sti vs) σ a → Av ρ5 (B.hold D).O sti σ4 a := fun ρ5 sti H5 s5 => by
        refine Step.back s3.rel no3 ho4 (fun k d b hk z => ?_) (fun k a hk z => own4 k a hk (s5.sub k a z)) s5.pre s5.rel ?_ s5.fr s5.cm s5.dm
        · obtain ⟨c, z⟩ := s5.sl k d b z
          rw [hsl4 k hk] at z
          exact ⟨c, z⟩
        · rw [s5.rel.len, ← s4.rel.len, len4]
      have fin' : ∀ ρ5 (sto : DS) H5, Step (B.hold D) σ ρ2 st3 H3 ρ5 sto H5 → NoOwn vs sto → ¬ CM ρ5 D ∧ H5 D = some (.lst xs) ∧ RepL B.C ρ5 (Av ρ5 (B.hold D).O sto σ) H5 xs acc := fun ρ5 sto H5 s5 no5 =>
        ⟨fun z => (s5.cm D z).elim ncm fun q => (by rw [hD3] at q; cases q), s5.fr D _ hD3 ncm trivial, RepL.step s5 racc3⟩
      cases et : tt sta with
      | stuck => rw [et] at go; cases go
      | exc _ _ => rw [et] at go; cases go
      | ok b stb =>
        rw [et] at go
        refine ⟨B.hold D, rfl, ρ2, sta, s4.rel, ?_⟩
        rw [et]
        intro ρ5 H5 s5
        show if b = true then _ else _
        cases b with
        | false =>
          rw [if_neg Bool.false_ne_true]
          obtain ⟨t1, t2, t3⟩ := turn ρ5 stb H5 s5
          obtain ⟨f1, f2, f3⟩ := fin' ρ5 _ H5 t1 t2
          exact ⟨ρ5, _, xs, acc, by omega, Step.unhold s2' t1, t1.rel, t2, f1, f2, f3, by omega, go⟩
        | true =>
          rw [if_pos rfl]
          cases ee : fe stb with
          | stuck => simp only [ee] at go; cases go
          | exc _ _ => simp only [ee] at go; cases go
          | ok a stc =>
            simp only [ee] at go
            refine ⟨B.hold D, rfl, ρ5, stb, s5.rel, ?_⟩
            rw [ee]
            intro ρ6 H6 s6 y ry fy
            have s7 := s5.trans (s6.trans (Step.eat s6.rel a.2))
            obtain ⟨t1, t2, t3⟩ := turn ρ6 _ H6 s7
            obtain ⟨f1, f2, f3⟩ := fin' ρ6 _ H6 t1 t2
            have ry' : Rep B.C ρ6 (Av ρ6 (B.hold D).O (st3.back (stc.eat a.2) vs) σ) H6 y a.1 := ry.eat.mv (List.prefix_refl _) (fun _ _ e _ _ => e) fun a z => .inl (t3 a z)
            have hl : xs.length = acc.length := racc.length
            refine ⟨xs, f2, by omega, ?_⟩
            have mvD : ∀ q o, H6 q = some o → ¬ Av ρ6 (B.hold D).O (st3.back (stc.eat a.2) vs) σ q → NT o → upd H6 D (.lst (xs ++ [y])) q = some o := fun q o e n _ => by
              rw [upd_ne (fun z => n (by subst z; exact .inl (.inr rfl)))]; exact e
            have s8 := Step.unhold s2' t1
            have rel7 := Rel.writeHeld (o := .lst (xs ++ [y])) t1.rel f1 (fun u e => by rw [f2] at e; cases e; trivial)
            have s9 : Step B σ ρ1 st2 H1 ρ6 (st3.back (stc.eat a.2) vs) (upd H6 D (.lst (xs ++ [y]))) := by
              refine ⟨s8.pre, rel7.unhold, fun q o e n nt => ?_, s8.sub, s8.sl, s8.cm, fun q z => ?_⟩
              · rw [upd_ne (fun z => by subst z; rw [hD] at e; cases e)]
                exact s8.fr q o e n nt
              · by_cases hq : q = D
                · subst hq; exact absurd hD z
                · rw [upd_ne hq]; exact s8.dm q z
            refine ⟨ρ6, _, xs ++ [y], acc ++ [a.1], by omega, s9, rel7, t2, f1, upd_same, ?_, by simp; omega, go⟩
            exact RepL.append (f3.mv (List.prefix_refl _) mvD fun a z => .inl z) (.cons (ry'.mv (List.prefix_refl _) mvD fun a z => .inl z) .nil)
/-- [elt for tg in iter if ..] as a value -/
theorem pd_lc {elt tg iter : Expr} {ifs : List Expr} {scope : Scope} {own : List (Str × Nat)} {pos : Pos} {vt : List Nat} {fi : Iv} {g : Gv} {tt : Tv} {fe : Ev} (hc : X.calm = true) (hN : X.N.Nodup) (hi : PID X B W tg iter fi) (ok : BlkOk X.N X.env.scope scope own) (hv : ∀ i ∈ vt, i ∈ own.map (·.2))
    (hg : ∀ (s : Shared) (H : Hp) (C : Addr) (cl : List (Str × Addr)) (fp : List Addr), PGD (X.blk s H scope (compEnvC scope cl C X.env) fp) B.C vt tg g)
    (ht : ∀ (s : Shared) (H : Hp) (C : Addr) (cl : List (Str × Addr)) (fp : List Addr), PTs (X.blk s H scope (compEnvC scope cl C X.env) fp) ifs (RTx B.C tt))
    (he : ∀ (s : Shared) (H : Hp) (C : Addr) (cl : List (Str × Addr)) (fp : List Addr) (B' : BC), B'.C = B.C → PD (X.blk s H scope (compEnvC scope cl C X.env) fp) B' WF elt fe) (hs : ∀ x, foldedSetIterable iter X.env x = pure x) :
    PD X B W (.ListComp elt [⟨tg, iter, ifs, 0⟩] scope pos) (evLc (own.map (·.2)) fi g tt fe) :=
  PE.mono (pe_lc hc hN hi ok hg ht (fun s H C cl fp => pdx (he s H C cl fp)) hs) fun _ _ _ h => tLc_of hv h
/-- y = [elt for tg in iter if ..] on one line -/
theorem psd_setLc {i : Nat} {y : Str} {py : Pos} {elt tg iter : Expr} {ifs : List Expr} {scope : Scope} {own : List (Str × Nat)} {pos spos : Pos} {vt : List Nat} {fi : Iv} {g : Gv} {tt : Tv} {fe : Ev} (hc : X.calm = true) (hN : X.N.Nodup) (hy : X.N[i]? = some y) (hyl : X.env.scope.names.lookup y = some .local)
    (hsw : swapsWith (.ListComp elt [⟨tg, iter, ifs, 0⟩] scope pos) (some (.Name y py)) spos.line X.env = pure true) (hi : PID X B W tg iter fi) (ok : BlkOk X.N X.env.scope scope own) (hv : ∀ i ∈ vt, i ∈ own.map (·.2))
    (hg : ∀ (s : Shared) (H : Hp) (C : Addr) (cl : List (Str × Addr)) (fp : List Addr), PGD (X.blk s H scope (compEnvC scope cl C X.env) fp) B.C vt tg g)
    (ht : ∀ (s : Shared) (H : Hp) (C : Addr) (cl : List (Str × Addr)) (fp : List Addr), PTs (X.blk s H scope (compEnvC scope cl C X.env) fp) ifs (RTx B.C tt))
    (he : ∀ (s : Shared) (H : Hp) (C : Addr) (cl : List (Str × Addr)) (fp : List Addr) (B' : BC), B'.C = B.C → PD (X.blk s H scope (compEnvC scope cl C X.env) fp) B' WF elt fe) (hs : ∀ x, foldedSetIterable iter X.env x = pure x) :
    PSD X B W (.Assign [.Name y py] (.ListComp elt [⟨tg, iter, ifs, 0⟩] scope pos) spos) (svSet i (evLc (own.map (·.2)) fi g tt fe)) :=
  PS.mono (ps_setLc hc hN hy hyl hsw hi ok hg ht (fun s H C cl fp => pdx (he s H C cl fp)) hs) fun D σ H h => rs_set (fun _ _ _ h => tLc_of hv h) h
end
end D

/-! D: methods of texts and lists by values; dict displays. -/
namespace D
open PySem L2 PyProof.Rows

section
variable {X : Cx} {B : BC} {W : WX} {σ : L2.St} {ρ ρ1 : List CellA} {st st1 : DS} {H H1 : Hp} {o e : Expr} {es : List Expr} {fo fe : Ev} {g : Ak} {pos apos cpos : Pos} {name : Str} {C : RC}
/-- o.m(..): the receiver and the arguments viewed -/
def MethS (C : RC) (r : V → List V → Hp → VK → Prop) (f : OpN) : Prop := CallS C (fun xs H Q => ∃ x ys, xs = x :: ys ∧ r x ys H Q) f
def evMeth (isT : DV → Bool) (f : OpN) (fo : Ev) (g : Ak) : Ev := fun st => (fo st).bind fun a st1 => if isT a.1 = true then (g st1).bind fun as st2 => (match f (a.1 :: as.map (·.1)) with
  | some c => .ok c st2
  | none => .stuck) else .stuck
def TyIs (C : RC) (T : String) (isT : DV → Bool) : Prop := ∀ (B : BC) (ρ : List CellA) (st : DS) (σ : L2.St) (H : Hp) (kd : Kd) (v : V) (d : DV), B.C = C → isT d = true → RepK B ρ st σ H kd v d → tyV C.K T v H
theorem tBM_of {T : String} {isT : DV → Bool} {r : V → List V → Hp → VK → Prop} {f : OpN} (ht : TyIs B.C T isT) (hs : MethS B.C r f) {Q : VK} (h : RD B W (evMeth isT f fo g) σ H Q) : tBM B.C.K T r (RD B W fo) (RK B W g) σ H Q := by
  obtain ⟨ρ, st, rel, res⟩ := h
  refine RD.go rel (Res.bind res) fun a st1 ρ1 H1 s1 r1 x rx fx => ?_
  split at r1
  case isFalse => exact r1.elim
  rename_i hT
  refine ⟨ht B _ _ _ _ _ _ _ rfl hT rx, ?_⟩
  refine RK.go s1.rel (Res.bind r1) fun as st2 ρ2 H2 s2 r2 xs rxs => ?_
  cases e : f (a.1 :: as.map (·.1)) with
  | none => rw [e] at r2; exact r2.elim
  | some c =>
    rw [e] at r2
    obtain ⟨x', ys, e1, q⟩ := hs B rfl σ ρ2 st2 H2 (x :: xs) (a :: as) c Q s2.rel (.cons (RepK.step s2 rx) rxs) e fun v H' s3 rv fv => r2 _ _ s3 v rv ((fv.dm s2.dm).dm s1.dm)
    cases e1
    exact q
theorem pd_meth {T : String} {isT : DV → Bool} {id : String} {r : V → List V → Hp → VK → Prop} {f : OpN} (hK : B.C.K = X.K) (pa : PlainAttrs T) (slot : PySem.Slot T name id) (hty : typeOf (.builtin id) = pure (.type "method_descriptor")) (hm : MtR X id r) (ht : TyIs B.C T isT) (hs : MethS B.C r f)
    (ho : PD X B W o fo) (ha : PKD X B W (e :: es) g)
    (hbase : attributeBase o name X.env (eval o X.env) = eval o X.env)
    (hfew : ((backTo cpos (starEach (e :: es) X.env)).all (fun x => !x.1) && (backToKw cpos (keywordEach [] X.env)).all (fun x => x.1.isSome)
      && decide ((e :: es).length + ([] : List Keyword).length + (if ([] : List Keyword).isEmpty then 0 else 1) < 30)) = true)
    (hline : (apos.endLine == cpos.line) = true) (hst : starEach (e :: es) X.env = (false, eval e X.env) :: starEach es X.env) (hplain : (backTo cpos (starEach es X.env)).any (·.1) = false) :
    PD X B W (.Call (.Attribute o name apos) (e :: es) [] cpos) (evMeth isT f fo g) :=
  PE.mono (pe_bm pa slot hty hm ho ha hbase hfew hline hst hplain) fun _ _ _ h => by rw [← hK]; exact tBM_of ht hs h
theorem pd_meth0 {T : String} {isT : DV → Bool} {id : String} {r : V → List V → Hp → VK → Prop} {f : OpN} (hK : B.C.K = X.K) (pa : PlainAttrs T) (slot : PySem.Slot T name id) (hty : typeOf (.builtin id) = pure (.type "method_descriptor")) (hm : MtR X id r) (ht : TyIs B.C T isT) (hs : MethS B.C r f)
    (ho : PD X B W o fo) (hbase : attributeBase o name X.env (eval o X.env) = eval o X.env) (hline : (apos.endLine == cpos.line) = true) :
    PD X B W (.Call (.Attribute o name apos) [] [] cpos) (evMeth isT f fo akNil) := by
  refine PE.mono (pe_bm0 pa slot hty hm ho hbase hline) fun σ H Q h => ?_
  rw [← hK]
  obtain ⟨ρ, st, rel, res⟩ := h
  refine RD.go rel (Res.bind res) fun a st1 ρ1 H1 s1 r1 x rx fx => ?_
  split at r1
  case isFalse => exact r1.elim
  rename_i hT
  refine ⟨ht B _ _ _ _ _ _ _ rfl hT rx, ?_⟩
  have r2 : Res B W σ ρ1 st1 H1 (match f [a.1] with
    | some c => Out.ok c st1
    | none => Out.stuck) (GE B σ H Q) := r1
  cases e : f [a.1] with
  | none => rw [e] at r2; exact r2.elim
  | some c =>
    rw [e] at r2
    obtain ⟨x', ys, e1, q⟩ := hs B rfl σ ρ1 st1 H1 [x] [a] c Q s1.rel (.cons rx .nil) e fun v H' s3 rv fv => r2 _ _ s3 v rv (fv.dm s1.dm)
    cases e1
    exact q
def isStrD : DV → Bool | .str _ => true | _ => false
def isLstD : DV → Bool | .lst _ => true | _ => false
theorem ty_str : TyIs C "str" isStrD := by
  intro B ρ st σ H kd v d hB h r
  cases d <;> try (cases h; done)
  obtain rfl := r.str
  rfl
theorem ty_lst : TyIs C "list" isLstD := by
  intro B ρ st σ H kd v d hB h r
  subst hB
  cases d <;> try (cases h; done)
  obtain ⟨p, xs, rfl, e, _⟩ := r.lst
  exact .inl ⟨rfl, xs, .inl (.inl e)⟩
/-! ### sep.join(texts) -/
def strsD : List DV → Option (List Str)
  | [] => some []
  | .str s :: ds => (strsD ds).map (s :: ·)
  | _ => none
theorem strsD_map : ∀ {ds : List DV} {ss : List Str}, strsD ds = some ss → ds = ss.map .str
  | [], _, h => by cases h; rfl
  | .str s :: ds, ss, h => by
    simp only [strsD, Option.map_eq_some_iff] at h
    obtain ⟨r, h1, rfl⟩ := h
    rw [strsD_map h1]; rfl
  | .non :: _, _, h => by cases h
  | .bl _ :: _, _, h => by cases h
  | .int _ :: _, _, h => by cases h
  | .lst _ :: _, _, h => by cases h
  | .tup _ :: _, _, h => by cases h
  | .dct _ _ :: _, _, h => by cases h
  | .set _ :: _, _, h => by cases h
  | .ins _ _ _ :: _, _, h => by cases h
  | .exc _ _ _ :: _, _, h => by cases h
  | .scr _ :: _, _, h => by cases h
  | .cel _ :: _, _, h => by cases h
  | .ty _ :: _, _, h => by cases h
  | .cls _ :: _, _, h => by cases h
theorem strs_vals {A : Addr → Prop} : ∀ {vs : List V} {ss : List Str}, RepL C ρ A H vs (ss.map DV.str) → vs = ss.map V.str
  | _, [], .nil => rfl
  | _, s :: ss, .cons r t => by
    cases r
    rw [strs_vals t]; rfl
def joinD (a : Str) (ds : List DV) : Option (DV × Kd) := match strsD ds with
  | some ys => if (ys.map (·.length)).sum + ys.length * a.length ≤ 16777216 then some (.str (Txt.join a ys), .new) else none
  | none => none
def mJoin : OpN
  | [.str a, .lst ds] => joinD a ds
  | [.str a, .tup ds] => joinD a ds
  | _ => none
def rJoin (K : PySem.W.Frag) : V → List V → Hp → VK → Prop := fun x xs H Q => ∃ a p, ∃ ys : List Str, x = .str a ∧ xs = [.ref p] ∧ (SqL K H p (ys.map V.str) ∨ SqT K H p (ys.map V.str)) ∧
    (ys.map (·.length)).sum + ys.length * a.length ≤ 16777216 ∧ Q (.str (Txt.join a ys)) H
theorem joinD_some {a : Str} {ds : List DV} {c : DV × Kd} (h : joinD a ds = some c) : ∃ ys, ds = ys.map .str ∧ (ys.map (·.length)).sum + ys.length * a.length ≤ 16777216 ∧ c = (.str (Txt.join a ys), .new) := by
  unfold joinD at h
  split at h
  · rename_i ys e
    split at h
    · rename_i hl; cases h; exact ⟨ys, strsD_map e, hl, rfl⟩
    · cases h
  · cases h
theorem s_join : MethS C (rJoin C.K) mJoin := by
  intro B hB σ ρ st H xs as c Q rel rx e q
  subst hB
  unfold mJoin at e
  split at e
  · rename_i a ds ea
    obtain ⟨ys, rfl, hl, rfl⟩ := joinD_some e
    obtain ⟨v, w, kd, kd', rfl, r1, r2⟩ := two_of rx ea
    obtain rfl := r1.str
    obtain ⟨p, vs, rfl, e1, r3⟩ := r2.lst
    rw [strs_vals r3] at e1
    exact ⟨_, _, rfl, a, p, ys, rfl, rfl, .inl (.inl (.inl e1)), hl, ansF (d := .str _) rfl rel q⟩
  · rename_i a ds ea
    obtain ⟨ys, rfl, hl, rfl⟩ := joinD_some e
    obtain ⟨v, w, kd, kd', rfl, r1, r2⟩ := two_of rx ea
    obtain rfl := r1.str
    obtain ⟨p, vs, rfl, e1, r3⟩ := r2.tup
    rw [strs_vals r3] at e1
    exact ⟨_, _, rfl, a, p, ys, rfl, rfl, .inr e1, hl, ansF (d := .str _) rfl rel q⟩
  · cases e

/-! ### {k: v, ..} -/
abbrev Dv' := DS → Out (List Key × List DV)
def dvNil : Dv' := fun st => .ok ([], []) st
def dvCons (fk fv : Ev) (r : Dv') : Dv' := fun st => (fk st).bind fun k st1 => (fv st1).bind fun v st2 => (r (st2.eat v.2)).bind fun (p : List Key × List DV) st3 => match keyD k.1 with
  | some kk => if (p.1.any fun j => decide (j = kk)) = true then .stuck else .ok (kk :: p.1, v.1 :: p.2) st3
  | none => .stuck
def evDct (r : Dv') : Ev := fun st => (r st).bind fun p st1 => if p.1.length ≤ 15 then .ok (.dct p.1 p.2, .new) st1 else .stuck
theorem RepK.key {kd : Kd} {v : V} {d : DV} {k : Key} (h : keyD d = some k) (r : RepK B ρ st σ H kd v d) : v = kV k := by
  cases d <;> try (cases h; done)
  · cases h; obtain rfl := r.int; rfl
  · cases h; obtain rfl := r.str; rfl
/-- {} -/
theorem pd_dct0 : PD X B W (.Dict [] [] pos) (evDct dvNil) := by
  refine PE.mono pe_dnewK fun σ H Q ⟨ρ, st, rel, res⟩ => fun p hp => ?_
  have res : Res B W σ ρ st H (.ok (.dct [] [], .new) st) (GE B σ H Q) := res
  exact res _ _ (Step.alloc rel hp) (.ref p) (RepK.newDct (ks := []) (xs := []) rel hp rfl .nil) fun a e => by cases e; exact hp
end
end D

/-! D: a def by its body; the law's end. -/
namespace D
open PySem L2 PyProof.Rows

def outRet : Out Fl → Out (DV × Kd)
  | .ok .nx st' => .ok (.non, .new) ⟨[], st'.cs⟩
  | .ok (.rt d kd) st' => .ok (d, match kd with
    | .fro => .fro
    | .new => .new
    | .view i => match st'.sl[i]? with
      | some (some (_, true)) => .new
      | _ => .fro) ⟨[], st'.cs⟩
  | .ok _ _ => .stuck
  | .exc x st' => .exc x ⟨[], st'.cs⟩
  | .stuck => .stuck
def startSl (n : Nat) (ds : List DV) : List Slot := ds.map (fun d => some (d, false)) ++ List.replicate (n - ds.length) none
/-- the function of a def with n slots and p parameters -/
def fnSv (n p : Nat) (sv : Sv) : Fn := fun ds st => if ds.length = p then outRet (sv ⟨startSl n ds, st.cs⟩) else .stuck
theorem startSl_own {n : Nat} {ds : List DV} {i : Nat} {d : DV} : (startSl n ds)[i]? ≠ some (some (d, true)) := fun h => by
  unfold startSl at h
  rw [List.getElem?_append] at h
  split at h
  · rw [List.getElem?_map] at h
    cases e : ds[i]? with
    | none => rw [e] at h; cases h
    | some x => rw [e] at h; cases h
  · rw [List.getElem?_replicate] at h
    split at h <;> cases h
section
variable {C : RC} {O : Addr → Prop} {ρ ρ' : List CellA} {H H' : Hp} {cs : List CellC} {σ' : L2.St} {st' : DS}
theorem Rel.start {N : List Str} {vs : List V} {ds : List DV} (r : Rel ⟨C, O, H⟩ ρ ⟨[], cs⟩ [] H) (rl : RepL C ρ (Av ρ O ⟨[], cs⟩ []) H vs ds) : Rel ⟨C, O, H⟩ ρ ⟨startSl N.length ds, cs⟩ (L2.start N vs) H := by
  have hl := rl.length
  have noOwn : ∀ i a, ¬ ownAt ⟨startSl N.length ds, cs⟩ (L2.start N vs) i a := fun i a ⟨d, h, _⟩ => startSl_own h
  have mv : ∀ a, Av ρ O ⟨startSl N.length ds, cs⟩ (L2.start N vs) a → Av ρ O ⟨[], cs⟩ [] a ∨ H a = none := fun a z => by
    rcases z with z | z | ⟨i, z⟩
    · exact .inl (.inl z)
    · exact .inl (.inr (.inl z))
    · exact absurd z (noOwn i a)
  refine ⟨?_, fun i d h => ?_, fun i d h => absurd h startSl_own, fun i j p h => absurd h (noOwn i p), r.dom, r.odom, ⟨r.cel.len, fun k c x h1 h2 => ?_, r.cel.dis⟩, r.cdom, r.tabs⟩
  · simp [startSl, L2.start, hl]
  · have h : (startSl N.length ds)[i]? = some (some (d, false)) := h
    unfold startSl at h
    rw [List.getElem?_append] at h
    split at h
    · rename_i hi
      rw [List.getElem?_map] at h
      cases e : ds[i]? with
      | none => rw [e] at h; cases h
      | some x =>
        rw [e] at h
        cases h
        obtain ⟨v, hv, rv⟩ := rl.get e
        refine ⟨v, ?_, rv.mv (List.prefix_refl _) (fun _ _ e _ _ => e) mv⟩
        unfold L2.start
        have hi' : i < (vs.map some).length := by simpa [hl] using hi
        rw [List.getElem?_append_left hi', List.getElem?_map, hv]
        rfl
    · rw [List.getElem?_replicate] at h
      split at h <;> cases h
  · have q := r.cel.ok k c x h1 h2
    cases x with
    | draw d => exact q
    | obj d => exact ⟨q.1, q.2.mv (List.prefix_refl _) (fun _ _ e _ _ => e) mv rfl⟩
    | dead => trivial
theorem av_done {a : Addr} (h : Av ρ' O ⟨[], st'.cs⟩ [] a) : Av ρ' O st' σ' a := by
  rcases h with z | z | ⟨i, d, z, _⟩
  · exact .inl z
  · exact .inr (.inl z)
  · simp at z
theorem Step.done {sl : List Slot} {σ : L2.St} (noOwn : ∀ i a, ¬ ownAt ⟨sl, cs⟩ σ i a) (s : SStep ⟨C, O, H⟩ σ ρ ⟨sl, cs⟩ H σ' ρ' st' H') : Step ⟨C, O, H⟩ [] ρ ⟨[], cs⟩ H ρ' ⟨[], st'.cs⟩ H' := by
  have r := s.rel
  have mv : ∀ a, Av ρ' O ⟨[], st'.cs⟩ [] a → Av ρ' O st' σ' a ∨ H' a = none := fun a z => .inl (av_done z)
  refine ⟨s.pre, ⟨rfl, fun i d h => by simp at h, fun i d h => by simp at h, fun i j p h => by obtain ⟨d, h, _⟩ := h; simp at h, r.dom, r.odom, ⟨r.cel.len, fun k c x h1 h2 => ?_, r.cel.dis⟩, r.cdom, r.tabs⟩, fun a o e n => s.fr a o e n fun i => noOwn i a, fun i p h => by obtain ⟨d, h, _⟩ := h; simp at h, fun i d b h => by simp at h, s.cm, s.dm⟩
  have q := r.cel.ok k c x h1 h2
  cases x with
  | draw d => exact q
  | obj d => exact ⟨q.1, q.2.mv (List.prefix_refl _) (fun _ _ e _ _ => e) mv rfl⟩
  | dead => trivial
theorem SpF.len {n p : Nat} {sv : Sv} {vs : List V} {H : Hp} {Q : VK} {E : XK} (h : SpF C (fnSv n p sv) vs H Q E) : vs.length = p := by
  obtain ⟨ρ, cs, ds, O, r, rl, res⟩ := h
  unfold fnSv at res
  split at res
  · rename_i hl; rw [rl.length]; exact hl
  · exact res.elim
end
section
variable {P : Program} {w : World} {mg : Str → Option Value} {base : Heap} {C : RC}
/-- THE RULE for a def -/
theorem Fun.okG {x qual : Str} {st : Stmt} {f : Addr} {fd : FuncData} {N ps : List Str} {k : Nat} {sv : Sv} (F : Fun C.K x qual st f fd) (S : FnScope N ps (defScope st))
    (hb : ∀ (cdv : Value) (A : Around) (outer : List Env) (s : Shared) (H : Hp) (E : XK), fd.code = cdv → Room k (A.deeper (envOfC qual (defScope st) s.heap.objs.size f cdv)) → (cxOf (L2.CX P w) P w C.K mg base N qual (defScope st) f cdv A outer s H E).A.guards = some [] →
      ∀ O, PSsD (cxOf (L2.CX P w) P w C.K mg base N qual (defScope st) f cdv A outer s H E) ⟨C, O, H⟩ (fun cls d _ H' => E cls d H') (defBody st) sv) :
    FnG P w C.K mg base (k + 1) f fd ps (SpF C (fnSv N.length ps.length sv)) := by
  obtain ⟨oc, od, kV, doc, pm, an, cdv, ct, osl, rfl, lk, hcd⟩ := F.ex
  refine fnG_of lk hcd S (fun vs H Q E h => h.len) fun A outer s H vs Q E hr hg h => ?_
  obtain ⟨ρ, cs, ds, O, r, rl, res⟩ := h
  refine ⟨_, hb cdv A outer s H E rfl hr (by first | exact (deeper_guards _ _).trans hg | exact hg) O, ρ, ⟨startSl N.length ds, cs⟩, Rel.start r rl, ?_⟩
  have noOwn : ∀ i a, ¬ ownAt ⟨startSl N.length ds, cs⟩ (L2.start N vs) i a := fun i a ⟨d, h, _⟩ => startSl_own h
  unfold fnSv at res
  split at res
  case isFalse => exact res.elim
  cases e : sv ⟨startSl N.length ds, cs⟩ with
  | stuck => rw [e] at res; exact res
  | exc x st' =>
    rw [e] at res
    intro σ' ρ' H' cls d s1 xr
    refine res ρ' H' cls d (Step.done noOwn s1) ?_
    obtain ⟨e1, xr⟩ := xr
    refine ⟨e1, ?_⟩
    rcases xr with xr | ⟨a, vs, h1, h2, h3, h4, h5⟩
    · exact .inl xr
    · exact .inr ⟨a, vs, h1, fun z => h2 (av_done z), h3, h4, h5.mv (List.prefix_refl _) (fun _ _ e _ _ => e) fun a z => .inl (av_done z)⟩
  | ok fl st' =>
    rw [e] at res
    intro σ' ρ' H' s1
    have sd := Step.done noOwn s1
    cases fl with
    | bk => exact res.elim
    | ct => exact res.elim
    | nx => exact (res ρ' H' sd).2 .non .non (fun _ p e => nomatch e) fun p e => nomatch e
    | rt d kd =>
      intro v rv fv
      have mv : ∀ a, Av ρ' O ⟨[], st'.cs⟩ [] a → Av ρ' O st' σ' a ∨ H' a = none := fun a z => .inl (av_done z)
      cases kd with
      | fro => exact (res ρ' H' sd).2 v (Rep.mv (List.prefix_refl _) (fun _ _ e _ _ => e) mv rv) (fun z => nomatch z) trivial
      | new =>
        refine (res ρ' H' sd).2 v (Rep.mv (List.prefix_refl _) (fun _ _ e _ _ => e) mv rv.1) (fun _ p ep hc => ?_) fun p ep => fv rfl p ep
        exact (rv.2 p ep hc).mv (List.prefix_refl _) (fun _ _ e _ _ => e) (fun a z => z.elim (fun z => .inl (.inl (av_done z))) fun z => .inl (.inr z)) rfl
      | view i =>
        obtain ⟨p, rfl, es, c, n1, n2, u, n3⟩ := rv
        have npa : ¬ Av ρ' O ⟨[], st'.cs⟩ [] p := fun z => by
          rcases z with z | z | ⟨i, d, z, _⟩
          · exact n2 z
          · exact n1 z
          · simp at z
        have rp : Rep C ρ' (Av ρ' O ⟨[], st'.cs⟩ []) H' (.ref p) d := Cont.rep (A' := Av ρ' O ⟨[], st'.cs⟩ []) (fun a z => av_done z) npa c
        refine (res ρ' H' sd).2 _ rp (fun hk q eq hc => ?_) ?_
        · cases eq
          dsimp only at hk
          split at hk
          · rename_i d' hs
            have ow : ownAt st' σ' i p := ⟨d', hs, es⟩
            exact c.mv (List.prefix_refl _) (fun _ _ e _ _ => e) (fun a z => .inl (z.elim (fun z => av_done z) fun z => by subst z; exact .inr (.inr ⟨i, ow⟩))) rfl
          · cases hk
        · dsimp only
          split
          · exact fun q eq => by cases eq; exact n3
          · trivial
end

/-! ### the law's end -/
/-- D's answer: the law is kept -/
def KeptBy (F : Fn) (n : Nat) : Prop := ∀ ns : List Int, ns.length ≤ n → (∀ z ∈ ns, Builtin.Int.intBits z ≤ 1048576) → ∃ kd st', F [.scr ns] ⟨[], []⟩ = .ok (.bl true, kd) st'
/-- what is tracked at the law's start: the script (where the top has not written it), the empty tables ts -/
def startH (K : PySem.W.Frag) (a : Addr) (sc : HO) (ts : List Addr) : Hp := fun b =>
  if b = a then (match K.lookup a with | none => some sc | some _ => none) else if b ∈ ts then some (.tbl #[]) else none
section
variable {K : PySem.W.Frag} {a b : Addr} {sc u : HO} {ts : List Addr}
theorem startH_some (h : startH K a sc ts b = some u) : (b = a ∧ K.lookup a = none ∧ u = sc) ∨ (b ≠ a ∧ b ∈ ts ∧ u = .tbl #[]) := by
  unfold startH at h
  split at h
  · next e =>
    split at h
    · next k => cases h; exact .inl ⟨e, k, rfl⟩
    · cases h
  · next e =>
    split at h
    · next m => cases h; exact .inr ⟨e, m, rfl⟩
    · cases h
theorem startH_tab (hn : b ≠ a) (hm : b ∈ ts) : startH K a sc ts b = some (.tbl #[]) := by unfold startH; rw [if_neg hn, if_pos hm]
theorem startH_scr (hk : K.lookup a = none) : startH K a sc ts a = some sc := by unfold startH; rw [if_pos rfl, hk]
end
theorem kept_sp {C : RC} {F : Fn} {H : Hp} {a : Addr} {ns : List Int} {E : XK} (hT : LamX.Tabs C.T H) (hS : (∃ o, H a = some (.frz o (.lst (ns.map V.int)))) ∨ KL C a (ns.map V.int)) (h : ∃ kd st', F [.scr ns] ⟨[], []⟩ = .ok (.bl true, kd) st') :
    SpF C F [.ref a] H (fun v _ => v = .bl true) E := by
  obtain ⟨kd, st', e⟩ := h
  have nc : ∀ z, ¬ CM [] z := fun z ⟨c, h, _⟩ => by simp at h
  have nav : ∀ z, ¬ Av [] (fun _ => False) ⟨[], []⟩ [] z := fun z q => by
    rcases q with q | q | ⟨i, d, q, _⟩
    · exact q
    · exact nc z q
    · simp at q
  refine ⟨[], [], [.scr ns], fun _ => False, ⟨rfl, fun i d h => by simp at h, fun i d h => by simp at h, fun i j p h => by obtain ⟨d, h, _⟩ := h; simp at h, fun _ z => z, fun _ z => z.elim, ⟨rfl, fun k c x h => by simp at h, fun i j c c' h => by simp at h⟩, fun z q => absurd q (nc z), hT⟩, .cons ?_ .nil, ?_⟩
  · rcases hS with ⟨o, hS⟩ | hS
    · exact .scr (nav a) hS
    · exact .kscr hS
  · rw [e]
    refine fun ρ' H' s => ⟨?_, fun v rv _ _ => by cases rv; rfl⟩
    have := s.rel.len
    cases h : st'.sl with
    | nil => rfl
    | cons x l => rw [h] at this; simp at this
/-- the law's call; ts: the code objects of the defs that make lambdas, and their tables -/
theorem law_callT {P : Program} {w : World} {C : RC} {mg mb : Str → Option Value} {k : Nat} {fa a : Addr} {fd : FuncData} {x : Str} {F : Fn} {s₁ : Shared} {vs : List Value} {ns : List Int} {ts : List (Addr × Addr)}
    (KX : C.K.In s₁.heap) (hns : s₁.heap.Ns mainGlobals mg) (hb : s₁.heap.Ns builtinsNs mb) (hbb : ∀ x : Str, x ≠ "__name__" → mb x = bootBuiltins x) (hlim : s₁.heap.NoLimit) (hg : s₁.gens = #[])
    (hT : ∀ p ∈ ts, PySem.W.CodeHd s₁.heap p.1 p.2 ∧ s₁.heap.get? p.2 = some (PySem.W.tabObj #[])) (hTK : ∀ p ∈ ts, C.K.lookup p.2 = none) (hCT : ∀ q ∈ C.T, ∃ p ∈ ts, p.2 = q.1)
    (hbm : ∃ (bm : Addr) (ob : Obj), mg "__builtins__" = some (.ref bm) ∧ bm ≠ builtinsNs ∧ s₁.heap.get? bm = some ob ∧ ob.cls = .type "module" ∧ ob.dict = some builtinsNs ∧ ob.data = .plain)
    (ha : s₁.heap.get? a = some { cls := .type "list", data := .seq vs.toArray }) (hi : IntsAre vs ns) (hl : ns.length ≤ sizeLine) (hr : Room k callerA)
    (hF : ∀ base : Heap, C.K.In base → base.Ns mainGlobals mg → (∀ p ∈ ts, LamX.TabB base mg p.1 p.2) → FnG P w C.K mg base k fa fd [x] (SpF C F)) (hbind : ∀ (s : Shared) (u : Value), BindsTo s fd ⟨[u], []⟩ [(x, u)])
    (hk : ∃ kd st', F [.scr ns] ⟨[], []⟩ = .ok (.bl true, kd) st') :
    codeAny (model P w) callerA (.call (.ref fa) ⟨[.ref a], []⟩) (fun r s' => r = .ok (.ret (.bool true)) ∧ OldK s₁.heap s'.heap ∧ s'.os = s₁.os ∧ AllBare s'.gens) s₁ := by
  have rv := vals_ints hi
  obtain ⟨hT1, hT2⟩ : (∀ b ∈ ts.map (·.2), s₁.heap.get? b = some (PySem.W.tabObj #[])) ∧ (∀ b ∈ ts.map (·.2), C.K.lookup b = none) := by
    refine ⟨fun b hb => ?_, fun b hb => ?_⟩
    · obtain ⟨p, hp, rfl⟩ := List.mem_map.mp hb
      exact (hT p hp).2
    · obtain ⟨p, hp, rfl⟩ := List.mem_map.mp hb
      exact hTK p hp
  have haT : ∀ b ∈ ts.map (·.2), b ≠ a := fun b hb z => by
    have q := hT1 b hb
    rw [z, ha] at q
    exact nomatch (congrArg Obj.data (Option.some.inj q))
  generalize hH : startH C.K a (.frz { cls := .type "list", data := .seq vs.toArray } (.lst (ns.map V.int))) (ts.map (·.2)) = H
  have hS : ∀ b u, H b = some u → (b = a ∧ C.K.lookup a = none ∧ u = .frz { cls := .type "list", data := .seq vs.toArray } (.lst (ns.map V.int))) ∨ (b ≠ a ∧ b ∈ ts.map (·.2) ∧ u = .tbl #[]) := fun b u e => startH_some (hH ▸ e)
  -- an object that is neither the script nor a table stands in the hidden heap
  have stays : ∀ (b : Addr) (o : Obj), s₁.heap.get? b = some o → (∀ vs n, o.data ≠ .seq vs n) → o.data ≠ .fields #[] → (hidT s₁.heap H).get? b = some o := fun b o e h1 h2 => hidT_get e (by
    cases q : H b with
    | none => rfl
    | some u =>
      rcases hS b u q with ⟨z, _⟩ | ⟨_, z, _⟩
      · rw [z, ha] at e; cases e; exact absurd rfl (h1 _ _)
      · rw [hT1 b z] at e; cases e; exact absurd rfl h2)
  have names : ∀ {b : Addr} {m : Str → Option Value}, s₁.heap.Ns b m → (hidT s₁.heap H).Ns b m := fun ⟨o, es, ep, e, d, r⟩ => ⟨o, es, ep, stays _ _ e (fun _ _ z => by rw [d] at z; cases z) (fun z => by rw [d] at z; cases z), d, r⟩
  have hKb : C.K.In (hidT s₁.heap H) := fun b o e => hidT_get (KX b o e) (by
    cases q : H b with
    | none => rfl
    | some u =>
      rcases hS b u q with ⟨z, k, _⟩ | ⟨_, z, _⟩
      · rw [z, k] at e; cases e
      · rw [hT2 b z] at e; cases e)
  have hM : Mod C.K mg (hidT s₁.heap H) := ⟨hKb, names hns, ⟨mb, names hb, hbb⟩, hlim.imp fun mc q => ⟨names q.1, q.2⟩⟩
  have hok : HOk P w H s₁.heap := fun b u e => by
    rcases hS b u e with ⟨z, _, rfl⟩ | ⟨_, z, rfl⟩
    · subst z; exact ⟨ha, by rw [List.length_map]; exact hl, vs, _, rv, ha⟩
    · exact hT1 b z
  have hTB : ∀ p ∈ ts, LamX.TabB (hidT s₁.heap H) mg p.1 p.2 := fun p hp => by
    obtain ⟨hc, ht⟩ := hT p hp
    have gne : mainGlobals ≠ p.2 := fun z => by
      obtain ⟨o, es, ep, e, d, _⟩ := hns
      rw [z, ht] at e; cases e; cases d
    refine ⟨?_, ?_, gne⟩
    · obtain ⟨o, us, f, tf, fl, tg, iF, tx, tt, e, rest⟩ := hc
      refine ⟨o, us, f, tf, fl, tg, iF, tx, tt, stays _ _ e (fun _ _ z => ?_) fun z => ?_, rest⟩
      · rw [rest.2.1] at z; cases z
      · rw [rest.2.1] at z
        cases z
        have := rest.2.2.1
        simp at this
    · obtain ⟨bm, ob, b1, b2, b3, b4, b5, b6⟩ := hbm
      refine ⟨bm, ob, b1, b2, fun z => ?_, fun z => ?_, stays _ _ b3 (fun _ _ z => by rw [b6] at z; cases z) (fun z => by rw [b6] at z; cases z), b4, b5, b6⟩
      · obtain ⟨o, es, ep, e, d, _⟩ := hns
        rw [← z, b3] at e; cases e; rw [b6] at d; cases d
      · rw [z, ht] at b3; cases b3; cases b6
  have e0 : Env0 P w C.K mg (hidT s₁.heap H) callerA [] s₁ H := ⟨rfl, hM, fun _ _ e => of_hidT e, Nat.le_of_eq (hidT_size _ _), trivial, fun _ z => (nomatch z), hok, .of_eq hg⟩
  have hsp : SpF C F [.ref a] H (fun v _ => v = .bl true) (fun _ _ _ => False) := by
    refine kept_sp (fun q hq => ?_) ?_ hk
    · obtain ⟨p, hp, e⟩ := hCT q hq
      have m : p.2 ∈ ts.map (·.2) := List.mem_map.mpr ⟨p, hp, rfl⟩
      exact LamX.TabS.nil (by rw [← e, ← hH]; exact startH_tab (haT _ m) m)
    · cases k : C.K.lookup a with
      | none => exact .inl ⟨_, by rw [← hH]; exact startH_scr k⟩
      | some o =>
        have e := KX a o k
        rw [ha] at e
        cases e
        exact .inr ⟨_, vs.toArray, _, k, rfl, rfl, rfl, by rw [List.size_toArray, hi.length]; exact hl, by simpa using rv⟩
  refine codeAny_mono ((hF _ hKb (names hns) hTB).run callerA [] s₁ H ⟨[.ref a], []⟩ [.ref a] [.ref a] _ (fun _ _ _ => False) hr rfl e0 (hbind s₁ (.ref a)) (.cons rfl .nil) hsp) fun r s' h => ?_
  match r, h with
  | .error e, ⟨_, _, _, _, _, _, _, _, _, _, _, _, z⟩ => exact z.elim
  | .ok .next, h => exact False.elim h
  | .ok .brk, h => exact False.elim h
  | .ok .cont, h => exact False.elim h
  | .ok (.ret u), ⟨v, H', os, bare, un, hok', r', q⟩ =>
    have q' : v = .bl true := q
    subst q'
    obtain rfl : u = Value.bool true := r'
    have plain : ∀ b o, s₁.heap.get? b = some o → b ∉ ts.map (·.2) → s'.heap.get? b = some o := fun b o e nb => by
      cases q : H b with
      | none => exact un.keep b o e q (fun z => nomatch z) (fun z => nomatch z)
      | some u =>
        rcases hS b u q with ⟨z, k, rfl⟩ | ⟨_, z, _⟩
        · have e2 := (hok' b _ (un.frzs b _ _ q)).1
          rw [z] at e
          rw [ha] at e
          cases e
          exact e2
        · exact absurd z nb
    have grown : ∀ b ∈ ts.map (·.2), ∃ more : Array Value, s'.heap.get? b = some (PySem.W.tabObj more) := fun b hb => by
      obtain ⟨more, z⟩ := un.tbls b #[] (by rw [← hH]; exact startH_tab (haT b hb) hb)
      exact ⟨_, hok' b _ z⟩
    refine ⟨rfl, ⟨fun b o e => ?_, fun b o e => ?_⟩, os, bare⟩
    · by_cases hb : b ∈ ts.map (·.2)
      · obtain ⟨more, hm⟩ := grown b hb
        obtain ⟨p, hp, rfl⟩ := List.mem_map.mp hb
        have e2 := (hT p hp).2
        rw [e2] at e
        cases e
        exact .inr (.inl ⟨((hT p hp).1.tab (hT p hp).2).isCodeTable, rfl, #[], more, rfl, by rw [Array.empty_append]; exact hm⟩)
      · exact .inl (plain b o e hb)
    · by_cases hb : b ∈ ts.map (·.2)
      · obtain ⟨more, hm⟩ := grown b hb
        exact ⟨_, hm⟩
      · exact ⟨o, plain b o e hb⟩
/-- what k_head leaves (case hc); xs: the names of the defs that make lambdas -/
theorem walkT {l : PySem.W.OpenLaw} {n k : Nat} {q : Program} {loose : List Str} {XP : (Str → Option Value) → Heap → Prop} {YP : World → Heap → Prop} {d : DefRec} {K : Params → PySem.W.Frag} {x : Str} {F : Fn}
    (hn : l.most = some n) (hn2 : n ≤ sizeLine) (hdf : d.params.defaults = []) (hr : Room k callerA)
    (hY : ∀ (w : World) (h : Heap), YP w h → (K w.params).In h)
    (hF : ∀ (w : World) (mg : Str → Option Value) (fa : Addr) (h : Heap), (K w.params).In h → h.Ns mainGlobals mg → mg d.name = some (.ref fa) →
      ∃ (fd : FuncData) (cls : Nat → Addr) (T : List (Addr × Str)) (ts : List (Addr × Addr)), (∀ (s : Shared) (u : Value), BindsTo s fd ⟨[u], []⟩ [(x, u)]) ∧
        (∀ p ∈ ts, ∃ y d', (recsOf q).find? (fun e => e.name == y) = some d' ∧ PySem.W.tabIn (K w.params) y = some p) ∧ (∀ p ∈ ts, (K w.params).lookup p.2 = none) ∧ (∀ t ∈ T, ∃ p ∈ ts, p.2 = t.1) ∧
        ∀ base : Heap, (K w.params).In base → base.Ns mainGlobals mg → (∀ p ∈ ts, LamX.TabB base mg p.1 p.2) → FnG l.prog w (K w.params) mg base k fa fd [x] (SpF ⟨K w.params, cls, T⟩ F))
    (hk : KeptBy F n) :
    PySem.W.WalkO q loose XP YP l.row.toRowW d [] (fun f vs => PySem.call f vs) := by
  refine Att.attach_callB hn hdf fun w s₀ s₁ mg mb fa o pm cd doc a vs ns G Y ho hd hcd hmg hobj hints hlen hbits hg => ?_
  have KX := hY w _ Y
  obtain ⟨fd, cls, T, ts, hb, h1, h2, h3, hF⟩ := hF w mg fa _ KX G.T.g hmg
  exact law_callT (C := ⟨K w.params, cls, T⟩) KX G.T.g G.T.b G.T.builtins G.T.nolimit hg (fun p hp => by obtain ⟨y, d', e1, e2⟩ := h1 p hp; exact PySem.W.tab_of G.T KX e1 e2) h2 h3 G.T.bmain hobj hints (Nat.le_trans hlen hn2) hr hF hb (hk ns hlen hbits)
end D

/-! D: the draw's cell. -/
namespace D
open PySem L2 PyProof.Rows

inductive CK | digits | turn
inductive CL | great | lumps
def CK.name : CK → Str | .digits => "digits" | .turn => "turn"
def CL.name : CL → Str | .great => "great" | .lumps => "lumps"
def CK.get : CK → DrawSt → Int | .digits, d => d.digits | .turn, d => d.turn
def CL.get : CL → DrawSt → List Int | .great, d => d.great | .lumps, d => d.lumps
def CK.put : CK → DrawSt → Int → DrawSt | .digits, d, n => { d with digits := n } | .turn, d, n => { d with turn := n }
section
variable {X : Cx} {B : BC} {W : WX} {σ : L2.St} {ρ ρ1 : List CellA} {st st1 : DS} {H H1 H' : Hp} {o e : Expr} {fo fe : Ev} {pos pos' p p2 tpos cpos apos : Pos} {i k kk : Nat} {d d' : DrawSt} {c : CellA}
/-- the draw that slot i names -/
def drawAt (st : DS) (i : Nat) : Option (Nat × DrawSt) := match st.sl[i]? with
  | some (some (.cel k, false)) => (match st.cs[k]? with
    | some (.draw d) => some (k, d)
    | _ => none)
  | _ => none
theorem drawAt_of (rel : Rel B ρ st σ H) (h : drawAt st i = some (k, d)) : ∃ c, σ[i]? = some (some (.ref c.main)) ∧ ρ[k]? = some c ∧ st.cs[k]? = some (.draw d) ∧ DrawAt H c d := by
  unfold drawAt at h
  split at h
  · rename_i k' hs
    split at h
    · rename_i d' hc
      cases h
      obtain ⟨v, e1, q⟩ := rel.fro i _ hs
      cases q with
      | cel hk => exact ⟨_, e1, hk, hc, rel.cel.ok _ _ _ hk hc⟩
    · cases h
  · cases h
theorem dget_i (h : DrawAt H c d) (ck : CK) : DGet H c.main (.str ck.name) (some (.int (ck.get d))) := by
  obtain ⟨g, l, e1, _, _, _, e2, _⟩ := h
  refine .inl ⟨_, .inr ck.name, .inl e2, rfl, ?_⟩
  cases ck <;> rfl
theorem dget_l (h : DrawAt H c d) (cl : CL) : ∃ a, a ∈ c.more ∧ H a = some (.lst ((cl.get d).map V.int)) ∧ DGet H c.main (.str cl.name) (some (.ref a)) := by
  obtain ⟨g, l, e1, _, _, _, e2, e3, e4⟩ := h
  cases cl
  · exact ⟨g, by rw [e1]; simp, e3, .inl ⟨_, .inr CL.great.name, .inl e2, rfl, rfl⟩⟩
  · exact ⟨l, by rw [e1]; simp, e4, .inl ⟨_, .inr CL.lumps.name, .inl e2, rfl, rfl⟩⟩
/-! ### reading -/
def evCI (i : Nat) (ck : CK) : Ev := fun st => match drawAt st i with
  | some (_, d) => .ok (.int (ck.get d), .new) st
  | none => .stuck
theorem pd_ci (hu : X.A.units + 65 < cLine) (ck : CK) (ho : PE X o (tVar i)) (hs : NoSl (.Constant (.str ck.name) kk p)) : PD X B W (.Subscript o (.Constant (.str ck.name) kk p) pos) (evCI i ck) := by
  refine PE.mono (pe_dget (by omega) ho pe_str hs) fun σ H Q ⟨ρ, st, rel, res⟩ => ?_
  unfold evCI at res
  split at res
  · rename_i k d h
    obtain ⟨c, e1, e2, e3, e4⟩ := drawAt_of rel h
    exact ⟨_, e1, _, _, rfl, dget_i e4 ck, res _ _ (.refl rel) _ (RepK.mkF (d := .int _) rfl) (fresh_flat (d := .int _) rfl)⟩
  · exact res.elim
/-- len(d[..]) -/
def evCLen (i : Nat) (cl : CL) : Ev := fun st => match drawAt st i with
  | some (_, d) => .ok (.int ((cl.get d).length : Nat), .new) st
  | none => .stuck
theorem pd_clen (hu : X.A.units + 65 < cLine) (cl : CL) (hgl : Gl X "len") (hm : X.mg "len" = none) (ho : PE X o (tVar i)) (hs : NoSl (.Constant (.str cl.name) kk p))
    (he : starEach [.Subscript o (.Constant (.str cl.name) kk p) p2] X.env = (false, eval (.Subscript o (.Constant (.str cl.name) kk p) p2) X.env) :: starEach [] X.env) (hpl : (backTo pos (starEach [] X.env)).any (·.1) = false) :
    PD X B W (.Call (.Name "len" pos') [.Subscript o (.Constant (.str cl.name) kk p) p2] [] pos) (evCLen i cl) := by
  refine PE.mono (pe_callB call_len_seq hgl hm PySem.boot_len (pa_cons (pe_dget (by omega) ho pe_str hs) pa_nil he) (by decide) (by decide) he hpl) fun σ H Q ⟨ρ, st, rel, res⟩ => ?_
  unfold evCLen at res
  split at res
  · rename_i k d h
    obtain ⟨c, e1, e2, e3, e4⟩ := drawAt_of rel h
    obtain ⟨a, ha, e5, e6⟩ := dget_l e4 cl
    have := res _ _ (.refl rel) _ (RepK.mkF (d := .int _) rfl) (fresh_flat (d := .int _) rfl)
    exact ⟨_, e1, _, _, rfl, e6, a, _, rfl, .inl (.inl (.inl e5)), by rw [List.length_map]; exact this⟩
  · exact res.elim
/-- d[..] != [] -/
def tvNE (i : Nat) (cl : CL) : Tv := fun st => match drawAt st i with
  | some (_, d) => .ok (!(cl.get d).isEmpty) st
  | none => .stuck
theorem ints_dp {K : PySem.W.Frag} : ∀ ns : List Int, DpAll K H (ns.map V.int) (ns.map PyData.int)
  | [] => .nil
  | n :: ns => .cons (.int n) (ints_dp ns)
theorem canLay_ints : ∀ ns : List Int, PyData.canLayAll0 (ns.map PyData.int) = true
  | [] => rfl
  | n :: ns => by
    show (PyData.canLay0 (.int n) && PyData.canLayAll0 (ns.map PyData.int)) = true
    rw [canLay_ints ns]; rfl
theorem depth_ints : ∀ ns : List Int, PyData.depthAll (ns.map PyData.int) = 0
  | [] => rfl
  | n :: ns => by
    show max (PyData.depth (.int n)) (PyData.depthAll (ns.map PyData.int)) = 0
    rw [depth_ints ns]; rfl
theorem shaped_ints (ns : List Int) : SeqAt.shaped (.list (ns.map PyData.int)) = true := by
  unfold SeqAt.shaped
  rw [Bool.and_eq_true]
  refine ⟨canLay_ints ns, decide_eq_true ?_⟩
  show PyData.depthAll (ns.map PyData.int) + 1 ≤ 64
  rw [depth_ints]; decide
theorem eqv_ints_nil (ns : List Int) : PyData.eqv (.list (ns.map PyData.int)) (.list []) = ns.isEmpty := by
  show PyData.eqvAll (ns.map PyData.int) [] = _
  cases ns <;> rfl
theorem ptd_ne (hK : B.C.K = X.K) (hu : X.A.units + 65 < cLine) (cl : CL) (ho : PE X o (tVar i)) (hs : NoSl (.Constant (.str cl.name) kk p)) (hmk : behindInMarks .NotEq (.List [] p2) = false) :
    PTD X B W (.Compare (.Subscript o (.Constant (.str cl.name) kk p) tpos) [.NotEq] [.List [] p2] pos) (tvNE i cl) := by
  refine PT.mono (pt_cmpR (op_neD (by omega)) (pe_dget (by omega) ho pe_str hs) (pe_lst pa_nil) hmk) fun σ H Q ⟨ρ, st, rel, res⟩ => ?_
  unfold tvNE at res
  split at res
  · rename_i k d h
    obtain ⟨c, e1, e2, e3, e4⟩ := drawAt_of rel h
    obtain ⟨a, ha, e5, e6⟩ := dget_l e4 cl
    refine ⟨_, e1, _, _, rfl, e6, Nat.zero_le _, fun q hq => ?_⟩
    have res := res _ _ (Step.alloc (o := .lst []) rel hq)
    have ea : upd H q (.lst []) a = some (.lst ((cl.get d).map V.int)) := by rw [upd_ne (ne_of_none e5 hq)]; exact e5
    refine ⟨.list ((cl.get d).map PyData.int), .list [], .lst (.inl (.inl ea)) (ints_dp _), .lst (.inl (.inl upd_same)) .nil, shaped_ints _, rfl, ?_⟩
    refine ⟨!(cl.get d).isEmpty, ?_, res⟩
    rw [eqv_ints_nil]
  · exact res.elim
/-- d['lumps'][e] -/
def evCIx (i : Nat) (cl : CL) (fe : Ev) : Ev := fun st => match drawAt st i with
  | some _ => (fe st).bind fun a st1 => (match drawAt st1 i, a.1 with
    | some (_, d), .int j => (match atI (cl.get d) j with
      | some n => .ok (.int n, .new) st1
      | none => .stuck)
    | _, _ => .stuck)
  | _ => .stuck
theorem atI_map {α β : Type} (f : α → β) (xs : List α) (j : Int) : atI (xs.map f) j = (atI xs j).map f := by
  unfold atI
  rw [List.length_map]
  cases ixN xs.length j with
  | none => rfl
  | some n => simp
/-- the same cell later -/
theorem drawAt_step {k1 : Nat} {d1 : DrawSt} (s : Step B σ ρ st H ρ1 st1 H1) (h : drawAt st i = some (k, d)) (h1 : drawAt st1 i = some (k1, d1)) : k1 = k := by
  unfold drawAt at h h1
  split at h1
  · rename_i k' hs
    split at h1
    · cases h1
      obtain ⟨c, e⟩ := s.sl i _ _ hs
      split at h
      · rename_i k'' hs'
        split at h
        · cases h
          rw [hs'] at e
          cases e
          rfl
        · cases h
      · cases h
    · cases h1
  · cases h1
theorem dget_more (h : DrawAt H c d) (h' : DrawAt H' c d') (cl : CL) {a : Addr} (ha : DGet H c.main (.str cl.name) (some (.ref a))) : H' a = some (.lst ((cl.get d').map V.int)) := by
  obtain ⟨g, l, e1, _, _, _, e3, e4, e5⟩ := h
  obtain ⟨g', l', e1', _, _, _, e3', e4', e5'⟩ := h'
  rw [e1] at e1'
  cases e1'
  rcases ha with ⟨kvs, k, r, ek, ev⟩ | ⟨kvs, k, b, r, _⟩
  · rcases r with r | ⟨o, r⟩
    · rw [e3] at r
      cases r
      cases k with
      | inl n => cases ek
      | inr s =>
        cases ek
        cases cl
        · cases ev; exact e4'
        · cases ev; exact e5'
    · rw [e3] at r; cases r
  · rcases r with r | ⟨o, r⟩ <;> (rw [e3] at r; cases r)
theorem pd_cix (hK : B.C.K = X.K) (hu : X.A.units + 65 < cLine) (cl : CL) (ho : PE X o (tVar i)) (hs : NoSl (.Constant (.str cl.name) kk p)) (he : PD X B W e fe) (hsl : PlainIx e) : PD X B W (.Subscript (.Subscript o (.Constant (.str cl.name) kk p) p2) e pos) (evCIx i cl fe) := by
  refine PE.mono (pe_ix ix_list (pe_dget (by omega) ho pe_str hs) he hsl) fun σ H Q ⟨ρ, st, rel, res⟩ => ?_
  unfold evCIx at res
  cases h0 : drawAt st i with
  | none => rw [h0] at res; exact res.elim
  | some kd =>
    obtain ⟨k, d⟩ := kd
    rw [h0] at res
    obtain ⟨c, e1, e2, e3, e4⟩ := drawAt_of rel h0
    obtain ⟨a, ha, e5, e6⟩ := dget_l e4 cl
    refine ⟨_, e1, _, _, rfl, e6, ?_⟩
    refine RD.go rel (Res.bind res) fun b st1 ρ1 H1 s1 r1 y ry fy => ?_
    cases h1 : drawAt st1 i with
    | none => rw [h1] at r1; exact r1.elim
    | some kd =>
      obtain ⟨k1, d1⟩ := kd
      rw [h1] at r1
      obtain ⟨c1, f1, f2, f3, f4⟩ := drawAt_of s1.rel h1
      have hk := drawAt_step s1 h0 h1
      subst hk
      have hcc : c1 = c := by
        obtain ⟨t, rfl⟩ := s1.pre
        rw [List.getElem?_append_left (List.getElem?_eq_some_iff.mp e2).1, e2] at f2
        cases f2; rfl
      subst hcc
      have e7 := dget_more e4 f4 cl e6
      obtain ⟨bd, bk⟩ := b
      cases bd <;> try exact r1.elim
      rename_i j
      dsimp only at r1
      cases ej : atI (cl.get d1) j with
      | none => rw [ej] at r1; exact r1.elim
      | some n =>
        rw [ej] at r1
        obtain rfl := RepK.int ry
        refine ⟨a, _, j, .int n, rfl, rfl, .inl (.inl e7), by rw [atI_map, ej]; rfl, ?_⟩
        exact Res.now s1.rel r1 _ (RepK.mkF (d := .int _) rfl) (fresh_flat (d := .int _) rfl)
/-! ### writing -/
theorem Step.draw (rel : Rel B ρ st σ H) (hc : ρ[k]? = some c) (hs : st.cs[k]? = some (.draw d)) (hd : DrawAt H' c d') (hfr : ∀ a, ¬ (a = c.main ∨ a ∈ c.more) → H' a = H a) : Step B σ ρ st H ρ ⟨st.sl, st.cs.set k (.draw d')⟩ H' := by
  have inC : ∀ a, (a = c.main ∨ a ∈ c.more) → CM ρ a := fun a z => ⟨c, List.mem_of_getElem? hc, z⟩
  have some' : ∀ a, (a = c.main ∨ a ∈ c.more) → H' a ≠ none := fun a z => by
    obtain ⟨g, l, e1, _, _, _, e3, e4, e5⟩ := hd
    rcases z with rfl | z
    · rw [e3]; exact fun z => nomatch z
    · rw [e1] at z
      rcases List.mem_cons.mp z with rfl | z
      · rw [e4]; exact fun z => nomatch z
      · rcases List.mem_cons.mp z with rfl | z
        · rw [e5]; exact fun z => nomatch z
        · cases z
  have fr : ∀ a o, H a = some o → ¬ CM ρ a → NT o → H' a = some o := fun a o e n _ => (hfr a fun z => n (inC a z)).trans e
  have dm : ∀ a, H a ≠ none → H' a ≠ none := fun a z => by
    by_cases h : a = c.main ∨ a ∈ c.more
    · exact some' a h
    · rw [hfr a h]; exact z
  have mv : ∀ a, Av ρ B.O ⟨st.sl, st.cs.set k (.draw d')⟩ σ a → Av ρ B.O st σ a ∨ H a = none := fun a z => .inl z
  have fr' : ∀ a o, H a = some o → ¬ Av ρ B.O st σ a → NT o → H' a = some o := fun a o e n => fr a o e fun z => n (.cm z)
  have hkl : k < st.cs.length := (List.getElem?_eq_some_iff.mp hs).1
  refine ⟨List.prefix_refl _, ⟨rel.len, fun i d h => ?_, fun i d h => ?_, rel.dis, fun a z => dm a (rel.dom a z), fun a z => dm a (rel.odom a z), ⟨by rw [rel.cel.len]; simp, fun j cj x h1 h2 => ?_, rel.cel.dis⟩, fun a z => dm a (rel.cdom a z), tabs_but rel.tabs fun a o e nw => ?_⟩, fr, fun _ _ z => z, fun _ _ b z => ⟨b, z⟩, fun _ z => .inl z, dm⟩
  · obtain ⟨v, e, q⟩ := rel.fro i d h
    exact ⟨v, e, q.mv (List.prefix_refl _) fr' mv⟩
  · obtain ⟨q, e, cc, n1, n2, n3⟩ := rel.own i d h
    exact ⟨q, e, cc.mv (List.prefix_refl _) fr' mv (hfr q fun z => n1 (inC q z)), n1, n2, n3⟩
  · by_cases hj : j = k
    · subst hj
      rw [hc] at h1
      cases h1
      have h2 : (st.cs.set j (.draw d'))[j]? = some x := h2
      rw [List.getElem?_set_self hkl] at h2
      cases h2
      exact hd
    · have h2 : (st.cs.set k (.draw d'))[j]? = some x := h2
      rw [List.getElem?_set_ne (Ne.symm hj)] at h2
      have q := rel.cel.ok j cj x h1 h2
      have keep : ∀ a, (a = cj.main ∨ a ∈ cj.more) → H' a = H a := fun a z => hfr a fun z' => rel.cel.dis j k cj c h1 hc hj a z z'
      cases x with
      | draw dd =>
        obtain ⟨g, l, e1, n1, n2, n3, e3, e4, e5⟩ := q
        exact ⟨g, l, e1, n1, n2, n3, (keep _ (.inl rfl)).trans e3, (keep g (.inr (by rw [e1]; simp))).trans e4, (keep l (.inr (by rw [e1]; simp))).trans e5⟩
      | obj dd => exact ⟨q.1, q.2.mv (List.prefix_refl _) fr' mv (keep _ (.inl rfl))⟩
      | dead => trivial
  · by_cases h : a = c.main ∨ a ∈ c.more
    · obtain ⟨g, l, e1, _, _, _, e3, e4, e5⟩ := rel.cel.ok k c _ hc hs
      refine absurd ?_ nw
      rcases h with rfl | h
      · rw [e3] at e; cases e; trivial
      · rw [e1] at h
        rcases List.mem_cons.mp h with rfl | h
        · rw [e4] at e; cases e; trivial
        · rcases List.mem_cons.mp h with rfl | h
          · rw [e5] at e; cases e; trivial
          · cases h
    · rw [hfr a h]; exact e
/-- d['..'] = e -/
def svCSet (i : Nat) (ck : CK) (fe : Ev) : Sv := fun st => (fe st).bind fun a st1 => match drawAt st1 i, a.1 with
  | some (k, d), .int n => .ok .nx ⟨st1.sl, st1.cs.set k (.draw (ck.put d n))⟩
  | _, _ => .stuck
theorem dput_i (h : DrawAt H c d) (ck : CK) (n : Int) : ∃ H', DPut H c.main (.str ck.name) (.int n) H' ∧ DrawAt H' c (ck.put d n) ∧ ∀ a, ¬ (a = c.main ∨ a ∈ c.more) → H' a = H a := by
  obtain ⟨g, l, e1, n1, n2, n3, e3, e4, e5⟩ := h
  refine ⟨_, .inl ⟨_, .inr ck.name, e3, rfl, by show 4 < sizeLine; decide, rfl⟩, ⟨g, l, e1, n1, n2, n3, ?_, ?_, ?_⟩, fun a z => upd_ne fun e => z (.inl e)⟩
  · rw [upd_same]
    cases ck <;> rfl
  · rw [upd_ne (Ne.symm n1), e4]
    cases ck <;> rfl
  · rw [upd_ne (Ne.symm n2), e5]
    cases ck <;> rfl
theorem psd_cset (hu : X.A.units + 65 < cLine) (ck : CK) (ho : PE X o (tVar i)) (he : PD X B W e fe) (hs : swapsWith e (some (.Subscript o (.Constant (.str ck.name) kk p) pos')) pos.line X.env = pure false) : PSD X B W (.Assign [.Subscript o (.Constant (.str ck.name) kk p) pos'] e pos) (svCSet i ck fe) := by
  refine PS.mono (ps_dput (by omega) ho pe_str he hs) fun D σ H ⟨ρ, st, rel, r⟩ => ?_
  refine RD.go rel (SRes.ex r) fun a st1 ρ1 H1 s1 r1 v rv fv => ?_
  cases h1 : drawAt st1 i with
  | none => rw [h1] at r1; exact r1.elim
  | some kd =>
    obtain ⟨k, d⟩ := kd
    rw [h1] at r1
    obtain ⟨ad, ak⟩ := a
    cases ad <;> try exact r1.elim
    rename_i n
    obtain rfl := RepK.int rv
    obtain ⟨c, f1, f2, f3, f4⟩ := drawAt_of s1.rel h1
    obtain ⟨H2, g1, g2, g3⟩ := dput_i f4 ck n
    refine ⟨_, f1, _, H2, rfl, g1, ?_⟩
    exact r1 _ _ _ (.of (Step.draw s1.rel f2 f3 g2 g3))
/-- d['turn'] += 1 -/
def svCAug (i : Nat) (ck : CK) (fe : Ev) : Sv := fun st => match drawAt st i with
  | some (k, d) => (fe st).bind fun a st1 => (match drawAt st1 i, a.1 with
    | some (_, d1), .int n => .ok .nx ⟨st1.sl, st1.cs.set k (.draw (ck.put d1 (ck.get d + n)))⟩
    | _, _ => .stuck)
  | none => .stuck
theorem psd_caug (hu : X.A.units + 65 < cLine) (ck : CK) (ho : PE X o (tVar i)) (he : PD X B W e fe)
    (ha : ∀ ov iv new, augStore (.Constant (.str ck.name) kk p) ov iv new = (do holding [new, ov, iv] (setItem ov iv new); release [new, ov, iv] []; pure .next)) : PSD X B W (.AugAssign (.Subscript o (.Constant (.str ck.name) kk p) tpos) .Add e pos) (svCAug i ck fe) := by
  refine PS.mono (ps_daug (by omega) ho pe_str he in_add ha) fun D σ H ⟨ρ, st, rel, r⟩ => ?_
  unfold svCAug at r
  cases h0 : drawAt st i with
  | none => rw [h0] at r; exact r.elim
  | some kd =>
    obtain ⟨k, d⟩ := kd
    rw [h0] at r
    obtain ⟨c, e1, e2, e3, e4⟩ := drawAt_of rel h0
    refine ⟨_, e1, _, _, rfl, dget_i e4 ck, ?_⟩
    refine RD.go rel (SRes.ex r) fun a st1 ρ1 H1 s1 r1 v rv fv => ?_
    cases h1 : drawAt st1 i with
    | none => rw [h1] at r1; exact r1.elim
    | some kd =>
      obtain ⟨k1, d1⟩ := kd
      rw [h1] at r1
      obtain ⟨ad, ak⟩ := a
      cases ad <;> try exact r1.elim
      rename_i n
      obtain rfl := RepK.int rv
      obtain ⟨c1, f1, f2, f3, f4⟩ := drawAt_of s1.rel h1
      have hk := drawAt_step s1 h0 h1
      subst hk
      have hcc : c1 = c := by
        obtain ⟨t, rfl⟩ := s1.pre
        rw [List.getElem?_append_left (List.getElem?_eq_some_iff.mp e2).1, e2] at f2
        cases f2; rfl
      subst hcc
      obtain ⟨H2, g1, g2, g3⟩ := dput_i f4 ck (ck.get d + n)
      refine ⟨_, _, rfl, rfl, H2, g1, ?_⟩
      exact r1 _ _ _ (.of (Step.draw s1.rel f2 f3 g2 g3))
/-- d['digits'] = d['great'].pop(0) -/
def svPop0 (i : Nat) : Sv := fun st => match drawAt st i with
  | some (k, d) => (match d.great with
    | n :: r => .ok .nx ⟨st.sl, st.cs.set k (.draw { d with great := r, digits := n })⟩
    | [] => .stuck)
  | none => .stuck
theorem psd_pop0 {kk2 : Nat} {p3 p4 : Pos} (hK : B.C.K = X.K) (hu : X.A.units + 65 < cLine) (ho : PE X o (tVar i)) (ho2 : PE X e (tVar i)) (hsg : NoSl (.Constant (.str CL.great.name) kk2 p2))
    (hbase : attributeBase (.Subscript e (.Constant (.str CL.great.name) kk2 p2) p3) "pop" X.env (eval (.Subscript e (.Constant (.str CL.great.name) kk2 p2) p3) X.env) = eval (.Subscript e (.Constant (.str CL.great.name) kk2 p2) p3) X.env)
    (hfew : ((backTo cpos (starEach [.Constant (.int 0) k p4] X.env)).all (fun x => !x.1) && (backToKw cpos (keywordEach [] X.env)).all (fun x => x.1.isSome)
      && decide (([.Constant (.int 0) k p4] : List Expr).length + ([] : List Keyword).length + (if ([] : List Keyword).isEmpty then 0 else 1) < 30)) = true)
    (hline : (apos.endLine == cpos.line) = true) (hst : starEach [.Constant (.int 0) k p4] X.env = (false, eval (.Constant (.int 0) k p4) X.env) :: starEach [] X.env) (hplain : (backTo cpos (starEach [] X.env)).any (·.1) = false)
    (hs : swapsWith (.Call (.Attribute (.Subscript e (.Constant (.str CL.great.name) kk2 p2) p3) "pop" apos) [.Constant (.int 0) k p4] [] cpos) (some (.Subscript o (.Constant (.str CK.digits.name) kk p) pos')) pos.line X.env = pure false) :
    PSD X B W (.Assign [.Subscript o (.Constant (.str CK.digits.name) kk p) pos'] (.Call (.Attribute (.Subscript e (.Constant (.str CL.great.name) kk2 p2) p3) "pop" apos) [.Constant (.int 0) k p4] [] cpos) pos) (svPop0 i) := by
  refine PS.mono (ps_dput (by omega) ho pe_str (pe_bm PySem.F.plainAttrs_list PySem.F.slot_list_pop PySem.F.type_list_pop mt_popAt (pe_dget (by omega) ho2 pe_str hsg) (pa_cons pe_int pa_nil hst) hbase hfew hline hst hplain) hs) fun D σ H ⟨ρ, st, rel, r⟩ => ?_
  unfold svPop0 at r
  cases h0 : drawAt st i with
  | none => rw [h0] at r; exact r.elim
  | some kd =>
    obtain ⟨k, d⟩ := kd
    rw [h0] at r
    obtain ⟨c, e1, e2, e3, e4⟩ := drawAt_of rel h0
    have e4' := e4
    obtain ⟨g, l, f1, n1, n2, n3, f3, f4, f5⟩ := e4
    dsimp only at r
    cases hg : d.great with
    | nil => rw [hg] at r; exact r.elim
    | cons n rest =>
      rw [hg] at r
      have f4' : H g = some (.lst (V.int n :: rest.map V.int)) := by rw [f4, hg]; rfl
      refine ⟨_, e1, _, _, rfl, .inl ⟨_, .inr CL.great.name, .inl f3, rfl, rfl⟩, .inl ⟨rfl, _, .inl (.inl f4)⟩, g, _, 0, 0, .int n, rfl, rfl, f4', by decide, by decide, by simp [seqIndex?], rfl, ?_⟩
      have hm : upd H g (.lst (rest.map V.int)) c.main = some (.dK [(kDigits, .int d.digits), (kGreat, .ref g), (kLumps, .ref l), (kTurn, .int d.turn)]) := by rw [upd_ne n1]; exact f3
      refine ⟨_, e1, _, _, rfl, .inl ⟨_, .inr CK.digits.name, hm, rfl, by show 4 < sizeLine; decide, rfl⟩, ?_⟩
      refine r _ _ _ (.of (Step.draw rel e2 e3 ⟨g, l, f1, n1, n2, n3, ?_, ?_, ?_⟩ fun a z => ?_))
      · rw [upd_same]; rfl
      · rw [upd_ne (Ne.symm n1), upd_same]; rfl
      · rw [upd_ne (Ne.symm n2), upd_ne (Ne.symm n3)]; exact f5
      · rw [f1] at z
        have za : a ≠ c.main := fun e => z (.inl e)
        have zg : a ≠ g := fun e => z (.inr (by simp [e]))
        rw [upd_ne za]
        exact upd_ne zg
end
end D

/-! D: the rules in short, for printed proofs. -/
namespace D
open PySem L2 PyProof.Rows

/-- a flat answer is new -/
def evN (f : Ev) : Ev := fun st => (f st).bind fun a st1 => .ok (a.1, if flat a.1 = true then .new else a.2) st1
theorem pd_n {X : Cx} {B : BC} {W : WX} {e : Expr} {f : Ev} (h : PD X B W e f) : PD X B W e (evN f) := by
  refine PE.mono h fun σ H Q ⟨ρ, st, rel, r⟩ => ⟨ρ, st, rel, ?_⟩
  unfold evN at r
  cases e : f st with
  | stuck => rw [e] at r; exact r
  | exc x st1 => rw [e] at r; exact r
  | ok a st1 =>
    rw [e] at r
    intro ρ1 H1 s v rv fv
    have r1 := r ρ1 H1 s v
    dsimp only at r1
    by_cases hf : flat a.1 = true
    · rw [if_pos hf] at r1
      obtain rfl := rv.flat hf
      exact r1 (RepK.mkF hf) (fresh_flat hf)
    · rw [if_neg hf] at r1
      exact r1 rv fv
/-- what is known of a context -/
structure Fx (X : Cx) (C : RC) (W : WX) (k : Nat) : Prop where
  K : C.K = X.K
  calm : X.calm = true
  room : Room k X.A
  gu : X.A.guards = some []
  tk : Takes X W
theorem takesF {X : Cx} : Takes X WF := fun _ _ x => by
  obtain ⟨_, _, _, _, _, _, _, _, _, _, _, _, _, _, _, _, z⟩ := x
  exact z.elim
section
variable {X : Cx} {C : RC} {O : Addr → Prop} {H0 : Hp} {W : WX} {k : Nat} {a b c e : Expr} {es rest : List Expr} {fa fb fc fe : Ev} {f g : Sv} {ta tb t : Tv} {gk : Ak} {pos p p1 p2 p3 apos cpos tpos : Pos} {x : Str} {i j kk : Nat}
theorem Fx.hu (fx : Fx X C W k) : X.A.units + 65 < cLine := by
  have h := fx.room.un
  omega
theorem Fx.blk (fx : Fx X C W k) {s : Shared} {H : Hp} {scope : Scope} {ce : Env} {fp : List Addr} : Fx (X.blk s H scope ce fp) C WF k := ⟨fx.K, fx.calm, fx.room, fx.gu, takesF⟩
/-! ### names and constants -/
theorem w_var (i : Nat) (hN : X.N[i]? = some x := by rfl) (hv : Vis X.env.scope x := by first | exact Or.inl rfl | exact Or.inr (Or.inl rfl) | exact Or.inr (Or.inr rfl)) (hd : (x == ("__debug__" : Str)) = false := by decide)
    (hcd : (x == ("__classdict__" : Str)) = false := by decide) : PD X ⟨C, O, H0⟩ W (.Name x pos) (evVar i) := pd_var (pe_var hN hv hd hcd)
theorem w_int {n : Int} : PD X ⟨C, O, H0⟩ W (.Constant (.int n) kk pos) (evC (.int n)) := pd_c pe_int (fun _ _ _ _ => .int n) fun _ e => nomatch e
theorem w_str {s : Str} : PD X ⟨C, O, H0⟩ W (.Constant (.str s) kk pos) (evC (.str s)) := pd_c pe_str (fun _ _ _ _ => .str s) fun _ e => nomatch e
theorem w_bool {v : Bool} : PD X ⟨C, O, H0⟩ W (.Constant (.bool v) kk pos) (evC (.bl v)) := pd_c pe_bl (fun _ _ _ _ => .bl v) fun _ e => nomatch e
theorem w_none : PD X ⟨C, O, H0⟩ W (.Constant .none kk pos) (evC .non) := pd_c pe_non (fun _ _ _ _ => .non) fun _ e => nomatch e
/-- a written number or text of the module -/
theorem w_gint {n : Int} (hm : ∃ t, X.mg x = some (.int n t)) (hg : Gl X x := by rfl) (hd : (x == ("__debug__" : Str)) = false := by decide) : PD X ⟨C, O, H0⟩ W (.Name x pos) (evC (.int n)) := by
  obtain ⟨t, h⟩ := hm
  exact pd_c (pe_glob hg h (v := .int n) ⟨t, rfl⟩ hd) (fun _ _ _ _ => .int n) fun _ e => nomatch e
theorem w_gstr {s : Str} (hm : ∃ t, X.mg x = some (.str s t)) (hg : Gl X x := by rfl) (hd : (x == ("__debug__" : Str)) = false := by decide) : PD X ⟨C, O, H0⟩ W (.Name x pos) (evC (.str s)) := by
  obtain ⟨t, h⟩ := hm
  exact pd_c (pe_glob hg h (v := .str s) ⟨t, rfl⟩ hd) (fun _ _ _ _ => .str s) fun _ e => nomatch e
/-- a built-in type's name -/
theorem w_ty (n : String) (hv : bootBuiltins x = some (.type n)) (hm : X.mg x = none) (hg : Gl X x := by rfl) (hn : x ≠ "__name__" := by decide) (hd : (x == ("__debug__" : Str)) = false := by decide) : PD X ⟨C, O, H0⟩ W (.Name x pos) (evC (.ty n)) :=
  pd_c (pe_bltn hg hm hv (v := .ty n) rfl hn hd) (fun _ _ _ _ => .ty n) fun _ e => nomatch e
/-! ### operators -/
theorem w_bin (fx : Fx X C W k) (op : Operator) (ha : PD X ⟨C, O, H0⟩ W a fa) (hb : PD X ⟨C, O, H0⟩ W b fb) : PD X ⟨C, O, H0⟩ W (.BinOp a op b pos) (evOp (dBin op) fa fb) := by
  obtain ⟨r, h1, h2⟩ := op_bin (B := ⟨C, O, H0⟩) fx.K op
  exact pd_bin h1 h2 ha hb
theorem w_cmp (fx : Fx X C W k) (op : CmpOp) (ha : PD X ⟨C, O, H0⟩ W a fa) (hb : PD X ⟨C, O, H0⟩ W b fb) (hm : behindInMarks op b = false := by rfl) : PD X ⟨C, O, H0⟩ W (.Compare a [op] [b] pos) (evOp (dCmp op) fa fb) := by
  obtain ⟨r, h1, h2⟩ := op_cmp (B := ⟨C, O, H0⟩) fx.K fx.hu op
  exact pd_cmp h1 h2 ha hb hm
theorem w_chain (fx : Fx X C W k) (op op' : CmpOp) (ha : PD X ⟨C, O, H0⟩ W a fa) (hb : PD X ⟨C, O, H0⟩ W b fb) (hc : PD X ⟨C, O, H0⟩ W c fc) (hm : lastMarks [op, op'] [b, c] = false := by rfl) :
    PD X ⟨C, O, H0⟩ W (.Compare a [op, op'] [b, c] pos) (evChain (dCmp op) (dCmp op') fa fb fc) := by
  obtain ⟨r, h1, h2⟩ := op_cmp (B := ⟨C, O, H0⟩) fx.K fx.hu op
  obtain ⟨r', h1', h2'⟩ := op_cmp (B := ⟨C, O, H0⟩) fx.K fx.hu op'
  exact pd_chain h1 h1' h2 h2' ha hb hc hm
theorem w_and (fx : Fx X C W k) (ha : PD X ⟨C, O, H0⟩ W a fa) (hb : PD X ⟨C, O, H0⟩ W (.BoolOp .And (b :: rest) pos) fb) : PD X ⟨C, O, H0⟩ W (.BoolOp .And (a :: b :: rest) pos) (evAnd fa fb) := pd_and fx.K ha hb
theorem w_or (fx : Fx X C W k) (ha : PD X ⟨C, O, H0⟩ W a fa) (hb : PD X ⟨C, O, H0⟩ W (.BoolOp .Or (b :: rest) pos) fb) : PD X ⟨C, O, H0⟩ W (.BoolOp .Or (a :: b :: rest) pos) (evOr fa fb) := pd_or fx.K ha hb
theorem w_not (fx : Fx X C W k) (ha : PD X ⟨C, O, H0⟩ W a fa) : PD X ⟨C, O, H0⟩ W (.UnaryOp .Not a pos) (evNot fa) := pd_not fx.K ha
theorem w_ix (fx : Fx X C W k) (ha : PD X ⟨C, O, H0⟩ W a fa) (hb : PD X ⟨C, O, H0⟩ W b fb) (hs : PlainIx b := by intro _ _; rfl) : PD X ⟨C, O, H0⟩ W (.Subscript a b pos) (evN (evOp dIx fa fb)) := pd_n <| pd_ix fx.K (Nat.lt_of_le_of_lt (Nat.add_le_add_left (by decide : 1 ≤ 65) _) fx.hu) ha hb hs
/-! ### tests -/
theorem wt_cmp (fx : Fx X C W k) (op : CmpOp) (ha : PD X ⟨C, O, H0⟩ W a fa) (hb : PD X ⟨C, O, H0⟩ W b fb) (hm : behindInMarks op b = false := by rfl) : PTD X ⟨C, O, H0⟩ W (.Compare a [op] [b] pos) (tvB (evOp (dCmp op) fa fb)) := by
  obtain ⟨r, h1, h2⟩ := op_cmp (B := ⟨C, O, H0⟩) fx.K fx.hu op
  exact ptd_cmp h1 h2 ha hb hm
theorem wt_e (fx : Fx X C W k) (h : PD X ⟨C, O, H0⟩ W e fe) (he : ∀ whole, isTrue e X.env whole = (do let v ← whole; standAt e.pos; holding [v] (truthy v)) := by intro _; rfl) : PTD X ⟨C, O, H0⟩ W e (tvE fe) := ptd_truth fx.K h he
theorem w_ifExp (hc : PTD X ⟨C, O, H0⟩ W c t) (ha : PD X ⟨C, O, H0⟩ W a fa) (hb : PD X ⟨C, O, H0⟩ W b fb) : PD X ⟨C, O, H0⟩ W (.IfExp c a b pos) (evIf t fa fb) := pd_ifExp hc ha hb
/-! ### arguments, displays, calls -/
theorem w_k (he : PD X ⟨C, O, H0⟩ W e fe) (hr : PKD X ⟨C, O, H0⟩ W es gk) (hs : starEach (e :: es) X.env = (false, eval e X.env) :: starEach es X.env := by rfl) : PKD X ⟨C, O, H0⟩ W (e :: es) (akCons fe gk) := pkd_cons he hr hs
theorem w_a0 : PAD X ⟨C, O, H0⟩ W [] evNil := pad_nil
theorem w_a {ga : Av'} (he : PD X ⟨C, O, H0⟩ W e fe) (hr : PAD X ⟨C, O, H0⟩ W es ga) (hs : starEach (e :: es) X.env = (false, eval e X.env) :: starEach es X.env := by rfl) : PAD X ⟨C, O, H0⟩ W (e :: es) (evCons fe ga) := pad_cons he hr hs
theorem akApp_nil (g : Ak) : akApp g [] = g := by
  funext st
  unfold akApp
  cases g st with
  | ok as st1 => simp [Out.bind]
  | exc x st1 => rfl
  | stuck => rfl
/-- an own def, by position, no defaults -/
theorem w_fn {F : Fn} {l : Nat} {fa : Addr} {fd : FuncData} {ps : List Str} (fx : Fx X C W k) (Fk : FnG X.prog X.w X.K X.mg X.base l fa fd ps (SpF C F)) (hm : X.mg x = some (.ref fa)) (hk : PySem.W.keepIn X.K (.ref fa) = true) (hb : Binds X.K fd ps [])
    (ha : PKD X ⟨C, O, H0⟩ W (e :: es) gk) (hl : l ≤ k := by decide) (hg : Gl X x := by rfl) (hdb : (x == ("__debug__" : Str)) = false := by decide) (he : starEach (e :: es) X.env = (false, eval e X.env) :: starEach es X.env := by rfl) (hpl : (backTo pos (starEach es X.env)).any (·.1) = false := by rfl) :
    PD X ⟨C, O, H0⟩ W (.Call (.Name x p) (e :: es) [] pos) (evN (evFn F gk)) := by
  have h := pd_fn (B := ⟨C, O, H0⟩) (W := W) (p := p) fx.K Fk (fx.room.mono hl) fx.gu hg hm hk hb (dvs := []) (dds := []) .nil (fun _ _ _ => .nil) fx.tk ha hdb he hpl
  rw [akApp_nil] at h
  exact pd_n h
theorem w_blt {ct : CT} (fx : Fx X C W k) (kc : KitC C ct) (b : Blt) (hm : X.mg b.name = none) (ha : PKD X ⟨C, O, H0⟩ W (e :: es) gk) (hgl : Gl X b.name := by rfl)
    (he : starEach (e :: es) X.env = (false, eval e X.env) :: starEach es X.env := by rfl) (hpl : (backTo pos (starEach es X.env)).any (·.1) = false := by rfl) : PD X ⟨C, O, H0⟩ W (.Call (.Name b.name p) (e :: es) [] pos) (evCall (b.run ct) gk) :=
  pd_blt b fx.K kc fx.calm fx.gu fx.hu hgl hm ha he hpl
theorem w_join (fx : Fx X C W k) (ho : PD X ⟨C, O, H0⟩ W a fa) (ha : PKD X ⟨C, O, H0⟩ W [e] gk) (hbase : attributeBase a "join" X.env (eval a X.env) = eval a X.env := by rfl)
    (hfew : ((backTo cpos (starEach [e] X.env)).all (fun x => !x.1) && (backToKw cpos (keywordEach [] X.env)).all (fun x => x.1.isSome)
      && decide (([e] : List Expr).length + ([] : List Keyword).length + (if ([] : List Keyword).isEmpty then 0 else 1) < 30)) = true := by rfl)
    (hline : (apos.endLine == cpos.line) = true := by rfl) (hst : starEach [e] X.env = (false, eval e X.env) :: starEach [] X.env := by rfl) (hplain : (backTo cpos (starEach [] X.env)).any (·.1) = false := by rfl) :
    PD X ⟨C, O, H0⟩ W (.Call (.Attribute a "join" apos) [e] [] cpos) (evMeth isStrD mJoin fa gk) :=
  pd_meth (B := ⟨C, O, H0⟩) fx.K PySem.F.plainAttrs_str PySem.F.slot_str_join PySem.F.type_str_join mt_join ty_str (by rw [← fx.K]; exact s_join) ho ha hbase hfew hline hst hplain
/-! ### dict displays -/
/-! ### loops' sources -/
variable {tg iter : Expr}
theorem wi_e (fx : Fx X C W k) (he : PD X ⟨C, O, H0⟩ W e fe) : PID X ⟨C, O, H0⟩ W tg e (ivE fe) := pid_any fx.K he
theorem wi_r1 (hm : X.mg "range" = none) (ha : PKD X ⟨C, O, H0⟩ W [a] gk) (hg : Gl X "range" := by rfl) (hs : starEach [a] X.env = [(false, eval a X.env)] := by rfl) : PID X ⟨C, O, H0⟩ W tg (.Call (.Name "range" p) [a] [] pos) (ivR1 gk) := pid_range1 hg hm ha hs
/-! ### targets -/
theorem wg_name (i : Nat) (hN : X.N.Nodup) (hi : X.N[i]? = some x := by rfl) (hx : Loc X.env.scope x := by first | exact Or.inl rfl | exact Or.inr rfl) (hf : X.fn x = true ∨ X.env.scope.names.lookup x = some .local := by first | exact .inr rfl | exact .inl rfl) : PGD X C [i] (.Name x pos) (gvName i) := pgd_name hN hi hx hf
theorem wg_n0 : PGsD X C [] [] gvNil := pgsd_nil
theorem wg_n {vs ws : List Nat} {fg : Gv} {gg : List DV → DS → Option DS} (h1 : PGD X C vs e fg) (h2 : PGsD X C ws es gg) (hs : (assignEach (e :: es) X.env).map (·.2) = assign e X.env :: (assignEach es X.env).map (·.2) := by rfl) : PGsD X C (vs ++ ws) (e :: es) (gvCons fg gg) := pgsd_cons h1 h2 hs
theorem wg_tup {vs : List Nat} {gg : List DV → DS → Option DS} {n : Nat} (fx : Fx X C W k) (h : PGsD X C vs es gg) (hn : (assignEach es X.env).length = n := by rfl) (hst : (assignEach es X.env).findIdx? (·.1) = none := by rfl) : PGD X C vs (.Tuple es kk pos) (gvTup n gg) := pgd_tup fx.K fx.calm h hn hst
/-! ### comprehensions -/
theorem w_lc {elt : Expr} {ifs : List Expr} {scope : Scope} {vt : List Nat} {fi : Iv} {g : Gv} {tt : Tv} (own : List (Str × Nat)) (fx : Fx X C W k) (hN : X.N.Nodup) (hi : PID X ⟨C, O, H0⟩ W tg iter fi) (ok : BlkOk X.N X.env.scope scope own)
    (hg : ∀ (s : Shared) (H : Hp) (Ca : Addr) (cl : List (Str × Addr)) (fp : List Addr), Fx (X.blk s H scope (compEnvC scope cl Ca X.env) fp) C WF k → PGD (X.blk s H scope (compEnvC scope cl Ca X.env) fp) C vt tg g)
    (ht : ∀ (s : Shared) (H : Hp) (Ca : Addr) (cl : List (Str × Addr)) (fp : List Addr), Fx (X.blk s H scope (compEnvC scope cl Ca X.env) fp) C WF k → PTs (X.blk s H scope (compEnvC scope cl Ca X.env) fp) ifs (RTx C tt))
    (he : ∀ (s : Shared) (H : Hp) (Ca : Addr) (cl : List (Str × Addr)) (fp : List Addr), Fx (X.blk s H scope (compEnvC scope cl Ca X.env) fp) C WF k → ∀ O H0, PD (X.blk s H scope (compEnvC scope cl Ca X.env) fp) ⟨C, O, H0⟩ WF elt fe)
    (hv : ∀ i ∈ vt, i ∈ own.map (·.2) := by decide) (hs : ∀ x, foldedSetIterable iter X.env x = pure x := by intro _; rfl) :
    PD X ⟨C, O, H0⟩ W (.ListComp elt [⟨tg, iter, ifs, 0⟩] scope pos) (evLc (own.map (·.2)) fi g tt fe) :=
  pd_lc (B := ⟨C, O, H0⟩) fx.calm hN hi ok hv (fun s H Ca cl fp => hg s H Ca cl fp fx.blk) (fun s H Ca cl fp => ht s H Ca cl fp fx.blk) (fun s H Ca cl fp B' hB => by
    cases B' with
    | mk C' O' H' =>
      have hB : C' = C := hB
      subst hB
      exact he s H Ca cl fp fx.blk O' H') hs
theorem w_t0 : PTs X [] (RTx C tvYes) := ptsx_nil
theorem w_t1 (h : ∀ O H0, PTD X ⟨C, O, H0⟩ WF c t) : PTs X [c] (RTx C t) := ptsx_one fun B hB => by
  cases B with
  | mk C' O' H' =>
    have hB : C' = C := hB
    subst hB
    exact h O' H'
/-! ### statements -/
theorem ws_set (i : Nat) (hN : X.N.Nodup) (he : PD X ⟨C, O, H0⟩ W e fe) (hi : X.N[i]? = some x := by rfl) (hx : Loc X.env.scope x := by first | exact Or.inl rfl | exact Or.inr rfl) (hs : swapsWith e (some (.Name x p)) pos.line X.env = pure false := by rfl) (hf : X.fn x = true ∨ X.env.scope.names.lookup x = some .local := by first | exact .inr rfl | exact .inl rfl) :
    PSD X ⟨C, O, H0⟩ W (.Assign [.Name x p] e pos) (svSet i fe) := psd_set hN hi hx he hs hf
theorem ws_setLc {elt : Expr} {ifs : List Expr} {scope : Scope} {vt : List Nat} {fi : Iv} {g : Gv} {tt : Tv} (i : Nat) (own : List (Str × Nat)) (fx : Fx X C W k) (hN : X.N.Nodup) (hi : PID X ⟨C, O, H0⟩ W tg iter fi) (ok : BlkOk X.N X.env.scope scope own)
    (hg : ∀ (s : Shared) (H : Hp) (Ca : Addr) (cl : List (Str × Addr)) (fp : List Addr), Fx (X.blk s H scope (compEnvC scope cl Ca X.env) fp) C WF k → PGD (X.blk s H scope (compEnvC scope cl Ca X.env) fp) C vt tg g)
    (ht : ∀ (s : Shared) (H : Hp) (Ca : Addr) (cl : List (Str × Addr)) (fp : List Addr), Fx (X.blk s H scope (compEnvC scope cl Ca X.env) fp) C WF k → PTs (X.blk s H scope (compEnvC scope cl Ca X.env) fp) ifs (RTx C tt))
    (he : ∀ (s : Shared) (H : Hp) (Ca : Addr) (cl : List (Str × Addr)) (fp : List Addr), Fx (X.blk s H scope (compEnvC scope cl Ca X.env) fp) C WF k → ∀ O H0, PD (X.blk s H scope (compEnvC scope cl Ca X.env) fp) ⟨C, O, H0⟩ WF elt fe)
    (hsw : swapsWith (.ListComp elt [⟨tg, iter, ifs, 0⟩] scope pos) (some (.Name x p)) tpos.line X.env = pure true)
    (hv : ∀ i ∈ vt, i ∈ own.map (·.2) := by decide) (hy : X.N[i]? = some x := by rfl) (hyl : X.env.scope.names.lookup x = some .local := by rfl) (hs : ∀ x, foldedSetIterable iter X.env x = pure x := by intro _; rfl) :
    PSD X ⟨C, O, H0⟩ W (.Assign [.Name x p] (.ListComp elt [⟨tg, iter, ifs, 0⟩] scope pos) tpos) (svSet i (evLc (own.map (·.2)) fi g tt fe)) :=
  psd_setLc (B := ⟨C, O, H0⟩) fx.calm hN hy hyl hsw hi ok hv (fun s H Ca cl fp => hg s H Ca cl fp fx.blk) (fun s H Ca cl fp => ht s H Ca cl fp fx.blk) (fun s H Ca cl fp B' hB => by
    cases B' with
    | mk C' O' H' =>
      have hB : C' = C := hB
      subst hB
      exact he s H Ca cl fp fx.blk O' H') hs
theorem ws_ret (he : PD X ⟨C, O, H0⟩ W e fe) : PSD X ⟨C, O, H0⟩ W (.Return (some e) pos) (svRet fe) := psd_ret he
theorem ws_if {l r : List Stmt} (hc : PTD X ⟨C, O, H0⟩ W c t) (ha : PSsD X ⟨C, O, H0⟩ W l f) (hb : PSsD X ⟨C, O, H0⟩ W r g) : PSD X ⟨C, O, H0⟩ W (.If c l r pos) (svIf t f g) := psd_if hc ha hb
theorem ws_for {vs : List Nat} {body : List Stmt} {fi : Iv} {gv : Gv} (fx : Fx X C W k) (hp : PassesOwn (model X.prog X.w) X.A X.env X.xe) (hi : PID X ⟨C, O, H0⟩ W tg iter fi) (hg : PGD X C vs tg gv) (hb : PSsD X ⟨C, O, H0⟩ W body f)
    (hs : ∀ x, foldedSetIterable iter X.env x = pure x := by intro _; rfl) : PSD X ⟨C, O, H0⟩ W (.For tg iter body [] pos) (svFor fi gv f) := psd_for hp fx.calm hi hg hb hs
theorem ws_while {body : List Stmt} (n : Nat) (hp : PassesOwn (model X.prog X.w) X.A X.env X.xe) (hc : PTD X ⟨C, O, H0⟩ W c t) (hb : PSsD X ⟨C, O, H0⟩ W body f) : PSD X ⟨C, O, H0⟩ W (.While c body [] pos) (svWhile t f n) := psd_while hp hc hb n
end
theorem fx_of {P : Program} {w : World} {C : RC} {mg : Str → Option Value} {base : Heap} {N : List Str} {qual : Str} {scope : Scope} {f : Addr} {cdv : Value} {A : Around} {outer : List Env} {s : Shared} {H : Hp} {E : XK} {k : Nat}
    (hr : Room k (A.deeper (envOfC qual scope s.heap.objs.size f cdv))) (hg : (cxOf (L2.CX P w) P w C.K mg base N qual scope f cdv A outer s H E).A.guards = some []) :
    Fx (cxOf (L2.CX P w) P w C.K mg base N qual scope f cdv A outer s H E) C (fun cls d _ H' => E cls d H') k := ⟨rfl, rfl, hr, hg, takes_of rfl rfl rfl rfl⟩
theorem pas_of {P : Program} {w : World} {C : RC} {mg : Str → Option Value} {base : Heap} {N : List Str} {qual : Str} {scope : Scope} {f : Addr} {cdv : Value} {A : Around} {outer : List Env} {s : Shared} {H : Hp} {E : XK} :
    PassesOwn (model (cxOf (L2.CX P w) P w C.K mg base N qual scope f cdv A outer s H E).prog (cxOf (L2.CX P w) P w C.K mg base N qual scope f cdv A outer s H E).w) (cxOf (L2.CX P w) P w C.K mg base N qual scope f cdv A outer s H E).A (cxOf (L2.CX P w) P w C.K mg base N qual scope f cdv A outer s H E).env (cxOf (L2.CX P w) P w C.K mg base N qual scope f cdv A outer s H E).xe :=
  passes_of (X := cxOf (L2.CX P w) P w C.K mg base N qual scope f cdv A outer s H E) rfl
/-- a block's names, looked at -/
def blkB (N : List Str) (scn : List (Str × NameKind)) (kind : ScopeKind) (names : List (Str × NameKind)) (own : List (Str × Nat)) : Bool :=
  decide (kind = .function) && names.all (fun y => decide (names.lookup y.1 = some y.2)) && own.all (fun p => decide (N[p.2]? = some p.1)) &&
  names.all (fun y => !decide (y.2 = .free) || decide (scn.lookup y.1 = some .cell) || decide (scn.lookup y.1 = some .free)) &&
  names.all (fun y => !(decide (y.2 = .local) || decide (y.2 = .cell)) || decide (y.1 ∈ own.map (·.1)) || decide (y.1 ∉ N))
theorem blk_of {N : List Str} {sc scope : Scope} {own : List (Str × Nat)} (h : blkB N sc.names scope.kind scope.names own = true) : BlkOk N sc scope own := by
  unfold blkB at h
  simp only [Bool.and_eq_true, List.all_eq_true, decide_eq_true_eq, Bool.or_eq_true, Bool.not_eq_true', decide_eq_false_iff_not] at h
  obtain ⟨⟨⟨⟨h1, h2⟩, h3⟩, h4⟩, h5⟩ := h
  refine ⟨h1, h2, h3, fun y hy e => ?_, fun y hy e => ?_⟩
  · rcases h4 y hy with (z | z) | z
    · exact absurd e z
    · exact .inl z
    · exact .inr z
  · rcases h5 y hy with (z | z) | z
    · have z' : ¬ (y.2 = .local ∨ y.2 = .cell) := fun q => by
        rcases q with q | q <;> simp [q] at z
      exact absurd e z'
    · exact .inl z
    · exact .inr z
end D

/-! D: how a draw begins. -/
namespace D
open PySem L2 PyProof.Rows

abbrev absI (i : Int) : Int := if i < 0 then -i else i
def greatL (ns : List Int) : List Int := (ns.filter fun z => decide ((10 : Int) ^ 18 ≤ absI z)).map fun z => absI z / 10 ^ 18
def lumpL (ns : List Int) : List Int := ns.map fun z => absI z % 10 ^ 18
def begunD (ns : List Int) : DrawSt := ⟨0, greatL ns, lumpL ns, 0⟩
def F_begun : Fn := fun ds st => match ds with
  | [.scr ns] => if st.cs.all isDraw = true ∧ ns.length ≤ sizeLine then .ok (.cel st.cs.length, .fro) ⟨[], st.cs ++ [.draw (begunD ns)]⟩ else .stuck
  | _ => .stuck
section
variable {B : BC} {W : WX} {σ : L2.St} {ρ ρ1 : List CellA} {st st1 : DS} {H H1 H' : Hp} {C : RC} {O : Addr → Prop} {cs cs' : List CellC} {c : CellA} {d : DrawSt}
theorem Step.newCell {H0 : Hp} (s : Step ⟨C, O, H0⟩ [] ρ ⟨[], cs⟩ H ρ1 ⟨[], cs'⟩ H') (hd : DrawAt H' c d) (hdr : cs'.all isDraw = true) (hf : ∀ a, (a = c.main ∨ a ∈ c.more) → H a = none ∧ ¬ CM ρ1 a) :
    Step ⟨C, O, H0⟩ [] ρ ⟨[], cs⟩ H (ρ1 ++ [c]) ⟨[], cs' ++ [.draw d]⟩ H' := by
  have r := s.rel
  have cmS : ∀ a, CM (ρ1 ++ [c]) a → CM ρ1 a ∨ (a = c.main ∨ a ∈ c.more) := fun a ⟨x, hx, z⟩ => by
    rcases List.mem_append.mp hx with hx | hx
    · exact .inl ⟨x, hx, z⟩
    · have : x = c := by simpa using hx
      subst this
      exact .inr z
  have hl := r.cel.len
  refine ⟨s.pre.trans (List.prefix_append _ _), ⟨rfl, fun i d h => by simp at h, fun i d h => by simp at h, fun i j p h => by obtain ⟨d, h, _⟩ := h; simp at h, r.dom, r.odom, ⟨by simpa using hl, fun k x y h1 h2 => ?_, fun i j x y h1 h2 hij a z1 z2 => ?_⟩, fun a z => ?_, r.tabs⟩, s.fr, fun i p h => by obtain ⟨d, h, _⟩ := h; simp at h, fun i d b h => by simp at h, fun a z => ?_, s.dm⟩
  · have h2 : (cs' ++ [CellC.draw d])[k]? = some y := h2
    by_cases hk : k < ρ1.length
    · rw [List.getElem?_append_left hk] at h1
      rw [List.getElem?_append_left (by rw [← hl]; exact hk)] at h2
      exact (cells_draw (A' := Av (ρ1 ++ [c]) O ⟨[], cs' ++ [.draw d]⟩ []) hdr r.cel).ok k x y h1 h2 |> fun q => by
        have hx : isDraw y = true := List.all_eq_true.mp hdr y (List.mem_of_getElem? h2)
        cases y with
        | draw d => exact q
        | dead => trivial
        | obj d => cases hx
    · have hk' : k = ρ1.length := by
        have := (List.getElem?_eq_some_iff.mp h1).1
        simp at this
        omega
      subst hk'
      rw [List.getElem?_append_right (Nat.le_refl _)] at h1
      have hl' : ρ1.length = cs'.length := hl
      rw [hl', List.getElem?_append_right (Nat.le_refl _)] at h2
      simp at h1 h2
      subst h1 h2
      exact hd
  · by_cases hi : i < ρ1.length <;> by_cases hj : j < ρ1.length
    · rw [List.getElem?_append_left hi] at h1
      rw [List.getElem?_append_left hj] at h2
      exact r.cel.dis i j x y h1 h2 hij a z1 z2
    · rw [List.getElem?_append_left hi] at h1
      rw [List.getElem?_append_right (by omega)] at h2
      have hj' : j - ρ1.length = 0 := by
        have := (List.getElem?_eq_some_iff.mp h2).1
        simp at this; omega
      rw [hj'] at h2
      simp at h2
      subst h2
      exact (hf a z2).2 ⟨x, List.mem_of_getElem? h1, z1⟩
    · rw [List.getElem?_append_left hj] at h2
      rw [List.getElem?_append_right (by omega)] at h1
      have hi' : i - ρ1.length = 0 := by
        have := (List.getElem?_eq_some_iff.mp h1).1
        simp at this; omega
      rw [hi'] at h1
      simp at h1
      subst h1
      exact (hf a z1).2 ⟨y, List.mem_of_getElem? h2, z2⟩
    · have e1 := (List.getElem?_eq_some_iff.mp h1).1
      have e2 := (List.getElem?_eq_some_iff.mp h2).1
      simp at e1 e2
      omega
  · rcases cmS a z with z | z
    · exact r.cdom a z
    · obtain ⟨g, l, e1, _, _, _, e3, e4, e5⟩ := hd
      rcases z with rfl | z
      · rw [e3]; exact fun z => nomatch z
      · rw [e1] at z
        rcases List.mem_cons.mp z with rfl | z
        · rw [e4]; exact fun z => nomatch z
        · rcases List.mem_cons.mp z with rfl | z
          · rw [e5]; exact fun z => nomatch z
          · cases z
  · rcases cmS a z with z | z
    · exact s.cm a z
    · exact .inr (hf a z).1
theorem ints_rep {A : Addr → Prop} : ∀ {vs : List V} {ns : List Int}, RepL C ρ A H vs (ns.map DV.int) → vs = ns.map V.int
  | _, [], .nil => rfl
  | _, n :: ns, .cons r t => by
    cases r
    rw [ints_rep t]; rfl
end
section
variable {P : Program} {w : World} {mg : Str → Option Value} {base : Heap} {C : RC}
/-- the two comprehensions of _law_begun; slots: the script, great, lump -/
def evAbs (i : Nat) : Ev := evCall (f1 absD) (akCons (evVar i) akNil)
def evGreat : Ev := evLc [2] (ivE (evVar 0)) (gvName 2) (tvB (evOp (dCmp .GtE) (evAbs 2) (evOp (dBin .Pow) (evC (.int 10)) (evC (.int 18))))) (evOp (dBin .FloorDiv) (evAbs 2) (evOp (dBin .Pow) (evC (.int 10)) (evC (.int 18))))
def evLumps : Ev := evLc [2] (ivE (evVar 0)) (gvName 2) tvYes (evOp (dBin .Mod) (evAbs 2) (evOp (dBin .Pow) (evC (.int 10)) (evC (.int 18))))
theorem great_go {ns0 : List Int} {g : Slot} {cs : List CellC} : ∀ (ns : List Int) (acc : List DV),
    lcGo [2] (gvName 2) (tvB (evOp (dCmp .GtE) (evAbs 2) (evOp (dBin .Pow) (evC (.int 10)) (evC (.int 18))))) (evOp (dBin .FloorDiv) (evAbs 2) (evOp (dBin .Pow) (evC (.int 10)) (evC (.int 18)))) (ns.map .int) acc ⟨[some (.scr ns0, false), g, none], cs⟩ =
      some (acc ++ (greatL ns).map .int, ⟨[some (.scr ns0, false), g, none], cs⟩)
  | [], acc => by simp [lcGo, greatL]
  | n :: ns, acc => by
    have hp : powOk 10 18 = true := by decide
    by_cases h : (1000000000000000000 : Int) ≤ absI n
    · have ih := great_go (ns0 := ns0) (g := g) (cs := cs) ns (acc ++ [.int (absI n / 10 ^ 18)])
      have e : greatL (n :: ns) = absI n / 10 ^ 18 :: greatL ns := by simp [greatL, h]
      have e2 : acc ++ (absI n / 10 ^ 18 :: greatL ns).map DV.int = acc ++ [.int (absI n / 10 ^ 18)] ++ (greatL ns).map DV.int := by simp
      rw [e, e2, ← ih]
      simp [lcGo, gvName, DS.wipe, wipeSl, tvB, evOp, evAbs, evCall, akCons, akNil, evVar, f1, absD, dCmp, dGe, evC, Out.bind, dBin, dPow, dDiv, hp, DS.back, backSl, DS.eat, h]
    · have ih := great_go (ns0 := ns0) (g := g) (cs := cs) ns acc
      have e : greatL (n :: ns) = greatL ns := by simp [greatL, h]
      rw [e, ← ih]
      simp [lcGo, gvName, DS.wipe, wipeSl, tvB, evOp, evAbs, evCall, akCons, akNil, evVar, f1, absD, dCmp, dGe, evC, Out.bind, dBin, dPow, dDiv, hp, DS.back, backSl, DS.eat, h]
theorem lump_go {ns0 : List Int} {g : Slot} {cs : List CellC} : ∀ (ns : List Int) (acc : List DV),
    lcGo [2] (gvName 2) tvYes (evOp (dBin .Mod) (evAbs 2) (evOp (dBin .Pow) (evC (.int 10)) (evC (.int 18)))) (ns.map .int) acc ⟨[some (.scr ns0, false), g, none], cs⟩ =
      some (acc ++ (lumpL ns).map .int, ⟨[some (.scr ns0, false), g, none], cs⟩)
  | [], acc => by simp [lcGo, lumpL]
  | n :: ns, acc => by
    have hp : powOk 10 18 = true := by decide
    have ih := lump_go (ns0 := ns0) (g := g) (cs := cs) ns (acc ++ [.int (absI n % 10 ^ 18)])
    have e : lumpL (n :: ns) = absI n % 10 ^ 18 :: lumpL ns := by simp [lumpL]
    have e2 : acc ++ (absI n % 10 ^ 18 :: lumpL ns).map DV.int = acc ++ [.int (absI n % 10 ^ 18)] ++ (lumpL ns).map DV.int := by simp
    rw [e, e2, ← ih]
    simp [lcGo, gvName, DS.wipe, wipeSl, tvYes, evOp, evAbs, evCall, akCons, akNil, evVar, f1, absD, evC, Out.bind, dBin, dPow, dMod, hp, DS.back, backSl, DS.eat]
theorem great_run {ns : List Int} {cs : List CellC} (hl : ns.length ≤ sizeLine) (hd : cs.all isDraw = true) : svSet 1 evGreat ⟨[some (.scr ns, false), none, none], cs⟩ = .ok .nx ⟨[some (.scr ns, false), some (.lst ((greatL ns).map .int), true), none], cs⟩ := by
  have h := great_go (ns0 := ns) (g := none) (cs := cs) ns []
  have e : evGreat ⟨[some (.scr ns, false), none, none], cs⟩ = .ok (.lst ((greatL ns).map .int), .new) ⟨[some (.scr ns, false), none, none], cs⟩ := by
    unfold evGreat evLc
    simp [ivE, evVar, Out.bind, itemsD, DS.eat, hl, DS.dropAll, DS.drop, dropSl]
    rw [h]
    simp
  unfold svSet
  rw [e]
  simp [Out.bind, DS.put, isCont, hd]
theorem lump_run {ns : List Int} {g : DV} {cs : List CellC} (hl : ns.length ≤ sizeLine) : evLumps ⟨[some (.scr ns, false), some (g, true), none], cs⟩ = .ok (.lst ((lumpL ns).map .int), .new) ⟨[some (.scr ns, false), some (g, true), none], cs⟩ := by
  have h := lump_go (ns0 := ns) (g := some (g, true)) (cs := cs) ns []
  unfold evLumps evLc
  simp [ivE, evVar, Out.bind, itemsD, DS.eat, hl, DS.dropAll, DS.drop, dropSl]
  rw [h]
  simp
/-- what is to be seen of _law_begun's text -/
structure BegunTxt (X : Cx) (C : RC) (W : WX) (body : List Stmt) : Prop where
  ex : ∃ (s0 : Stmt) (k1 k2 k3 k4 v1 v2 v3 v4 : Expr) (p p' : Pos), body = [s0, .Return (some (.Dict [some k1, some k2, some k3, some k4] [v1, v2, v3, v4] p)) p'] ∧
    (∀ O H0, PSD X ⟨C, O, H0⟩ W s0 (svSet 1 evGreat)) ∧ PE X k1 (tC (.str "digits")) ∧ PE X k2 (tC (.str "great")) ∧ PE X k3 (tC (.str "lumps")) ∧ PE X k4 (tC (.str "turn")) ∧
    PE X v1 (tC (.int 0)) ∧ PE X v2 (tVar 1) ∧ (∀ O H0, PD X ⟨C, O, H0⟩ W v3 evLumps) ∧ PE X v4 (tC (.int 0))
theorem Fun.okBegun {x qual : Str} {st : Stmt} {f : Addr} {fd : FuncData} {k : Nat} {n0 n1 n2 : Str} (F : Fun C.K x qual st f fd) (S : FnScope [n0, n1, n2] [n0] (defScope st))
    (hb : ∀ (cdv : Value) (A : Around) (outer : List Env) (s : Shared) (H : Hp) (E : XK), Room k (A.deeper (envOfC qual (defScope st) s.heap.objs.size f cdv)) → (cxOf (L2.CX P w) P w C.K mg base [n0, n1, n2] qual (defScope st) f cdv A outer s H E).A.guards = some [] →
      BegunTxt (cxOf (L2.CX P w) P w C.K mg base [n0, n1, n2] qual (defScope st) f cdv A outer s H E) C (fun cls d _ H' => E cls d H') (defBody st)) :
    FnG P w C.K mg base (k + 1) f fd [n0] (SpF C F_begun) := by
  obtain ⟨oc, od, kV, doc, pm, an, cdv, ct, osl, rfl, lk, hcd⟩ := F.ex
  refine fnG_of lk hcd S (fun vs H Q E h => ?_) fun A outer s H vs Q E hr hg h => ?_
  · obtain ⟨ρ, cs, ds, O, r, rl, res⟩ := h
    rw [rl.length]
    unfold F_begun at res
    split at res
    · rfl
    · exact res.elim
  obtain ⟨ρ, cs, ds, O, r, rl, res⟩ := h
  unfold F_begun at res
  split at res
  case h_2 => exact res.elim
  rename_i ns
  split at res
  case isFalse => exact res.elim
  rename_i hcond
  obtain ⟨hdr, hlen⟩ := hcond
  obtain ⟨s0, k1, k2, k3, k4, v1, v2, v3, v4, p, p', hbody, h0, hk1, hk2, hk3, hk4, hv1, hv2, hv3, hv4⟩ := (hb cdv A outer s H E hr (by first | exact (deeper_guards _ _).trans hg | exact hg)).ex
  rw [hbody]
  refine ⟨_, pss_cons (h0 O H) (pss_one (ps_ret (pe_disp (pps_cons hk1 hv1 (pps_cons hk2 hv2 (pps_cons hk3 (pdx (C := C) (W := fun cls d _ H' => E cls d H') (f := evLumps) fun B hB => by
    cases B with
    | mk C' O' H' =>
      have hB : C' = C := hB
      subst hB
      exact hv3 O' H') (pps_cons hk4 hv4 pps_nil)))) rfl rfl (by simp) (by simp)))), ?_⟩
  have r0 := Rel.start (N := [n0, n1, n2]) r rl
  have noOwn : ∀ i a, ¬ ownAt ⟨startSl 3 [.scr ns], cs⟩ (L2.start [n0, n1, n2] vs) i a := fun i a ⟨d, h, _⟩ => startSl_own h
  have est : startSl 3 [DV.scr ns] = [some (.scr ns, false), none, none] := rfl
  refine ⟨ρ, ⟨startSl 3 [.scr ns], cs⟩, r0, ?_⟩
  rw [est, great_run hlen hdr]
  intro σ1 ρ1 H1 s1
  intro q hq
  -- the dict stands empty
  have r1 := s1.rel
  have npO : ¬ O q := fun z => r1.odom q z hq
  have npC : ¬ CM ρ1 q := fun z => r1.cdom q z hq
  have rh := Rel.holdA (o := .dK []) r1 hq
  have sa := Step.alloc (o := .dK []) r1 hq
  obtain ⟨g, eg, cg, ng1, ng2, ng3⟩ := rh.own 1 _ rfl
  refine ⟨_, eg, ?_⟩
  refine ⟨⟨C, fun a => O a ∨ a = q, H⟩, rfl, ρ1, _, rh, ?_⟩
  have hl := lump_run (ns := ns) (g := .lst ((greatL ns).map .int)) (cs := cs) hlen
  rw [hl]
  intro ρ2 H2 s2 v rv fv
  obtain ⟨l, rfl⟩ := Rep.ref_of_cont (by rfl) rv.1
  have hnl : upd H1 q (.dK []) l = none := fv l rfl
  have hlq : l ≠ q := fun e => by subst e; rw [upd_same] at hnl; cases hnl
  have cl := rv.2 l rfl rfl
  -- the pair "turn", then the dict
  have nq2 : ¬ CM ρ2 q := fun z => (s2.cm q z).elim npC fun e => by rw [upd_same] at e; cases e
  have eq2 : H2 q = some (.dK []) := s2.fr q _ upd_same npC trivial
  refine ⟨eq2, [(kDigits, .int 0), (kGreat, .ref g), (kLumps, .ref l), (kTurn, .int 0)], rfl, by show 4 ≤ 15; decide, ?_⟩
  have em : mergeK [] [(kDigits, V.int 0), (kGreat, V.ref g), (kLumps, V.ref l), (kTurn, V.int 0)] = [(kDigits, .int 0), (kGreat, .ref g), (kLumps, .ref l), (kTurn, .int 0)] := rfl
  rw [em]
  have hB : (⟨C, fun a => O a ∨ a = q, H⟩ : BC) = (⟨C, O, H⟩ : BC).hold q := rfl
  have s2' : Step ((⟨C, O, H⟩ : BC).hold q) σ1 ρ1 _ (upd H1 q (.dK [])) ρ2 _ H2 := s2
  have rw7 := Rel.writeHeld (o := .dK [(kDigits, .int 0), (kGreat, .ref g), (kLumps, .ref l), (kTurn, .int 0)]) s2'.rel nq2 (fun u e => by rw [eq2] at e; cases e; trivial)
  generalize hH3 : upd H2 q (.dK [(kDigits, .int 0), (kGreat, .ref g), (kLumps, .ref l), (kTurn, .int 0)]) = H3 at rw7 ⊢
  -- what is where
  have hgq : g ≠ q := fun e => ng2 (.inr e)
  obtain ⟨xs, eg2, rg2⟩ := (cg : ∃ xs, upd H1 q (.dK []) g = some (.lst xs) ∧ _)
  have hxs := ints_rep rg2
  subst hxs
  have eg3 : H2 g = some (.lst ((greatL ns).map V.int)) := s2.fr g _ eg2 ng1 trivial
  obtain ⟨ys, el2, rl2⟩ := (cl : ∃ xs, H2 l = some (.lst xs) ∧ _)
  have hys := ints_rep rl2
  subst hys
  have hgl : g ≠ l := fun e => by subst e; rw [hnl] at eg2; cases eg2
  have ng3' : ¬ CM ρ2 g := fun z => (s2.cm g z).elim ng1 fun e => by rw [eg2] at e; cases e
  have nl2 : ¬ CM ρ2 l := nomatchCM (B := ⟨C, fun a => O a ∨ a = q, H⟩) rv.1 rfl
  have draw : DrawAt H3 ⟨q, [g, l]⟩ (begunD ns) := by
    refine ⟨g, l, rfl, Ne.symm hgq, Ne.symm hlq, hgl, ?_, ?_, ?_⟩
    · rw [← hH3, upd_same]; rfl
    · rw [← hH3, upd_ne hgq]; exact eg3
    · rw [← hH3, upd_ne hlq]; exact el2
  -- fresh at the entry
  have fq : H q = none := none_of_dm s1.dm hq
  have fl : H l = none := none_of_dm s1.dm (none_of_dm sa.dm hnl)
  have sF : SStep ⟨C, O, H⟩ (L2.start [n0, n1, n2] vs) ρ ⟨startSl 3 [.scr ns], cs⟩ H σ1 ρ2 ⟨[some (.scr ns, false), some (.lst ((greatL ns).map .int), true), none], cs⟩ H3 := by
    have sx : SStep ⟨C, O, H⟩ σ1 ρ1 ⟨[some (.scr ns, false), some (.lst ((greatL ns).map .int), true), none], cs⟩ H1 σ1 ρ2 ⟨[some (.scr ns, false), some (.lst ((greatL ns).map .int), true), none], cs⟩ H2 := SStep.of (Step.unhold sa s2')
    have sy := s1.trans sx
    refine ⟨sy.pre, rw7.unhold, fun a o e n no => ?_, sy.av, sy.cm, fun a z => ?_⟩
    · rw [← hH3, upd_ne (fun z => by subst z; rw [fq] at e; cases e)]
      exact sy.fr a o e n no
    · by_cases h : a = q
      · subst h; exact absurd fq z
      · rw [← hH3, upd_ne h]; exact sy.dm a z
  have sd := Step.done noOwn sF
  have sN := Step.newCell (c := ⟨q, [g, l]⟩) sd draw hdr fun a z => by
    rcases z with rfl | z
    · exact ⟨fq, nq2⟩
    · rcases List.mem_cons.mp z with rfl | z
      · exact ⟨ng3, ng3'⟩
      · rcases List.mem_cons.mp z with rfl | z
        · exact ⟨fl, nl2⟩
        · cases z
  have hlen2 : ρ2.length = cs.length := sd.rel.cel.len
  refine (res _ H3 sN).2 (.ref q) (.cel (c := ⟨q, [g, l]⟩) ?_) (fun e => nomatch e) trivial
  show (ρ2 ++ [_])[cs.length]? = _
  rw [← hlen2, List.getElem?_append_right (Nat.le_refl _)]
  simp
end
end D

/-! D: a draw's next number. -/
namespace D
open PySem L2 PyProof.Rows

/-- _law_next; slots: draw, many, found, turn, lump, mixed -/
def svNextW : Sv := svWhile (tvAnd (tvB (evOp (dCmp .Eq) (evCI 0 .digits) (evC (.int 0)))) (tvNE 0 .great)) (svPop0 0) 100
def svNextI : Sv := svIf (tvB (evOp (dCmp .Gt) (evCI 0 .digits) (evC (.int 0)))) (svSeq (svSet 2 (evOp (dBin .Mod) (evCI 0 .digits) (evVar 1))) (svSeq (svCSet 0 .digits (evOp (dBin .FloorDiv) (evCI 0 .digits) (evVar 1))) (svRet (evVar 2)))) svNx
def svTail : Sv := svSeq (svSet 5 (evOp (dBin .Mod) (evOp (dBin .Pow) (evOp (dBin .Add) (evOp (dBin .Mod) (evVar 4) (evC (.int 2147483629))) (evOp (dBin .Mult) (evC (.int 40009)) (evVar 3))) (evC (.int 3))) (evC (.int 2147483647))))
    (svRet (evOp (dBin .Mod) (evOp (dBin .FloorDiv) (evOp (dBin .Mod) (evOp (dBin .Pow) (evOp (dBin .Add) (evVar 5) (evOp (dBin .Mult) (evC (.int 104729)) (evVar 3))) (evC (.int 5))) (evC (.int 2147483629))) (evC (.int 11))) (evVar 1)))
def svNextT : Sv := svSeq (svCAug 0 .turn (evC (.int 1))) (svSeq (svSet 3 (evCI 0 .turn)) (svSeq (svSet 4 (evC (.int 0))) (svSeq (svIf (tvNE 0 .lumps) (svSet 4 (evCIx 0 .lumps (evOp (dBin .Mod) (evVar 3) (evCLen 0 .lumps)))) svNx)
  svTail)))
def svNext : Sv := svSeq svNextW (svSeq svNextI svNextT)
def F_next : Fn := fnSv 6 2 svNext

structure DrawOk (d : DrawSt) (n : Nat) : Prop where
  dg : 0 ≤ d.digits
  gr : ∀ z ∈ d.great, 0 ≤ z
  gl : d.great.length < 100
  lu : ∀ z ∈ d.lumps, 0 ≤ z ∧ z < 10 ^ 18
  tn : 0 ≤ d.turn
  tb : d.turn + n ≤ 2 ^ 40
theorem DrawOk.mono {d : DrawSt} {n m : Nat} (h : DrawOk d n) (hm : m ≤ n) : DrawOk d m := ⟨h.dg, h.gr, h.gl, h.lu, h.tn, by have := h.tb; omega⟩
theorem begun_ok {ns : List Int} (h : ns.length ≤ 63) : DrawOk (begunD ns) (2 ^ 40) := by
  refine ⟨Int.le_refl _, fun z hz => ?_, ?_, fun z hz => ?_, Int.le_refl _, by simp [begunD]⟩
  · simp only [begunD, greatL, List.mem_map, List.mem_filter] at hz
    obtain ⟨y, ⟨_, hy⟩, rfl⟩ := hz
    have := of_decide_eq_true hy
    exact Int.ediv_nonneg (Int.le_trans (by decide) this) (by decide)
  · simp only [begunD, greatL, List.length_map]
    exact Nat.lt_of_le_of_lt (List.length_filter_le _ _) (by omega)
  · simp only [begunD, lumpL, List.mem_map] at hz
    obtain ⟨y, _, rfl⟩ := hz
    exact ⟨Int.emod_nonneg _ (by decide), Int.emod_lt_of_pos _ (by decide)⟩
section
variable {d : DrawSt} {k n : Nat} {cs : List CellC} {many : Int}
theorem drawAt_mk {s1 s2 s3 s4 s5 : Slot} (hk : cs[k]? = some (.draw d)) : drawAt ⟨[some (.cel k, false), s1, s2, s3, s4, s5], cs⟩ 0 = some (k, d) := by
  simp [drawAt, hk]
theorem set_set (cs : List CellC) (k : Nat) (a b : CellC) : (cs.set k a).set k b = cs.set k b := by simp
theorem set_same {cs : List CellC} {k : Nat} {a : CellC} (h : cs[k]? = some a) : cs.set k a = cs := by
  refine List.ext_getElem? fun i => ?_
  by_cases hi : k = i
  · subst hi
    rw [List.getElem?_set_self (List.getElem?_eq_some_iff.mp h).1, h]
  · rw [List.getElem?_set_ne hi]
theorem get_set {cs : List CellC} {k : Nat} {a b : CellC} (h : cs[k]? = some a) : (cs.set k b)[k]? = some b := List.getElem?_set_self (List.getElem?_eq_some_iff.mp h).1
/-- the while -/
theorem nextW_run : ∀ (fuel : Nat) (d : DrawSt) (cs : List CellC) (sl : List Slot), cs[k]? = some (.draw d) → sl[0]? = some (some (.cel k, false)) → d.great.length < fuel → 0 ≤ d.digits → (∀ z ∈ d.great, 0 ≤ z) →
    ∃ d', svWhile (tvAnd (tvB (evOp (dCmp .Eq) (evCI 0 .digits) (evC (.int 0)))) (tvNE 0 .great)) (svPop0 0) fuel ⟨sl, cs⟩ = .ok .nx ⟨sl, cs.set k (.draw d')⟩ ∧ 0 ≤ d'.digits ∧ (∀ z ∈ d'.great, 0 ≤ z) ∧ d'.great.length ≤ d.great.length ∧ d'.lumps = d.lumps ∧ d'.turn = d.turn
  | 0, d, cs, sl, _, _, h, _, _ => absurd h (Nat.not_lt_zero _)
  | fuel + 1, d, cs, sl, hk, hs, h, h0, hg => by
    have hda : drawAt ⟨sl, cs⟩ 0 = some (k, d) := by simp [drawAt, hs, hk]
    by_cases hz : d.digits = 0
    · cases hgr : d.great with
      | nil =>
        refine ⟨d, ?_, h0, hg, by rw [hgr]; exact Nat.le_refl _, rfl, rfl⟩
        simp [svWhile, tvAnd, tvB, evOp, evCI, hda, dCmp, dEq, eqD, evC, Out.bind, tvNE, CK.get, CL.get, hz, hgr, set_same hk]
      | cons g r =>
        have hk' : (cs.set k (.draw { d with great := r, digits := g }))[k]? = some (.draw { d with great := r, digits := g }) := get_set hk
        obtain ⟨d', e, h1, h2, h3, h4, h5⟩ := nextW_run fuel { d with great := r, digits := g } _ sl hk' hs (by rw [hgr] at h; simpa using h) (hg g (by rw [hgr]; simp)) (fun z hz => hg z (by rw [hgr]; simp [hz]))
        refine ⟨d', ?_, h1, h2, by rw [List.length_cons]; exact Nat.le_succ_of_le h3, h4, h5⟩
        simp [svWhile, tvAnd, tvB, evOp, evCI, hda, dCmp, dEq, eqD, evC, Out.bind, tvNE, CK.get, CL.get, hz, hgr, svPop0]
        exact e.trans (by rw [set_set])
    · refine ⟨d, ?_, h0, hg, Nat.le_refl _, rfl, rfl⟩
      simp [svWhile, tvAnd, tvB, evOp, evCI, hda, dCmp, dEq, eqD, evC, Out.bind, CK.get, hz, set_same hk]
theorem pow_ok {i j : Int} (h0 : 0 ≤ i) (h : i < 2 ^ 64) (j0 : 0 ≤ j) (j1 : j ≤ 1000000) : powOk i j = true := by
  unfold powOk
  rw [Bool.and_eq_true, Bool.and_eq_true]
  exact ⟨⟨decide_eq_true j0, decide_eq_true j1⟩, decide_eq_true (by omega)⟩
theorem atI_pos {xs : List Int} {j : Int} (h0 : 0 ≤ j) (h1 : j < xs.length) : ∃ n, atI xs j = some n ∧ n ∈ xs := by
  have hj : j.toNat < xs.length := by omega
  refine ⟨xs[j.toNat], ?_, List.getElem_mem hj⟩
  have := atI_nat (xs := xs) (j := j.toNat) (List.getElem?_eq_getElem hj)
  rw [Int.toNat_of_nonneg h0] at this
  exact this
/-- the last part: a mixed turn -/
theorem tail_run {s0 s2 : Slot} {tu lump : Int} (hl : 0 ≤ lump) (h0 : 0 ≤ tu) (h1 : tu ≤ 2 ^ 40) (hm : 0 < many) : ∃ r s5, svTail ⟨[s0, some (.int many, false), s2, some (.int tu, false), some (.int lump, false), none], cs⟩ =
    .ok (.rt (.int r) .new) ⟨[s0, some (.int many, false), s2, some (.int tu, false), some (.int lump, false), s5], cs⟩ ∧ 0 ≤ r ∧ r < many := by
  have e1 : 0 ≤ lump % 2147483629 := Int.emod_nonneg _ (by decide)
  have e2 : lump % 2147483629 < 2147483629 := Int.emod_lt_of_pos _ (by decide)
  have p1 : powOk (lump % 2147483629 + 40009 * tu) 3 = true := pow_ok (by omega) (by omega) (by decide) (by decide)
  generalize hmx : (lump % 2147483629 + 40009 * tu) ^ 3 % 2147483647 = mx
  have e3 : 0 ≤ mx := by rw [← hmx]; exact Int.emod_nonneg _ (by decide)
  have e4 : mx < 2147483647 := by rw [← hmx]; exact Int.emod_lt_of_pos _ (by decide)
  have p2 : powOk (mx + 104729 * tu) 5 = true := pow_ok (by omega) (by omega) (by decide) (by decide)
  refine ⟨(mx + 104729 * tu) ^ 5 % 2147483629 / 11 % many, some (.int mx, false), ?_, Int.emod_nonneg _ (by omega), Int.emod_lt_of_pos _ hm⟩
  have f1 : fits64 40009 = true := by decide
  have f2 : fits64 104729 = true := by decide
  have t3 : (3 : Int).toNat = 3 := rfl
  have t5 : (5 : Int).toNat = 5 := rfl
  simp [svTail, svSeq, svSet, svRet, evOp, evVar, evC, Out.bind, dBin, dMod, dPow, dAdd, dMul, dDiv, p1, p2, f1, f2, hm, hmx, DS.put, isCont, t3, t5]
theorem nextT_run (ok : DrawOk d (n + 1)) (hk : cs[k]? = some (.draw d)) (hm : 0 < many) : ∃ r s3 s4 s5, svNextT ⟨[some (.cel k, false), some (.int many, false), none, none, none, none], cs⟩ =
    .ok (.rt (.int r) .new) ⟨[some (.cel k, false), some (.int many, false), none, s3, s4, s5], cs.set k (.draw { d with turn := d.turn + 1 })⟩ ∧ 0 ≤ r ∧ r < many := by
  have tn := ok.tn
  have tb := ok.tb
  have lu := ok.lu
  obtain ⟨dg, gr, ls, tu⟩ := d
  dsimp only at tn tb lu
  have hk2 : (cs.set k (.draw ⟨dg, gr, ls, tu + 1⟩))[k]? = some (.draw ⟨dg, gr, ls, tu + 1⟩) := get_set hk
  have hda : drawAt ⟨[some (.cel k, false), some (.int many, false), none, none, none, none], cs⟩ 0 = some (k, ⟨dg, gr, ls, tu⟩) := drawAt_mk hk
  have hda2 : ∀ s3 s4, drawAt ⟨[some (.cel k, false), some (.int many, false), none, s3, s4, none], cs.set k (.draw ⟨dg, gr, ls, tu + 1⟩)⟩ 0 = some (k, ⟨dg, gr, ls, tu + 1⟩) := fun s3 s4 => drawAt_mk hk2
  cases ls with
  | nil =>
    obtain ⟨r, s5, e, r0, r1⟩ := tail_run (cs := cs.set k (.draw ⟨dg, gr, [], tu + 1⟩)) (s0 := some (.cel k, false)) (s2 := none) (tu := tu + 1) (lump := 0) (by decide) (by omega) (by omega) hm
    refine ⟨r, some (.int (tu + 1), false), some (.int 0, false), s5, ?_, r0, r1⟩
    rw [← e]
    simp [svNextT, svSeq, svCAug, hda, evC, Out.bind, svSet, evCI, hda2, DS.put, isCont, CK.get, CK.put, svIf, tvNE, CL.get, svNx]
  | cons x xs =>
    have hl0 : (0 : Int) < ((x :: xs).length : Nat) := by rw [List.length_cons]; omega
    have a0 : 0 ≤ (tu + 1) % ((x :: xs).length : Nat) := Int.emod_nonneg _ (by omega)
    have a1 : (tu + 1) % ((x :: xs).length : Nat) < ((x :: xs).length : Nat) := Int.emod_lt_of_pos _ hl0
    obtain ⟨z, hz, hzm⟩ := atI_pos a0 a1
    obtain ⟨r, s5, e, r0, r1⟩ := tail_run (cs := cs.set k (.draw ⟨dg, gr, x :: xs, tu + 1⟩)) (s0 := some (.cel k, false)) (s2 := none) (tu := tu + 1) (lump := z) (lu z hzm).1 (by omega) (by omega) hm
    refine ⟨r, some (.int (tu + 1), false), some (.int z, false), s5, ?_, r0, r1⟩
    rw [← e]
    generalize hxs : x :: xs = ls at *
    have hne : ls.isEmpty = false := by rw [← hxs]; rfl
    have hln : 0 < ls.length := by omega
    simp [svNextT, svSeq, svCAug, hda, evC, Out.bind, svSet, evCI, hda2, DS.put, isCont, CK.get, CK.put, svIf, tvNE, CL.get, svNx, hne, evCIx, evOp, evVar, evCLen, dBin, dMod, hln, hz]
/-- _law_next draws from 0 to many - 1 -/
theorem next_run (ok : DrawOk d (n + 1)) (hk : cs[k]? = some (.draw d)) (hm : 0 < many) (hm2 : many < 2 ^ 64) : ∃ r d' kd, F_next [.cel k, .int many] ⟨[], cs⟩ = .ok (.int r, kd) ⟨[], cs.set k (.draw d')⟩ ∧ 0 ≤ r ∧ r < many ∧ DrawOk d' n := by
  obtain ⟨d1, e1, g1, g2, g3, g4, g5⟩ := nextW_run (k := k) 100 d cs [some (.cel k, false), some (.int many, false), none, none, none, none] hk rfl ok.gl ok.dg ok.gr
  have hk1 : (cs.set k (.draw d1))[k]? = some (.draw d1) := get_set hk
  have ok1 : DrawOk d1 (n + 1) := ⟨g1, g2, Nat.lt_of_le_of_lt g3 ok.gl, by rw [g4]; exact ok.lu, by rw [g5]; exact ok.tn, by rw [g5]; exact ok.tb⟩
  have hda : drawAt ⟨[some (.cel k, false), some (.int many, false), none, none, none, none], cs.set k (.draw d1)⟩ 0 = some (k, d1) := drawAt_mk hk1
  have e1' : svNextW ⟨[some (.cel k, false), some (.int many, false), none, none, none, none], cs⟩ = .ok .nx ⟨[some (.cel k, false), some (.int many, false), none, none, none, none], cs.set k (.draw d1)⟩ := e1
  by_cases hp : 0 < d1.digits
  · refine ⟨d1.digits % many, { d1 with digits := d1.digits / many }, .fro, ?_, Int.emod_nonneg _ (by omega), Int.emod_lt_of_pos _ hm, ⟨Int.ediv_nonneg g1 (by omega), g2, ok1.gl, ok1.lu, ok1.tn, by have := ok1.tb; dsimp only; omega⟩⟩
    have hda2 : ∀ s2, drawAt ⟨[some (.cel k, false), some (.int many, false), s2, none, none, none], cs.set k (.draw d1)⟩ 0 = some (k, d1) := fun s2 => drawAt_mk hk1
    have hm2' : many < 18446744073709551616 := hm2
    simp [F_next, fnSv, startSl, svNext, svSeq, Out.bind, e1', svNextI, svIf, tvB, evOp, evCI, hda, hda2, dCmp, dGt, evC, hp, svSet, dBin, dMod, dDiv, evVar, hm, hm2', svCSet, DS.put, isCont, svRet, outRet, CK.get, CK.put]
  · obtain ⟨r, s3, s4, s5, e2, r0, r1⟩ := nextT_run ok1 hk1 hm
    refine ⟨r, { d1 with turn := d1.turn + 1 }, .new, ?_, r0, r1, ⟨g1, g2, ok1.gl, ok1.lu, by have := ok1.tn; dsimp only; omega, by have := ok1.tb; dsimp only; omega⟩⟩
    simp [F_next, fnSv, startSl, svNext, svSeq, Out.bind, e1', svNextI, svIf, tvB, evOp, evCI, hda, dCmp, dGt, evC, hp, svNx, e2, outRet, CK.get]
end
end D

/-! D: loops and calls, told as plain laws. -/
namespace D
open PySem L2 PyProof.Rows

section
variable {vs : List Nat} {g : Gv} {tt : Tv} {fe : Ev}
end
end D

/-! E: a caught exception becomes a value: try: .. except X as e: y = e. -/
namespace D
open PySem L2 PyProof.Rows
section
variable {X : Cx} {pins : List (Addr × Obj)} {σ : L2.St} {H : Hp} {s : Shared} {a : Addr} {oe : Obj}
/-- behind the suite the exception is still known, as a pin -/
theorem pin_stays (S : L2.Inv (X.suite a ((a, oe) :: (X.pn ++ pins))) [] σ H s) (ok : X.Ok) : L2.Inv X ((a, oe) :: pins) σ H s where
  ok := ok
  os := S.os
  bare := S.bare
  base := S.base
  loc := S.loc
  cell := S.cell
  free := S.free
  freeC := S.freeC
  pin := fun p hp => S.pin p (by
    rw [List.append_nil]
    rcases List.mem_append.mp hp with h | h
    · exact List.mem_cons_of_mem _ (List.mem_append_left _ h)
    · rcases List.mem_cons.mp h with rfl | h
      · exact List.mem_cons_self
      · exact List.mem_cons_of_mem _ (List.mem_append_right _ h))
  hok := S.hok
  len := S.len
/-- a pin becomes a tracked thing -/
theorem pin_tracked {o : HO} (I : L2.Inv X ((a, oe) :: pins) σ H s) (n0 : X.s_0.heap.get? a = none) (np : ∀ p ∈ X.pn ++ pins, p.1 ≠ a) (new : ObjOk X.prog X.w (upd H a o) s.heap a o) : L2.Inv X pins σ (upd H a o) s := by
  have me : (a, oe) ∈ X.pn ++ ((a, oe) :: pins) := List.mem_append_right _ List.mem_cons_self
  obtain ⟨ha, na, nL, nF, nC⟩ := I.pin _ me
  have neN : ∀ b, b ≠ a → upd H a o b = H b := fun b h => upd_ne h
  have ne0 : ∀ b u, X.s_0.heap.get? b = some u → b ≠ a := fun b u e z => by rw [z, n0] at e; cases e
  have neH : ∀ b u, H b = some u → b ≠ a := fun b u e => ne_of_none e na
  exact {
    ok := I.ok
    os := I.os
    bare := I.bare
    base := { keep := I.base.keep, slot := I.base.slot, there := I.base.there
              free := fun b u e n q => (neN b (ne0 b u e)).trans (I.base.free b u e n q)
              tups := fun b xs e => (neN b (neH b _ (I.base.tups b xs e))).trans (I.base.tups b xs e)
              frzs := fun b u xs e => (neN b (neH b _ (I.base.frzs b u xs e))).trans (I.base.frzs b u xs e)
              tbls := fun b ps e => by
                obtain ⟨m, z⟩ := I.base.tbls b ps e
                exact ⟨m, (neN b (neH b _ z)).trans z⟩ }
    loc := I.loc
    cell := I.cell
    free := (neN _ (Ne.symm nL)).trans I.free
    freeC := fun x c e => by
      obtain ⟨v, u, hu, hd⟩ := I.cell x c e
      refine (neN c fun z => ?_).trans (I.freeC x c e)
      rw [z, ha] at hu
      cases hu
      exact nC _ hd
    pin := fun p hp => by
      obtain ⟨q1, q2, q3⟩ := I.pin p (by
        rcases List.mem_append.mp hp with h | h
        · exact List.mem_append_left _ h
        · exact List.mem_append_right _ (List.mem_cons_of_mem _ h))
      exact ⟨q1, (neN p.1 (np p hp)).trans q2, q3⟩
    hok := I.hok.laidN (fun _ _ e => e) na new
    len := I.len }
theorem xo_ok {P : Program} {w : World} {H : Hp} {h : Heap} {cls : Value} {d : Option Addr} {vs : Array Value} (e : h.get? a = some oe) (z : Zc cls d oe) (hd : oe.data = .fields vs) : ObjOk P w H h a (XO cls d a) :=
  ⟨⟨oe, vs, e, z, hd⟩, ⟨oe, e⟩, fun h1 h2 ⟨o, us, q, r⟩ k => ⟨o, us, k o q, r⟩⟩
end
/-- what 'except x as n: y = n' wishes of an exception of the body: i is n's slot, j is y's -/
def wKeep (K : PySem.W.Frag) (c : Value) (i j : Nat) (Wout : WX) (D : Ends) : WX := fun cls d σ H =>
  ∃ b, PySem.W.exmOne K cls c = some b ∧ (b = true → ∀ a, H a = none → D.nx (((σ.set i (some (.ref a))).set j (some (.ref a))).set i none) (upd H a (XO cls d a))) ∧ (b = false → Wout cls d σ H)
section
variable {X : Cx} {x n y : Str} {c : Value} {i j : Nat} {body : List Stmt} {np pos pos' p1 p2 p3 : Pos} {tb : WX → TS} {Wout : WX}
theorem ps_try_keep (hx : X.ex = []) (hs : X.stack = X.env :: X.outer) (hf : X.env.frame = some X.env.locals) (hN : X.N.Nodup) (hi : X.N[i]? = some n) (hj : X.N[j]? = some y) (hln : X.env.kindOf n = some .local) (hly : X.env.kindOf y = some .local) (hc : Names X x c) (tk : Takes X Wout)
    (hb : ∀ (W : WX) (pn : List (Addr × Obj)) (xe : Value → Shared → Prop), Takes (X.tr pn xe) W → PassesOwn (model X.prog X.w) X.A X.env xe → PSs (X.tr pn xe) body (tb W))
    (hsw : ∀ a pn, swapsWith (.Name n p1) (some (.Name y p2)) p3.line (X.suite a pn).env = pure false) (hdn : (n == ("__debug__" : Str)) = false) (hcn : (n == ("__classdict__" : Str)) = false) :
    PS X (.Try body [.ExceptHandler (some (.Name x np)) (some n) [.Assign [.Name y p2] (.Name n p1) p3] pos'] [] [] pos) (fun D σ H => tb (wKeep X.K c i j Wout D) D σ H) := by
  refine ⟨fun pins s σ H D I h => ?_⟩
  have ok := I.ok
  have fr1 : X.A.frames = some (X.env :: X.outer) := by rw [ok.frames, hs]
  have hiN : i < X.N.length := (List.getElem?_eq_some_iff.mp hi).1
  refine wpAny_Try_except ?_
  refine wpAny_mono ((hb (wKeep X.K c i j Wout D) (X.pn ++ pins) _ (fun u s' xx => ?_) PassesOwn.looking).run [] s σ H D (I.toTry _) h) (fun f s1 hsp => ?_) (fun e s1 he => he)
  · obtain ⟨a, B, sI, pins', σ', H', cls, d, rfl, J0, nb, up, sky, na, os, ag, b, hb1, hyes, hno⟩ := xx
    have J : L2.Inv X pins σ' H' sI := J0.ofTry ok
    rw [show (X.tr (X.pn ++ pins) _).stack = X.env :: X.outer from hs] at sky
    show wpAny (model X.prog X.w) X.A (noteFrame (.ref a) X.env) _ _ _
    refine Sky.land Zc.steady fr1 hf sky fun h3 fl3 up3 => ?_
    have nB : B.get? a = none := fl3.2.1
    obtain ⟨oe3, vs3, he3, hz3, hd3⟩ := fl3.there
    have J3 : L2.Inv X pins σ' H' { s' with heap := h3 } := J.landed nb fl3.1 (up.trans up3) os ag
    -- the exception is none of the frames, nor anything that was there ahead of it
    have nfr : a ∉ frs (X.env :: X.outer) := fun hm => by
      obtain ⟨_, o', e', hnf⟩ := fl3.2.2.1.mem hm
      rw [he3] at e'; cases e'
      exact hnf _ hd3
    have nI : sI.heap.get? a = none := by
      cases q : sI.heap.get? a with
      | none => rfl
      | some o =>
        rw [nb a o q (by show a ∉ frs X.stack; rw [hs]; exact nfr)] at nB
        cases nB
    have nL : a ≠ X.env.locals := fun z => nfr (List.mem_filterMap.mpr ⟨X.env, List.mem_cons_self, by rw [hf, z]⟩)
    have nF : a ∉ X.fs := fun hm => by
      obtain ⟨e, he, q⟩ := List.mem_filterMap.mp hm
      exact nfr (List.mem_filterMap.mpr ⟨e, List.mem_cons_of_mem _ he, q⟩)
    have n0 : X.s_0.heap.get? a = none := by
      cases q : X.s_0.heap.get? a with
      | none => rfl
      | some o =>
        obtain ⟨o', e'⟩ := J.base.there a o q (by rw [hx]; exact fun z => nomatch z)
        rw [nI] at e'; cases e'
    have npins : ∀ p ∈ X.pn ++ pins, p.1 ≠ a := fun p hp z => by
      have e := (J.pin p hp).1
      rw [z, nI] at e; cases e
    refine wpAny_handleBy_cons (codeAny_handlers_test ?_) (by intro q; cases q)
    have LM := PySem.W.exm_one (M := model X.prog X.w) J3.kIn (fun A Q E s k q => wpAny_typeOf_ref (k _ _ he3) (by rw [hz3.1]; exact q) : PySem.W.Looks (model X.prog X.w) h3 (typeOf (.ref a)) cls) hb1
    have S3 := J3.suite he3 hd3 na nL nF
    have named : ∀ {Q : Value → Shared → Prop} {E : Value → Shared → Prop}, Q c { s' with heap := h3 } → wpAny (model X.prog X.w) (X.A.mark (some (.ref a))) (eval (.Name x np) X.env) Q E { s' with heap := h3 } := fun {Q E} q => by
      obtain ⟨hg, hdbg, hm | ⟨hm, hv, hnn⟩⟩ := hc
      · exact ld_glob S3 hg hm q hdbg
      · exact ld_blt S3 hg hm hv q hnn hdbg
    refine named (LM.here ?_)
    cases b with
    | true =>
      refine codeAny_handlers_suite_as (HandSPX.lands_againZ fl3 fun h4 fl4 up4 => ?_)
      have J4 : L2.Inv X pins σ' H' { s' with heap := h4 } := J.landed nb fl4.1 ((up.trans up3).trans up4) os ag
      obtain ⟨oe4, vs4, he4, hz4, hd4⟩ := fl4.there
      refine store_ok (X := X.suite a ((a, oe4) :: (X.pn ++ pins))) (v := .ref a) (J4.suite he4 hd4 na nL nF) hN hi (.inl hln) rfl (fun s5 S5 => ?_) (.inr hln)
      have suite : PSs (X.suite a ((a, oe4) :: (X.pn ++ pins))) [.Assign [.Name y p2] (.Name n p1) p3] _ := pss_one (ps_set (i := j) hN hj (.inl hly) (pe_var (X := X.suite a ((a, oe4) :: (X.pn ++ pins))) hi (.inl hln) hdn hcn) (hsw a _) (.inr hly))
      have hσ : i < σ'.length := by rw [J4.len]; exact hiN
      refine wpAny_mono (suite.run [] s5 _ H' { nx := fun σ6 H6 => σ6 = (σ'.set i (some (.ref a))).set j (some (.ref a)) ∧ H6 = H', rt := fun _ _ => False } S5 ⟨.ref a, List.getElem?_set_self hσ, rfl, rfl⟩) (fun f s6 hsp => ?_) (fun _ _ z => False.elim z)
      match f, hsp with
      | .next, ⟨σ6, H6, S6, e6, e6'⟩ =>
        subst e6 e6'
        refine gone_ok (pin_stays S6 ok) hN hi hln fun s7 J7 => ?_
        have e7 := (J7.pin (a, oe4) (List.mem_append_right _ List.mem_cons_self)).1
        exact ⟨_, _, pin_tracked J7 n0 npins (xo_ok e7 hz4 hd4), hyes rfl a na⟩
      | .brk, ⟨_, _, _, z⟩ => exact z.elim
      | .cont, ⟨_, _, _, z⟩ => exact z.elim
      | .ret u, ⟨_, _, _, _, _, z⟩ => exact z.elim
    | false =>
      refine wpAny_handleBy_nil ?_
      obtain ⟨k1, k2, k3, oe, vs, T, oT, ts', he, hz, hd, h1, hr⟩ := id fl3
      unfold PySem.passOn
      refine wpAny_bind (wpAny_field he hd h1 ?_)
      rw [if_neg (show ¬ ((Value.ref T == Value.none) = true) from by simp)]
      have fin : wpAny (model X.prog X.w) X.A (setFlight (.ref a) X.env.frame) (fun _ s4 => wpAny (model X.prog X.w) X.A (throw (.ref a) : Sem Flow) (SP X pins D) X.xe s4) X.xe { s' with heap := h3 } := by
        rw [hf]
        exact HandSPX.setFlight_upZ fl3 fun h4 hh4 up4 => wpAny_throw (tk _ _ ⟨a, B, sI, pins, σ', H', cls, d, rfl, J, nb, (up.trans up3).trans up4, .inr (.inr (by rw [hs]; exact hh4)), na, os, ag, hno rfl⟩)
      first
        | exact wpAny_bind (wpAny_pure (wpAny_bind fin))
        | exact wpAny_bind fin
  · match f, hsp with
    | .next, ⟨σ', H', J', q⟩ => exact wpAny_execs_nil ⟨σ', H', J'.ofTry ok, q⟩
    | .brk, ⟨σ', H', J', q⟩ => exact ⟨σ', H', J'.ofTry ok, q⟩
    | .cont, ⟨σ', H', J', q⟩ => exact ⟨σ', H', J'.ofTry ok, q⟩
    | .ret u, ⟨v, σ', H', J', r, q⟩ => exact ⟨v, σ', H', J'.ofTry ok, r, q⟩
end
end D

/-! E: try: .. except X as e: y = e on deep values. -/
namespace D
open PySem L2 PyProof.Rows
section
variable {X : Cx} {B : BC} {W : WX} {σ : L2.St} {ρ : List CellA} {st : DS} {H : Hp}
theorem clear_own {i j : Nat} {p : Addr} (h : ownAt ⟨st.sl.set i none, st.cs⟩ (σ.set i none) j p) : ownAt st σ j p ∧ j ≠ i := by
  obtain ⟨e, h1, h2⟩ := h
  by_cases hj : j = i
  · subst hj
    dsimp only at h1
    by_cases hl : j < st.sl.length
    · rw [List.getElem?_set_self hl] at h1; cases h1
    · rw [List.getElem?_eq_none (by rw [List.length_set]; omega)] at h1; cases h1
  · dsimp only at h1
    rw [List.getElem?_set_ne (Ne.symm hj)] at h1 h2
    exact ⟨⟨e, h1, h2⟩, hj⟩
/-- a name goes -/
theorem SStep.clear (r : Rel B ρ st σ H) (i : Nat) : SStep B σ ρ st H (σ.set i none) ρ ⟨st.sl.set i none, st.cs⟩ H := by
  have av : ∀ a, Av ρ B.O ⟨st.sl.set i none, st.cs⟩ (σ.set i none) a → Av ρ B.O st σ a := fun a z => by
    rcases z with z | z | ⟨j, z⟩
    · exact .inl z
    · exact .inr (.inl z)
    · exact .inr (.inr ⟨j, (clear_own z).1⟩)
  have mv : ∀ a, Av ρ B.O ⟨st.sl.set i none, st.cs⟩ (σ.set i none) a → Av ρ B.O st σ a ∨ H a = none := fun a z => .inl (av a z)
  have slo : ∀ (j : Nat) (z : DV × Bool), (st.sl.set i none)[j]? = some (some z) → j ≠ i ∧ st.sl[j]? = some (some z) := fun j z h => by
    by_cases hj : j = i
    · subst hj
      by_cases hl : j < st.sl.length
      · rw [List.getElem?_set_self hl] at h; cases h
      · rw [List.getElem?_eq_none (by rw [List.length_set]; omega)] at h; cases h
    · rw [List.getElem?_set_ne (Ne.symm hj)] at h
      exact ⟨hj, h⟩
  refine ⟨List.prefix_refl _, ⟨by simp [r.len], fun j e h => ?_, fun j e h => ?_, fun j k p h1 h2 => r.dis j k p (clear_own h1).1 (clear_own h2).1, r.dom, r.odom, ⟨r.cel.len, fun k c x h1 h2 => ?_, r.cel.dis⟩, r.cdom, r.tabs⟩, fun _ _ e _ _ _ => e, mv, fun _ z => .inl z, fun _ z => z⟩
  · obtain ⟨hj, h'⟩ := slo j _ h
    obtain ⟨w, e1, q⟩ := r.fro j e h'
    exact ⟨w, by rw [List.getElem?_set_ne (Ne.symm hj)]; exact e1, q.mv (List.prefix_refl _) (fun _ _ e _ _ => e) mv⟩
  · obtain ⟨hj, h'⟩ := slo j _ h
    obtain ⟨p, e1, q, n⟩ := r.own j e h'
    exact ⟨p, by rw [List.getElem?_set_ne (Ne.symm hj)]; exact e1, q.mv (List.prefix_refl _) (fun _ _ e _ _ => e) mv rfl, n⟩
  · have q := r.cel.ok k c x h1 h2
    cases x with
    | draw d => exact q
    | obj d => exact ⟨q.1, q.2.mv (List.prefix_refl _) (fun _ _ e _ _ => e) mv rfl⟩
    | dead => trivial
/-- an exception object that is new, as a value -/
theorem XRep.rep {x : DX} {cls : Value} {d : Option Addr} {a : Addr} (rel : Rel B ρ st σ H) (ha : H a = none) (r : XRep B ρ st σ H x cls d) : Rep B.C ρ (Av ρ B.O st σ) (upd H a (XO cls d a)) (.ref a) (.exc x.c x.ns x.vs) := by
  obtain ⟨rfl, r⟩ := r
  rcases r with ⟨e1, e2, rfl⟩ | ⟨dx, vs, rfl, n, e, l, r⟩
  · rw [e1, e2]
    exact .exc0 (rel.av_fresh ha) upd_same
  · exact .exc (rel.av_fresh ha) upd_same n ((upd_ne (ne_of_none e ha)).trans e) l (RepL.step (Step.alloc rel ha) r)
/-- what an except clause catches: by the class's number -/
def CatchOk (C : RC) (c : Value) (ca : Nat → Option Bool) : Prop := ∀ k b, ca k = some b → PySem.W.exmOne C.K (.ref (C.cls k)) c = some b
def svTry (f : Sv) (ca : Nat → Option Bool) (i j : Nat) : Sv := fun st => match f st with
  | .ok fl st1 => .ok fl st1
  | .exc x st1 => (match ca x.c with
    | some true => .ok .nx ⟨(st1.sl.set j (some (.exc x.c x.ns x.vs, false))).set i none, st1.cs⟩
    | some false => .exc x st1
    | none => .stuck)
  | .stuck => .stuck
variable {x n y : Str} {c : Value} {i j : Nat} {body : List Stmt} {np pos pos' p1 p2 p3 : Pos} {f : Sv} {ca : Nat → Option Bool}
end
end D

/-! E: fields read; which classes an except clause catches. -/
namespace D
open PySem L2 PyProof.Rows
section
variable {X : Cx} {C : RC} {ct : CT} {B : BC} {W : WX}
/-- e.f, e an instance or an exception that is a value -/
def tFldZ (C : RC) (ct : CT) (ta : TE) (f : Str) : TE := fun σ H Q => ta σ H fun x H1 =>
  (∃ a c dx fs v, x = .ref a ∧ H1 a = some (.ins (C.cls c) dx fs) ∧ (c, f) ∈ ct.fi ∧ fs.lookup f = some v ∧ Q v H1) ∨
  (∃ a c dd fs v, x = .ref a ∧ H1 a = some (XO (.ref (C.cls c)) (some dd) a) ∧ H1 dd = some (.xd fs) ∧ (c, f) ∈ ct.fe ∧ fs.lookup f = some v ∧ Q v H1)
theorem pe_fldZ {e : Expr} {f : Str} {pos : Pos} {ta : TE} (hC : C.K = X.K) (kc : KitC C ct) (he : PE X e ta) (hb : attributeBase e f X.env (eval e X.env) = eval e X.env) : PE X (.Attribute e f pos) (tFldZ C ct ta f) := by
  refine ⟨fun pins s σ H Q I h => attr_of hb (thn (he.run pins s σ H _ I h) fun u s1 hh => ?_)⟩
  obtain ⟨x, H1, I1, rx, q⟩ := hh
  rcases q with ⟨a, c, dx, fs, v, rfl, ea, hm, l, q⟩ | ⟨a, c, dd, fs, v, rfl, ea, ed, hm, l, q⟩
  · obtain rfl : u = Value.ref a := rx
    obtain ⟨h1, h2⟩ := kc.nf _ hm
    have k1 := kc.cls _ h1
    rw [hC] at k1 h2
    exact getattr_ok I1 ea k1 h2 l fun u' s2 I2 ru => ⟨v, H1, I2, ru, q⟩
  · obtain rfl : u = Value.ref a := rx
    obtain ⟨h1, h2⟩ := kc.nx _ hm
    have k1 := kc.xa _ h1
    have k2 := kc.xg _ h1
    have k3 := kc.xb _ h1
    have k4 := kc.xd _ h1
    rw [hC] at k1 k2 k3 k4 h2
    obtain ⟨⟨oe, vs, g1, hz, g2⟩, _, _⟩ := I1.hok a _ ea
    obtain ⟨mA, hns, hr⟩ := (show ObjOk X.prog X.w H1 s1.heap dd (.xd fs) from I1.hok dd _ ed)
    obtain ⟨od, ho, hl⟩ := lookIn_ns hns
    obtain ⟨u, hu, ru⟩ := RelO.some_of (v := v) (o := mA f) (by rw [← l]; exact hr f)
    have no : PySem.W.notCls oe = true := by unfold PySem.W.notCls; rw [g2]
    exact HandSPX.exc_get I1.kIn (⟨g1, hz.1, no, by rw [hz.2]; exact ho⟩ : PySem.W.InstAt s1.heap a oe (C.cls c) (some od)) k1 k2 k3 (PySem.W.findObj_own k4 h2 rfl (by rw [hl, hu])) (handed_of ru) ⟨v, H1, I1.tok _, ru, q⟩
/-- a field, by the tables of what is known of the classes -/
def fldD (ct : CT) (f : Str) : DV → Option DV
  | .ins c ns vs => if (c, f) ∈ ct.fi then fldGet ns vs f else none
  | .exc c ns vs => if (c, f) ∈ ct.fe then fldGet ns vs f else none
  | _ => none
def evFld (ct : CT) (f : Str) (fa : Ev) : Ev := fun st => (fa st).bind fun a st1 => match fldD ct f a.1 with
  | some d => .ok (d, if flat d = true then .new else .fro) st1
  | none => .stuck
theorem fro_or_flat {σ : L2.St} {ρ : List CellA} {st : DS} {H : Hp} {v : V} {d : DV} (r : Rep B.C ρ (Av ρ B.O st σ) H v d) : RepK B ρ st σ H (if flat d = true then .new else .fro) v d ∧ Fresh H (if flat d = true then .new else .fro) v := by
  by_cases hf : flat d = true
  · rw [if_pos hf, Rep.flat_eq hf r]
    exact ⟨RepK.mkF hf, fresh_flat hf⟩
  · rw [if_neg hf]
    exact ⟨r, trivial⟩
theorem pd_fld {e : Expr} {f : Str} {pos : Pos} {fa : Ev} (hC : B.C.K = X.K) (kc : KitC B.C ct) (he : PD X B W e fa) (hb : attributeBase e f X.env (eval e X.env) = eval e X.env) : PD X B W (.Attribute e f pos) (evFld ct f fa) := by
  refine PE.mono (pe_fldZ hC kc he hb) fun σ H Q ⟨ρ, st, rel, r⟩ => ?_
  have r1 := Res.bind (k := fun (a : DV × Kd) st1 => match fldD ct f a.1 with
    | some d => .ok (d, if flat d = true then Kd.new else Kd.fro) st1
    | none => .stuck) r
  refine RD.go rel r1 fun a st1 ρ1 H1 s1 r1 v rv fv => ?_
  obtain ⟨d, kd⟩ := a
  dsimp only at r1 rv
  cases hf : fldD ct f d with
  | none => rw [hf] at r1; exact r1.elim
  | some z =>
    rw [hf] at r1
    have fin : ∀ u, Rep B.C ρ1 (Av ρ1 B.O st1 σ) H1 u z → Q u H1 := fun u ru => by
      obtain ⟨k1, k2⟩ := fro_or_flat ru
      exact Res.now s1.rel r1 u k1 (Fresh.dm s1.dm k2)
    cases d <;> try (cases hf; done)
    · rename_i c ns vs
      simp only [fldD] at hf
      split at hf
      · rename_i hm
        obtain ⟨p, dx, xs, rfl, e1, e2, e3⟩ := rv.ins
        obtain ⟨u, h1, h2⟩ := fldGet_rep e2 e3 hf
        exact .inl ⟨p, c, dx, _, u, rfl, e1, hm, h1, fin u h2⟩
      · cases hf
    · rename_i c ns vs
      simp only [fldD] at hf
      split at hf
      · rename_i hm
        have r' : Rep B.C ρ1 (Av ρ1 B.O st1 σ) H1 v (.exc c ns vs) := by
          cases kd with
          | view i => obtain ⟨p, rfl, _, c, _⟩ := rv; cases c
          | fro => exact rv
          | new => exact rv.1
        cases r' with
        | exc n e n2 e2 l r =>
          obtain ⟨u, h1, h2⟩ := fldGet_rep l r hf
          exact .inr ⟨_, c, _, _, u, rfl, e, e2, hm, h1, fin u h2⟩
        | exc0 n e => simp [fldGet] at hf
      · cases hf
/-- except X, X an own exception class -/
def catchN (ct : CT) (k : Nat) (c : Nat) : Option Bool := if ct.ex.contains c && ct.ex.contains k then some (ct.sub c k) else none
theorem catch_ok (kc : KitC C ct) (k : Nat) : CatchOk C (.ref (C.cls k)) (catchN ct k) := fun c b h => by
  unfold catchN at h
  split at h
  · rename_i hc
    rw [Bool.and_eq_true, List.contains_iff_mem, List.contains_iff_mem] at hc
    cases h
    exact kc.ek c hc.1 k hc.2
  · cases h
end
end D

/-! E: x(lambda: body), x a def that calls what it gets. -/
namespace D
open PySem L2 PyProof.Rows LamX
/-- all but the tables stays, nothing goes -/
structure Grown (H H1 : Hp) : Prop where
  fr : ∀ a o, H a = some o → NT o → H1 a = some o
  dm : ∀ a, H a ≠ none → H1 a ≠ none
theorem Grown.refl (H : Hp) : Grown H H := ⟨fun _ _ e _ => e, fun _ z => z⟩
section
variable {X : Cx} {pins : List (Addr × Obj)} {σ : L2.St} {H : Hp} {s : Shared}
/-- a lambda is made -/
theorem lam_made {T : List (Addr × Str)} {c P : Addr} {params : Arguments} {body : Expr} {scope : Scope} {pos : Pos} {E : Value → Shared → Prop} {Q : Value → Shared → Prop} {q : Str} (hq : X.env.qual ++ "<lambda>" = q) (I : L2.Inv X pins σ H s) (TB : TabB X.base X.mg c P) (hcode : X.env.code = .ref c)
    (hm : (P, q) ∈ T) (hu : ∀ p ∈ T, p.1 = P → p.2 = q) (hT : Tabs T H) (hdef : defaultsOf params X.env = ([], [])) (hfree : ∀ y ∈ scope.names, y.2 = .free → ∃ c, X.env.cells.lookup y.1 = some c)
    (h : ∀ (f c' : Addr) (pm ctv : Value) (H1 : Hp) (s' : Shared), L2.Inv X pins σ H1 s' → Grown H H1 → Tabs T H1 → s'.heap.get? f = some (PySem.W.kla_obj "<lambda>" q params body scope (cloFrom X.env.cells scope.names []) pm c' ctv) →
      H1 f = none → f ∉ frs X.stack → H1 c' = some (CodeO c' q) → Q (.ref f) s') : wpAny (model X.prog X.w) X.A (eval (.Lambda params body scope pos) X.env) Q E s := by
  subst hq
  obtain ⟨ps, hP, ht, ha⟩ := hT _ hm
  have bP := TB.bm.keeps I.bk
  have hPs : s.heap.get? P = some (PySem.W.tabObj ps) := I.hok P _ hP
  -- what is new is no frame
  have nofr : ∀ f, s.heap.objs.size ≤ f → f ∉ frs X.stack := fun f hf z => (List.mem_cons.mp (I.stkSub _ z)).elim (fun e => Nat.lt_irrefl f (Nat.lt_of_lt_of_le (e ▸ I.lt) hf)) fun e => I.nofs hf e
  refine PySem.W.kla_eval hdef ?_
  cases hc : codeAmong pos ps.toList with
  | some cv =>
    obtain ⟨c', rfl, hco⟩ := ha pos cv hc
    exact PySem.W.kla_makeFunctionHit (mg := X.mg) (closure_ok hfree) I.ok.glob (I.mod.glob.keeps I.bk) hcode (TB.code.keeps I.bk) hPs ht hc bP fun ctv h' tk hx hsz =>
      h _ c' _ ctv H _ (I.kept (t' := tk) fun b o e => Heap.get?_push_of_some _ (hx b o e)) (Grown.refl H) hT (Heap.get?_push_size _ rfl) (I.hok.fresh hsz) (nofr _ hsz) hco
  | none =>
    refine PySem.W.kla_makeFunction (mg := X.mg) (closure_ok hfree) I.ok.glob (I.mod.glob.keeps I.bk) hcode (TB.code.keeps I.bk) hPs ht hc TB.gP bP fun c' ctv h' tk hx hge hlt hrec htb => ?_
    obtain ⟨c2, oc, vs, t, e2, hoc, hd, hv⟩ := hrec
    cases e2
    have hsz : s.heap.objs.size ≤ h'.objs.size := Nat.le_trans hge (Nat.le_of_lt hlt)
    have nC : H c' = none := I.hok.fresh hge
    have nPC : P ≠ c' := ne_of_none hP nC
    have old : ∀ b o, b ≠ P → s.heap.get? b = some o → (h'.push (PySem.W.kla_obj "<lambda>" (X.env.qual ++ "<lambda>") params body scope (cloFrom X.env.cells scope.names []) ((X.mg "__name__").getD .none) c' ctv)).get? b = some o := fun b o hb e => Heap.get?_push_of_some _ (hx b o hb e)
    have I1 := inv_table (t' := tk) (more := #[rawInt pos.line, rawInt pos.col, .ref c']) I hP old (Heap.get?_push_of_some _ htb) hge ⟨oc, vs, t, Heap.get?_push_of_some _ hoc, hd, hv⟩
    have G : Grown H (upd (upd H P (.tbl (ps ++ #[rawInt pos.line, rawInt pos.col, .ref c']))) c' (CodeO c' (X.env.qual ++ "<lambda>"))) := by
      refine ⟨fun a o e n => ?_, fun a z => ?_⟩
      · rw [upd_ne (ne_of_none e nC), upd_ne (fun (z : a = P) => by rw [z, hP] at e; cases e; exact n)]
        exact e
      · by_cases h1 : a = c'
        · rw [h1, upd_same]; exact fun z => nomatch z
        · rw [upd_ne h1]
          by_cases h2 : a = P
          · rw [h2, upd_same]; exact fun z => nomatch z
          · rw [upd_ne h2]; exact z
    have eL : (ps ++ #[rawInt pos.line, rawInt pos.col, .ref c']).toList = ps.toList ++ [rawInt pos.line, rawInt pos.col, .ref c'] := by simp
    have hPs' : s.heap.objs.size ≤ h'.objs.size ∧ P < s.heap.objs.size := ⟨hsz, Heap.lt_size hPs⟩
    refine h h'.objs.size c' _ ctv _ _ I1 G (fun p hp => ?_) (Heap.get?_push_size _ rfl) ?_ (nofr _ hsz) upd_same
    · obtain ⟨qs, a1, a2, a3⟩ := hT p hp
      by_cases hb : p.1 = P
      · rw [hu p hp hb]
        rw [hb] at a1 ⊢
        rw [hP] at a1
        cases a1
        refine ⟨_, (upd_ne nPC).trans upd_same, by rw [eL]; exact PySem.TriplesOk_snoc _ _ _ _ ht, fun p' cv hcv => ?_⟩
        rw [eL] at hcv
        rcases among_app _ ht hcv with z | z
        · obtain ⟨c0, e1, e2⟩ := ha p' cv z
          exact ⟨c0, e1, G.fr _ _ e2 trivial⟩
        · exact ⟨c', z, upd_same⟩
      · refine ⟨qs, (upd_ne (ne_of_none a1 nC)).trans ((upd_ne hb).trans a1), a2, fun p' cv hcv => ?_⟩
        obtain ⟨c0, e1, e2⟩ := a3 p' cv hcv
        exact ⟨c0, e1, G.fr _ _ e2 trivial⟩
    · rw [upd_ne (Nat.ne_of_gt hlt), upd_ne (Nat.ne_of_gt (Nat.lt_of_lt_of_le hPs'.2 hPs'.1))]
      exact I.hok.fresh hsz
end
/-- the context of the def g that got the lambda -/
abbrev gotCx (X : Cx) (N : List Str) (x : Str) (sg : Scope) (g : Addr) (cdg : Value) (s : Shared) (H : Hp) : Cx := cxOf (L2.CX X.prog X.w) X.prog X.w X.K X.mg X.base N x sg g cdg X.A X.stack s H (fun _ _ _ => False)
section
variable {X : Cx} {pins : List (Addr × Obj)} {σ : L2.St} {H : Hp} {s : Shared}
/-- a(), in that def -/
theorem pe_call_lam {N : List Str} {x : Str} {sg : Scope} {g f c' : Addr} {cdg pm ctv : Value} {params : Arguments} {body : Expr} {scope : Scope} {k i : Nat} {a q : Str} {pn : List (Addr × Obj)} {xe : Value → Shared → Prop} {W : WX} {tb : XK → TE} {p1 p2 : Pos} (hq : X.env.qual ++ "<lambda>" = q)
    (I : L2.Inv X pins σ H s) (L : LamS X.env.scope scope) (hf : s.heap.get? f = some (PySem.W.kla_obj "<lambda>" q params body scope (cloFrom X.env.cells scope.names []) pm c' ctv)) (hfn : H f = none) (hfr : f ∉ frs X.stack)
    (hbind : bindArgs (PySem.W.kla_fn "<lambda>" q params body scope (cloFrom X.env.cells scope.names []) pm (.ref c') ctv) ⟨[], []⟩ = pure [])
    (tk : Takes ((gotCx X N x sg g cdg s H).tr pn xe) W) (hr : Room (k + 1) (X.A.deeper (envOfC x sg s.heap.objs.size g cdg)))
    (hbody : ∀ (A : Around) (outer : List Env) (s : Shared) (H : Hp) (E : XK), Room k (A.deeper (lamEnv X scope s.heap.objs.size f c')) → A.guards = X.A.guards → PE (lamCx X A outer s H E scope f c') body (tb E))
    (hN : N[i]? = some a) (hv : Vis sg a) (hd : (a == ("__debug__" : Str)) = false) (hcd : (a == ("__classdict__" : Str)) = false) :
    PE ((gotCx X N x sg g cdg s H).tr pn xe) (.Call (.Name a p1) [] [] p2) (fun σZ HZ Q => σZ[i]? = some (some (.ref f)) ∧ HZ c' = some (CodeO c' q) ∧ tb (fun cls d H' => W cls d σZ H') σ HZ Q) := by
  subst hq
  refine ⟨fun pz sz σz Hz Q Iz ⟨hs, hc, ht⟩ => wpAny_Call_Name_kw (thn ((pe_var (pos := p1) (i := i) hN hv hd hcd).run pz sz σz Hz (fun v H1 => v = .ref f ∧ H1 = Hz) Iz ⟨.ref f, hs, rfl, rfl⟩) fun u s1 hh => ?_)⟩
  obtain ⟨v, H1, I1, r1, rfl, rfl⟩ := hh
  obtain rfl : u = Value.ref f := r1
  have of1 := I1.base.keep f _ hf hfn hfr (fun z => nomatch (show f ∈ ([] : List Addr) from z))
  obtain ⟨⟨oc, vs, t, hoc, hdc, hvc⟩, _, _⟩ := I1.hok c' _ hc
  refine PySem.W.callWith_F0 ⟨_, _, _, _, of1⟩ (wpAny_call (codeAny_mono (R := CR (L2.CX X.prog X.w) (envOfC x sg s.heap.objs.size g cdg :: X.stack) X.prog X.w H1 s1 Q (fun cls d H' => W cls d σz H')) (PySem.W.kla_callFunE hr.depth of1 rfl L.co L.gen rfl ⟨c', oc, vs, t, rfl, hoc, hdc, hvc⟩ ?_) fun r s' hq => ?_))
  · erw [hbind]
    refine wpAny_pure (wpAny_newFunctionEnv (fun y hy => (L.own y hy).2) (fun y hy => absurd hy (by simp)) (fun h₁ hns hsb => ⟨I1.nolimit.fresh _ hsb, ?_⟩) L.kind)
    show codeAny _ _ (.expr body (lamEnv X scope s1.heap.objs.size f c')) _ _
    have J := lam_start2 (E := fun cls d H' => W cls d σz H') (f := f) (c' := c') (tk := s1.toks + ([] : List (Str × Value)).length) I L I1.env0 hr.hd (I1.base : Un (frs X.stack) [] H H1 s.heap s1.heap) hns (fun b o e => hsb.extBut b o (Nat.ne_of_lt (Heap.lt_size e)) (Heap.get?_push_of_some _ e))
    refine PySem.W.kla_codeExpr (wpAny_mono ((hbody _ _ s1 H1 _ (hr.deeper _) rfl).run [] _ _ H1 Q J ht) (fun v s' hq => ?_) fun e s' hq => hq)
    obtain ⟨w', H', J', rv, q⟩ := hq
    exact ⟨w', H', J'.os, J'.bare, J'.base, J'.hok, rv, q⟩
  · match r, hq with
    | .error e, hq => exact tk e s' (XE.of_call (W := W) (E := fun cls d H' => W cls d σz H') I1 (fun _ _ _ h => h) hq)
    | .ok (.ret u), hq => exact I1.after hq
    | .ok .next, hq => exact False.elim hq
    | .ok .brk, hq => exact False.elim hq
    | .ok .cont, hq => exact False.elim hq
/-- what a def that calls what it gets promises: TT of what the lambda's body asks -/
structure Gets (X : Cx) (k : Nat) (N : List Str) (x : Str) (sg : Scope) (g : Addr) (cdg : Value) (bg : List Stmt) (a q : Str) (TT : Addr → (XK → Hp → VK → Prop) → Hp → VK → Prop) : Prop where
  go : ∀ (f c' : Addr) (s : Shared) (H : Hp) (Q : VK) (tl : XK → Hp → VK → Prop), Room k (X.A.deeper (envOfC x sg s.heap.objs.size g cdg)) →
    (∀ (W : WX) (pn : List (Addr × Obj)) (xe : Value → Shared → Prop) (p1 p2 : Pos), Takes ((gotCx X N x sg g cdg s H).tr pn xe) W →
      PE ((gotCx X N x sg g cdg s H).tr pn xe) (.Call (.Name a p1) [] [] p2) (fun σZ HZ Q => σZ[0]? = some (some (.ref f)) ∧ HZ c' = some (CodeO c' q) ∧ tl (fun cls d H' => W cls d σZ H') HZ Q)) →
    H c' = some (CodeO c' q) → TT f tl H Q → ∃ t, PSs (gotCx X N x sg g cdg s H) bg t ∧ t { nx := fun _ H' => Q .non H', rt := Q } (L2.start N [.ref f]) H
def tLamD (T : List (Addr × Str)) (TT : Addr → (XK → Hp → VK → Prop) → Hp → VK → Prop) (t : XK → TE) : TE := fun σ H Q => Tabs T H ∧ ∀ H1 f, Grown H H1 → Tabs T H1 → H1 f = none → TT f (fun E H' Q' => t E σ H' Q') H1 Q
/-- x(lambda: body) -/
theorem pe_lam {T : List (Addr × Str)} {TT : Addr → (XK → Hp → VK → Prop) → Hp → VK → Prop} {x a q : Str} {g c P : Addr} {k : Nat} {pg : Arguments} {bg : List Stmt} {sg : Scope} {dV kV doc pm cdv ct oc : Value} {an od : Option Addr} {osl : Array (Option Value)} {N : List Str}
    {params : Arguments} {body : Expr} {scope : Scope} {t : XK → TE} {p lpos pos : Pos} (hq : X.env.qual ++ "<lambda>" = q) (hg : Gl X x) (hm : X.mg x = some (.ref g)) (hk : PySem.W.keepIn X.K (.ref g) = true)
    (lk : X.K.lookup g = some ⟨oc, od, .func (PySem.W.fnOf x x pg bg sg dV kV doc pm an cdv ct), osl⟩) (hcg : PySem.W.codeIn X.K cdv x = true) (hb : L2.Binds X.K (PySem.W.fnOf x x pg bg sg dV kV doc pm an cdv ct) [a] []) (Sg : FnScope N [a] sg) (hN : N[0]? = some a) (hva : Vis sg a)
    (hG : Gets X (k + 1) N x sg g cdv bg a q TT) (TB : TabB X.base X.mg c P) (hcode : X.env.code = .ref c) (hmT : (P, q) ∈ T) (hu : ∀ p ∈ T, p.1 = P → p.2 = q) (hr : Room (k + 2) X.A) (L : LamS X.env.scope scope) (hdef : defaultsOf params X.env = ([], []))
    (hbind : ∀ (cl : List (Str × Addr)) (pm cv ctv : Value), bindArgs (PySem.W.kla_fn "<lambda>" q params body scope cl pm cv ctv) ⟨[], []⟩ = pure [])
    (hbody : ∀ (A : Around) (outer : List Env) (s : Shared) (H : Hp) (E : XK) (f c' : Addr), Room k (A.deeper (lamEnv X scope s.heap.objs.size f c')) → A.guards = X.A.guards → PE (lamCx X A outer s H E scope f c') body (t E))
    (hdb : (x == ("__debug__" : Str)) = false) (hd : (a == ("__debug__" : Str)) = false) (hcd : (a == ("__classdict__" : Str)) = false) :
    PE X (.Call (.Name x p) [.Lambda params body scope lpos] [] pos) (tLamD T TT t) := by
  refine ⟨fun pins s σ H Q I ⟨hT, h⟩ => wpAny_Call_Name_kw (ld_glob I hg hm (PySem.W.callWith_K (h₀ := X.base) I.ok.mod.kin hk ?_ (by rfl) (by rfl)) hdb)⟩
  show wpAny _ _ (spliced ((false, eval (.Lambda params body scope lpos) X.env) :: backTo pos (starEach [] X.env))) _ _ s
  refine Calls.spliced_cons (lam_made hq I TB hcode hmT hu hT hdef (L.has I.ok) fun f c' pm' ctv H1 s' I1 gr T1 hf hfn hfr hco => Calls.spliced_nil ⟨I1.kIn, wpAny_call (codeAny_mono (R := CR (L2.CX X.prog X.w) X.stack X.prog X.w H1 s' Q (fun _ _ _ => False)) ?_ fun r s2 hq => ?_)⟩)
  · exact run_ofS (N := N) (ps := [a]) (us := [.ref f]) (vs := [.ref f]) lk hcg Sg hr I1.env0 (hb s' [.ref f] I1.kIn rfl) (.cons rfl .nil) rfl fun hr' =>
      hG.go f c' s' H1 Q _ hr' (fun W pn xe p1 p2 tk => pe_call_lam (i := 0) hq I1 L hf hfn hfr (hbind _ _ _ _) tk hr' (fun A outer s H E hr2 hgu => hbody A outer s H E f c' hr2 hgu) hN hva hd hcd) hco (h H1 f gr T1 hfn)
  · match r, hq with
    | .error e, ⟨_, _, _, _, _, _, _, _, _, _, _, _, z⟩ => exact z.elim
    | .ok (.ret u), hq => exact I1.after hq
    | .ok .next, hq => exact False.elim hq
    | .ok .brk, hq => exact False.elim hq
    | .ok .cont, hq => exact False.elim hq
end
end D

/-! E: x(lambda: body) on deep values. -/
namespace D
open PySem L2 PyProof.Rows LamX
/-- every slot's own thing is shared from now on -/
def DS.frz (st : DS) : DS := ⟨st.sl.map (Option.map fun (p : DV × Bool) => (p.1, false)), st.cs⟩
section
variable {B : BC} {W : WX} {σ : L2.St} {ρ : List CellA} {st : DS} {H H1 : Hp}
theorem frz_at {i : Nat} {d : DV} {b : Bool} (h : st.frz.sl[i]? = some (some (d, b))) : b = false ∧ ∃ c, st.sl[i]? = some (some (d, c)) := by
  simp only [DS.frz, List.getElem?_map] at h
  cases e : st.sl[i]? with
  | none => rw [e] at h; cases h
  | some x =>
    rw [e] at h
    cases x with
    | none => cases h
    | some p =>
      obtain ⟨d', c⟩ := p
      cases h
      exact ⟨rfl, c, rfl⟩
theorem frz_own {i : Nat} {p : Addr} : ¬ ownAt st.frz σ i p := fun ⟨d, h, _⟩ => by cases (frz_at h).1
theorem frz_av {a : Addr} (h : Av ρ B.O st.frz σ a) : Av ρ B.O st σ a := by
  rcases h with h | h | ⟨j, h⟩
  · exact .inl h
  · exact .inr (.inl h)
  · exact absurd h frz_own
theorem Step.frz (r : Rel B ρ st σ H) : Step B σ ρ st H ρ st.frz H := by
  have mv : ∀ a, Av ρ B.O st.frz σ a → Av ρ B.O st σ a ∨ H a = none := fun a z => .inl (frz_av z)
  refine ⟨List.prefix_refl _, ⟨by rw [← r.len]; simp [DS.frz], fun j d h => ?_, fun j d h => ?_, fun j k p h1 h2 => absurd h1 frz_own, r.dom, r.odom, ⟨r.cel.len, fun k c x h1 h2 => ?_, r.cel.dis⟩, r.cdom, r.tabs⟩, fun _ _ e _ _ => e, fun _ _ z => absurd z frz_own, fun j d b z => (frz_at z).2, fun _ z => .inl z, fun _ z => z⟩
  · obtain ⟨_, c, e⟩ := frz_at h
    cases c with
    | false =>
      obtain ⟨v, e1, q⟩ := r.fro j d e
      exact ⟨v, e1, q.mv (List.prefix_refl _) (fun _ _ e _ _ => e) mv⟩
    | true =>
      obtain ⟨p, e1, q, n1, n2, n3⟩ := r.own j d e
      refine ⟨.ref p, e1, q.rep (fun a z => frz_av z) fun z => ?_⟩
      rcases z with z | z | ⟨k, z⟩
      · exact n2 z
      · exact n1 z
      · exact absurd z frz_own
  · cases (frz_at h).1
  · have q := r.cel.ok k c x h1 h2
    cases x with
    | draw d => exact q
    | obj d => exact ⟨q.1, q.2.mv (List.prefix_refl _) (fun _ _ e _ _ => e) mv rfl⟩
    | dead => trivial
/-- the tables have grown -/
theorem Step.grown (r : Rel B ρ st σ H) (g : Grown H H1) (t : Tabs B.C.T H1) : Step B σ ρ st H ρ st H1 := by
  have fr : ∀ a o, H a = some o → ¬ Av ρ B.O st σ a → NT o → H1 a = some o := fun a o e _ n => g.fr a o e n
  have mv : ∀ a, Av ρ B.O st σ a → Av ρ B.O st σ a ∨ H a = none := fun a z => .inl z
  have same : ∀ p d, Cont B.C ρ (Av ρ B.O st σ) H p d → H1 p = H p := fun p d c => by
    obtain ⟨o, e, n⟩ := c.nt
    rw [e, g.fr p o e n]
  refine ⟨List.prefix_refl _, ⟨r.len, fun j d h => ?_, fun j d h => ?_, r.dis, fun a z => g.dm a (r.dom a z), fun a z => g.dm a (r.odom a z), ⟨r.cel.len, fun k c x h1 h2 => ?_, r.cel.dis⟩, fun a z => g.dm a (r.cdom a z), t⟩, fun a o e _ n => g.fr a o e n, fun _ _ z => z, fun j d b z => ⟨b, z⟩, fun _ z => .inl z, g.dm⟩
  · obtain ⟨v, e1, q⟩ := r.fro j d h
    exact ⟨v, e1, q.mv (List.prefix_refl _) fr mv⟩
  · obtain ⟨p, e1, q, n⟩ := r.own j d h
    exact ⟨p, e1, q.mv (List.prefix_refl _) fr mv (same p d q), n⟩
  · have q := r.cel.ok k c x h1 h2
    cases x with
    | draw d =>
      obtain ⟨g', l, e, n1, n2, n3, a, b, c⟩ := q
      exact ⟨g', l, e, n1, n2, n3, g.fr _ _ a trivial, g.fr _ _ b trivial, g.fr _ _ c trivial⟩
    | obj d => exact ⟨q.1, q.2.mv (List.prefix_refl _) fr mv (same _ d q.2)⟩
    | dead => trivial
end
/-- a def «c = None; try: a() except K as e: c = e; rest», a its parameter: its slots' number, c's and e's slots, K's number, the rest -/
structure LamD where
  n : Nat
  jc : Nat
  je : Nat
  kx : Nat
  rest : Sv
def LamD.sl1 (L : LamD) : List Slot := (startSl L.n [.opq]).set L.jc (some (.non, false))
def LamD.slX (L : LamD) (x : DX) : List Slot := (L.sl1.set L.jc (some (.exc x.c x.ns x.vs, false))).set L.je none
def lamBack (sl : List Slot) : Out (DV × Kd) → Out (DV × Kd)
  | .ok a st2 => .ok (a.1, if flat a.1 = true then .new else .fro) ⟨sl, st2.cs⟩
  | _ => .stuck
def evLam (ct : CT) (L : LamD) (body : Ev) : Ev := fun st => match body st.frz with
  | .ok _ st1 => lamBack st1.sl (outRet (L.rest ⟨L.sl1, st1.cs⟩))
  | .exc x st1 => (match catchN ct L.kx x.c with
    | some true => lamBack st1.sl (outRet (L.rest ⟨L.slX x, st1.cs⟩))
    | _ => .stuck)
  | .stuck => .stuck
/-- what the def wants behind its try -/
def LamD.ends (L : LamD) (C : RC) (O : Addr → Prop) (H : Hp) (Q : VK) : Ends := { nx := fun σ' H' => RS ⟨C, O, H⟩ WF L.rest { nx := fun _ H' => Q .non H', rt := Q } σ' H', rt := Q }
def LamD.σ1 (L : LamD) (N : List Str) (f : Addr) : L2.St := (L2.start N [.ref f]).set L.jc (some .non)
def TTL (C : RC) (L : LamD) (N : List Str) (f : Addr) (tl : XK → Hp → VK → Prop) (H : Hp) (Q : VK) : Prop := ∃ O : Addr → Prop,
  tl (fun cls d H' => wKeep C.K (.ref (C.cls L.kx)) L.je L.jc WF (L.ends C O H Q) cls d (L.σ1 N f) H') H (fun _ H' => (L.ends C O H Q).nx (L.σ1 N f) H')
section
variable {X : Cx} {C : RC} {ct : CT}
/-- the def's side -/
theorem gets_of {k : Nat} {N : List Str} {x a c e kn : Str} {sg : Scope} {g : Addr} {cdg : Value} {L : LamD} {q : Str} {rest : List Stmt} {kk : Nat} {q1 q2 q3 q4 q5 q6 q7 q8 q9 q10 q11 q12 : Pos} (hC : C.K = X.K) (hgu : X.A.guards = some [])
    (hN : N.Nodup) (h0 : N[0]? = some a) (hjc : N[L.jc]? = some c) (hje : N[L.je]? = some e) (hne : L.jc ≠ 0) (hle : sg.names.lookup e = some .local) (hlc : sg.names.lookup c = some .local) (hk : sg.names.lookup kn = some .globalImplicit) (hm : X.mg kn = some (.ref (C.cls L.kx))) (hdk : (kn == ("__debug__" : Str)) = false)
    (hde : (e == ("__debug__" : Str)) = false) (hce : (e == ("__classdict__" : Str)) = false)
    (hkind : sg.kind = .function)
    (hrest : ∀ (s : Shared) (H : Hp) (O : Addr → Prop), Room k (X.A.deeper (envOfC x sg s.heap.objs.size g cdg)) → PSsD (gotCx X N x sg g cdg s H) ⟨C, O, H⟩ WF rest L.rest)
    (s1 : ∀ s H, swapsWith (.Constant .none kk q1) (some (.Name c q2)) q3.line (gotCx X N x sg g cdg s H).env = pure false)
    (s2 : ∀ s H pn xe, swapsWith (.Call (.Name a q4) [] [] q5) none q6.line ((gotCx X N x sg g cdg s H).tr pn xe).env = pure false)
    (s3 : ∀ s H aa pn, swapsWith (.Name e q7) (some (.Name c q8)) q9.line ((gotCx X N x sg g cdg s H).suite aa pn).env = pure false) :
    Gets X k N x sg g cdg (.Assign [.Name c q2] (.Constant .none kk q1) q3 :: .Try [.Expr (.Call (.Name a q4) [] [] q5) q6] [.ExceptHandler (some (.Name kn q10)) (some e) [.Assign [.Name c q8] (.Name e q7) q9] q11] [] [] q12 :: rest) a q (TTL C L N) := by
  refine ⟨fun f c' s H Q tl hr act hco ⟨O, ht⟩ => ⟨_, pss_cons (ps_set (i := L.jc) (te := tC .non) hN hjc (.inl hlc) (pe_non) (s1 s H) (.inr hlc)) (pss_cons (ps_try_keep (X := gotCx X N x sg g cdg s H) (c := .ref (C.cls L.kx)) (i := L.je) (j := L.jc) (Wout := WF)
    (tb := fun W D σ H' => σ[0]? = some (some (V.ref f)) ∧ H' c' = some (CodeO c' q) ∧ tl (fun cls d H'' => W cls d σ H'') H' (fun _ H'' => D.nx σ H'')) rfl rfl rfl hN hje hjc hle hlc ⟨hk, hdk, .inl hm⟩ takesF
    (fun W pn xe tk _ => PSs.mono (pss_one (ps_expr (act W pn xe q4 q5 tk) (s2 s H pn xe))) fun D σ H' h => h) (s3 s H) hde hce) (hrest s H O hr)), ?_⟩⟩
  refine ⟨?_, hco, ?_⟩
  · show ((L2.start N [.ref f]).set L.jc (some .non))[0]? = _
    rw [List.getElem?_set_ne hne]
    rfl
  · rw [hC] at ht
    exact ht
end
section
variable {B : BC} {W : WX} {σ : L2.St} {ρ ρ1 : List CellA} {st st1 : DS} {H H1 H' : Hp} {C : RC}
/-- the def's slots, seen from the caller's answer -/
theorem rel_got {n : Nat} {N : List Str} {f : Addr} (hn : N.length = n) (r : Rel B ρ1 st1 σ H') (dom : ∀ a, H1 a ≠ none → H' a ≠ none) : Rel ⟨B.C, B.O, H1⟩ ρ1 ⟨startSl n [.opq], st1.cs⟩ (L2.start N [.ref f]) H' := by
  subst hn
  have sub : ∀ a, Av ρ1 B.O ⟨startSl N.length [.opq], st1.cs⟩ (L2.start N [.ref f]) a → Av ρ1 B.O st1 σ a := fun a z => by
    rcases z with z | z | ⟨i, d, z, _⟩
    · exact .inl z
    · exact .inr (.inl z)
    · exact absurd z startSl_own
  have mv : ∀ a, Av ρ1 B.O ⟨startSl N.length [.opq], st1.cs⟩ (L2.start N [.ref f]) a → Av ρ1 B.O st1 σ a ∨ H' a = none := fun a z => .inl (sub a z)
  refine ⟨?_, fun i d h => ?_, fun i d h => absurd h startSl_own, fun i j p ⟨d, h, _⟩ => absurd h startSl_own, dom, r.odom, ⟨r.cel.len, fun k c x h1 h2 => ?_, r.cel.dis⟩, r.cdom, r.tabs⟩
  · simp [startSl, L2.start]
  · cases i with
    | zero =>
      have h : some (some (DV.opq, false)) = some (some (d, false)) := h
      cases h
      exact ⟨.ref f, rfl, .opq f⟩
    | succ i =>
      have h : (List.replicate (N.length - 1) (none : Slot))[i]? = some (some (d, false)) := h
      rw [List.getElem?_replicate] at h
      split at h <;> cases h
  · have q := r.cel.ok k c x h1 h2
    cases x with
    | draw d => exact q
    | obj d => exact ⟨q.1, q.2.mv (List.prefix_refl _) (fun _ _ e _ _ => e) mv rfl⟩
    | dead => trivial
/-- the def's rest, run -/
theorem rest_got {rest : Sv} {slc : List Slot} {σc : L2.St} {Q : VK} (no1 : ∀ i a, ¬ ownAt st1 σ i a) (noc : ∀ i a, ¬ ownAt ⟨slc, st1.cs⟩ σc i a) (sT : Step B σ ρ st H ρ1 st1 H') (rc : Rel ⟨B.C, B.O, H1⟩ ρ1 ⟨slc, st1.cs⟩ σc H')
    (r : Res B W σ ρ st H (lamBack st1.sl (outRet (rest ⟨slc, st1.cs⟩))) (GE B σ H Q)) : RS ⟨B.C, B.O, H1⟩ WF rest { nx := fun _ H' => Q .non H', rt := Q } σc H' := by
  refine ⟨ρ1, ⟨slc, st1.cs⟩, rc, ?_⟩
  -- the caller's state behind it
  have later : ∀ σ2 ρ2 st2 H2, SStep ⟨B.C, B.O, H1⟩ σc ρ1 ⟨slc, st1.cs⟩ H' σ2 ρ2 st2 H2 → Step B σ ρ st H ρ2 ⟨st1.sl, st2.cs⟩ H2 := fun σ2 ρ2 st2 H2 s2 => by
    have av : ∀ a, Av ρ2 B.O ⟨st1.sl, st2.cs⟩ σ a → Av ρ2 B.O st2 σ2 a ∨ H2 a = none := fun a z => by
      rcases z with z | z | ⟨i, z⟩
      · exact .inl (.inl z)
      · exact .inl (.inr (.inl z))
      · exact absurd z (no1 i a)
    refine sT.trans (Step.called sT.rel s2.pre (fun a o e n t => s2.fr a o e n (fun i => noc i a) t) s2.cm s2.dm ⟨s2.rel.cel.len, fun k c x h1 h2 => ?_, s2.rel.cel.dis⟩ s2.rel.cdom s2.rel.tabs)
    have q := s2.rel.cel.ok k c x h1 h2
    cases x with
    | draw d => exact q
    | obj d => exact ⟨q.1, q.2.mv (List.prefix_refl _) (fun _ _ e _ _ => e) av rfl⟩
    | dead => trivial
  have fin : ∀ σ2 ρ2 st2 H2 v d kd, SStep ⟨B.C, B.O, H1⟩ σc ρ1 ⟨slc, st1.cs⟩ H' σ2 ρ2 st2 H2 → RepK ⟨B.C, B.O, H1⟩ ρ2 st2 σ2 H2 kd v d → Res B W σ ρ st H (.ok (d, if flat d = true then .new else .fro) ⟨st1.sl, st2.cs⟩) (GE B σ H Q) → Q v H2 := fun σ2 ρ2 st2 H2 v d kd s2 rv r => by
    have s3 := later σ2 ρ2 st2 H2 s2
    have rep : Rep B.C ρ2 (Av ρ2 B.O ⟨st1.sl, st2.cs⟩ σ) H2 v d := rv.eat.mv (List.prefix_refl _) (fun _ _ e _ _ => e) fun a z => by
      rcases z with z | z | ⟨i, z⟩
      · exact .inl (.inl z)
      · exact .inl (.inr (.inl z))
      · exact absurd z (no1 i a)
    obtain ⟨k1, k2⟩ := fro_or_flat rep
    exact r ρ2 H2 s3 v k1 (Fresh.dm s3.dm k2)
  cases e : rest ⟨slc, st1.cs⟩ with
  | stuck => rw [e] at r; exact r.elim
  | exc x st2 => rw [e] at r; exact (show False from r).elim
  | ok fl st2 =>
    rw [e] at r
    cases fl with
    | nx => exact fun σ2 ρ2 H2 s2 => fin σ2 ρ2 st2 H2 .non .non .new s2 (RepK.mkF (d := .non) rfl) r
    | bk => exact (show False from r).elim
    | ct => exact (show False from r).elim
    | rt d kd => exact fun σ2 ρ2 H2 s2 v rv _ => fin σ2 ρ2 st2 H2 v d kd s2 rv r
theorem setF_own {sl : List Slot} {cs : List CellC} {σc : L2.St} {i : Nat} {v : Option V} {s : Slot} (hs : ∀ d, s ≠ some (d, true)) (h : ∀ i a, ¬ ownAt ⟨sl, cs⟩ σc i a) : ∀ j a, ¬ ownAt ⟨sl.set i s, cs⟩ (σc.set i v) j a := fun j a ⟨d, h1, h2⟩ => by
  by_cases hj : j = i
  · subst hj
    dsimp only at h1
    by_cases hl : j < sl.length
    · rw [List.getElem?_set_self hl] at h1
      exact hs d (Option.some.inj h1)
    · rw [List.getElem?_eq_none (by rw [List.length_set]; omega)] at h1; cases h1
  · dsimp only at h1
    rw [List.getElem?_set_ne (Ne.symm hj)] at h1 h2
    exact h j a ⟨d, h1, h2⟩
theorem lam_core {ct : CT} {L : LamD} {fb : Ev} {N : List Str} {Q : VK} (kc : KitC B.C ct) (hn : N.length = L.n) (hj : L.jc ≠ L.je) (rel : Rel B ρ st σ H) (r : Res B W σ ρ st H (evLam ct L fb st) (GE B σ H Q)) :
    tLamD B.C.T (TTL B.C L N) (fun E => RDx B.C (fun cls d _ H' => E cls d H') fb) σ H Q := by
  refine ⟨rel.tabs, fun H1 f gr t1 hf => ⟨B.O, B, rfl, ρ, st.frz, ?_, ?_⟩⟩
  · exact (Step.frz (Step.grown rel gr t1).rel).rel
  have s0 : Step B σ ρ st H ρ st.frz H1 := (Step.grown rel gr t1).trans (Step.frz (Step.grown rel gr t1).rel)
  unfold evLam at r
  have no0 : ∀ i a, ¬ ownAt (⟨startSl L.n [.opq], []⟩ : DS) (L2.start N [.ref f]) i a := fun i a ⟨d, z, _⟩ => startSl_own z
  cases e : fb st.frz with
  | stuck => rw [e] at r; exact r.elim
  | ok a st1 =>
    rw [e] at r
    intro ρ1 H' s1 v rv fv
    have no1 : ∀ i a, ¬ ownAt st1 σ i a := fun i a z => frz_own (s1.sub i a z)
    have sT := s0.trans s1
    have rg := (SStep.putF (i := L.jc) (rel_got (f := f) (H1 := H1) hn s1.rel s1.dm) (v := .non) (d := .non) .non).rel
    exact rest_got no1 (setF_own (fun d z => by cases z) no0) sT rg r
  | exc x st1 =>
    rw [e] at r
    dsimp only at r
    intro ρ1 H' cls d s1 xr
    cases hk : catchN ct L.kx x.c with
    | none => rw [hk] at r; exact r.elim
    | some b =>
      cases b with
      | false => rw [hk] at r; exact r.elim
      | true =>
        rw [hk] at r
        have r : Res B W σ ρ st H (lamBack st1.sl (outRet (L.rest ⟨L.slX x, st1.cs⟩))) (GE B σ H Q) := r
        have no1 : ∀ i a, ¬ ownAt st1 σ i a := fun i a z => frz_own (s1.sub i a z)
        have sT := s0.trans s1
        have rg := (SStep.putF (i := L.jc) (rel_got (f := f) (H1 := H1) hn s1.rel s1.dm) (v := .non) (d := .non) .non).rel
        refine ⟨true, by rw [xr.1]; exact catch_ok kc L.kx x.c true hk, fun _ a ha => ?_, fun z => nomatch z⟩
        have e2 : (((L.σ1 N f).set L.je (some (.ref a))).set L.jc (some (.ref a))).set L.je none = ((L.σ1 N f).set L.jc (some (.ref a))).set L.je none := by
          rw [List.set_comm _ _ (Ne.symm hj), List.set_set]
        rw [e2]
        have sT2 := sT.trans (Step.alloc (o := XO cls d a) sT.rel ha)
        -- the exception in the def's slots
        have xr' : XRep ⟨B.C, B.O, H1⟩ ρ1 ⟨L.sl1, st1.cs⟩ (L.σ1 N f) H' x cls d := by
          have noc := setF_own (i := L.jc) (v := some (V.non)) (s := some (DV.non, false)) (fun d z => by cases z) no0
          have sub : ∀ b, Av ρ1 B.O ⟨L.sl1, st1.cs⟩ (L.σ1 N f) b → Av ρ1 B.O st1 σ b := fun b z => by
            rcases z with z | z | ⟨i, d, z1, z2⟩
            · exact .inl z
            · exact .inr (.inl z)
            · exact absurd ⟨d, z1, z2⟩ (noc i b)
          obtain ⟨x1, x2⟩ := xr
          refine ⟨x1, x2.imp id fun ⟨dd, vs, q1, q2, q3, q4, q5⟩ => ⟨dd, vs, q1, fun z => q2 (sub _ z), q3, q4, q5.mv (List.prefix_refl _) (fun _ _ e _ _ => e) fun a z => .inl (sub a z)⟩⟩
        have q1 := Step.alloc (o := XO cls d a) rg ha
        have q2 := SStep.putF (i := L.jc) q1.rel (xr'.rep rg ha)
        have q3 := SStep.clear q2.rel L.je
        exact rest_got no1 (setF_own (fun d z => by cases z) (setF_own (fun d z => by cases z) (setF_own (fun d z => by cases z) no0))) sT2 q3.rel r
end
/-- x(lambda: body) as a value -/
theorem pd_lam {X : Cx} {B : BC} {W : WX} {ct : CT} {L : LamD} {x a q : Str} {g c P : Addr} {k : Nat} {pg : Arguments} {bg : List Stmt} {sg : Scope} {dV kV doc pm cdv cv ox : Value} {an od : Option Addr} {osl : Array (Option Value)} {N : List Str} {params : Arguments} {body : Expr} {scope : Scope} {fb : Ev} {p lpos pos : Pos}
    (kc : KitC B.C ct) (hn : N.length = L.n) (hj : L.jc ≠ L.je) (hq : X.env.qual ++ "<lambda>" = q) (hg : Gl X x) (hm : X.mg x = some (.ref g)) (hk : PySem.W.keepIn X.K (.ref g) = true)
    (lk : X.K.lookup g = some ⟨ox, od, .func (PySem.W.fnOf x x pg bg sg dV kV doc pm an cdv cv), osl⟩) (hcg : PySem.W.codeIn X.K cdv x = true) (hb : L2.Binds X.K (PySem.W.fnOf x x pg bg sg dV kV doc pm an cdv cv) [a] []) (Sg : FnScope N [a] sg) (hN : N[0]? = some a) (hva : Vis sg a)
    (hG : Gets X (k + 1) N x sg g cdv bg a q (TTL B.C L N)) (TB : TabB X.base X.mg c P) (hcode : X.env.code = .ref c) (hmT : (P, q) ∈ B.C.T) (hu : ∀ p ∈ B.C.T, p.1 = P → p.2 = q) (hr : Room (k + 2) X.A) (S : LamS X.env.scope scope) (hdef : defaultsOf params X.env = ([], []))
    (hbind : ∀ (cl : List (Str × Addr)) (pm cv ctv : Value), bindArgs (PySem.W.kla_fn "<lambda>" q params body scope cl pm cv ctv) ⟨[], []⟩ = pure [])
    (hbody : ∀ (A : Around) (outer : List Env) (s : Shared) (H : Hp) (E : XK) (f c' : Addr), Room k (A.deeper (lamEnv X scope s.heap.objs.size f c')) → A.guards = X.A.guards → ∀ B', B'.C = B.C → PD (lamCx X A outer s H E scope f c') B' (fun cls d _ H' => E cls d H') body fb)
    (hdb : (x == ("__debug__" : Str)) = false) (hd : (a == ("__debug__" : Str)) = false) (hcd : (a == ("__classdict__" : Str)) = false) :
    PD X B W (.Call (.Name x p) [.Lambda params body scope lpos] [] pos) (evLam ct L fb) :=
  PE.mono (pe_lam (t := fun E => RDx B.C (fun cls d _ H' => E cls d H') fb) hq hg hm hk lk hcg hb Sg hN hva hG TB hcode hmT hu hr S hdef hbind (fun A outer s H E f c' hr hgu => pdx fun B' hB => hbody A outer s H E f c' hr hgu B' hB) hdb hd hcd)
    fun σ H Q ⟨ρ, st, rel, r⟩ => lam_core kc hn hj rel r
end D

/-! E: a slot's own thing is written; list methods; classes as values; raise. -/
namespace D
open PySem L2 PyProof.Rows
section
variable {X : Cx} {B : BC} {W : WX} {σ : L2.St} {ρ : List CellA} {st : DS} {H : Hp} {i : Nat} {p : Addr} {d d' : DV} {o' : HO}
/-! ### xs.append(e) -/
def svApp (i : Nat) (fe : Ev) : Sv := fun st => match st.sl[i]? with
  | some (some (.lst _, true)) => (fe st).bind fun a st1 => (match (st1.eat a.2).sl[i]? with
    | some (some (.lst ds, true)) => if ds.length < sizeLine then .ok .nx ⟨(st1.eat a.2).sl.set i (some (.lst (ds ++ [a.1]), true)), (st1.eat a.2).cs⟩ else .stuck
    | _ => .stuck)
  | _ => .stuck
/-! ### xs.count(e), xs.index(e) of flat things -/
def rCntF (K : PySem.W.Frag) : V → List V → Hp → VK → Prop := fun x xs H Q => ∃ (p : Addr) (ys : List V) (y : V), x = .ref p ∧ xs = [y] ∧ SqL K H p ys ∧ flatV y = true ∧ ys.all flatV = true ∧ Q (.int (ys.countP (fun z => eqV z y) : Nat)) H
theorem count_eqU {y : V} : ∀ {ys : List V} {us : List Value}, Vals ys us → ys.all flatV = true → us.countP (eqU y) = ys.countP (fun z => eqV z y)
  | _, _, .nil, _ => rfl
  | z :: zs, u :: us, .cons r t, f => by
    rw [List.all_cons, Bool.and_eq_true] at f
    rw [List.countP_cons, List.countP_cons, count_eqU t f.2, eqU_of r f.1]
theorem mt_countF : MtR X "list.count" (rCntF X.K) := by
  intro pins s σ H x xs v us Q I rx rxs ⟨p, ys, y, e1, e2, hs, fy, fys, q⟩
  subst e1 e2
  cases rx
  obtain ⟨u, rfl, ru⟩ := rxs.one
  obtain ⟨its, rv, ⟨⟨cls, dd, data, sl⟩, n, ho, hc, hdn, hd⟩, hlen⟩ := I.list hs
  dsimp only at hc hd
  subst hc hd
  refine call_meets PySem.F.slot_list_count ⟨_, ho, rfl⟩ PySem.F.entry_list_count (PySem.F.args_list_count_2 _ _) (SeqAt.list_countAt p its.toArray n dd sl u (eqU y)) ⟨ho, fun w hw => mem_eqAt ru fy rv fys w (by simpa using hw), ?_⟩
  refine ⟨.int (ys.countP (fun z => eqV z y) : Nat), H, I.tok _, ⟨s.toks, ?_⟩, q⟩
  show Value.int ((its.toArray.toList.countP (eqU y) : Nat) : Int) s.toks = _
  rw [show its.toArray.toList = its from by simp, count_eqU rv fys]
theorem countP_map {y : DV} (hy : flat4 y = true) : ∀ {ds : List DV}, ds.all flat4 = true → (ds.map flatV').countP (fun z => eqV z (flatV' y)) = ds.countP fun d => eqF d y
  | [], _ => rfl
  | d :: ds, f => by
    rw [List.all_cons, Bool.and_eq_true] at f
    rw [List.map_cons, List.countP_cons, List.countP_cons, countP_map hy f.2, eqF_V f.1 hy]
def mCount : OpN
  | [.lst ds, a] => if flat4 a && ds.all flat4 then some (.int (ds.countP (fun d => eqF d a) : Nat), .new) else none
  | _ => none
/-- the receiver and one argument -/
theorem meth2 {C : RC} {r : V → List V → Hp → VK → Prop} {g : DV → DV → Option (DV × Kd)} (h : ∀ (B : BC), B.C = C → ∀ (σ : L2.St) (ρ : List CellA) (st : DS) (H : Hp) (ka kb : Kd) (x y : V) (a b : DV) (c : DV × Kd) (Q : VK), Rel B ρ st σ H → RepK B ρ st σ H ka x a → RepK B ρ st σ H kb y b → g a b = some c →
    (∀ v H', Step B σ ρ st H ρ st H' → RepK B ρ st σ H' c.2 v c.1 → Fresh H c.2 v → Q v H') → r x [y] H Q) : MethS C r (f2 g) := by
  intro B hB σ ρ st H xs as c Q rel rx e q
  obtain ⟨x, y, rfl, h'⟩ := calls2 h B hB σ ρ st H xs as c Q rel rx e q
  exact ⟨x, [y], rfl, h'⟩
theorem mCount_eq : mCount = f2 (fun a b => mCount [a, b]) := by
  funext l
  match l with
  | [] => rfl
  | [a] => cases a <;> rfl
  | [a, b] => rfl
  | a :: b :: c :: r => cases a <;> rfl
theorem RepK.lstSq {C : RC} {kd : Kd} {v : V} {ds : List DV} (hC : B.C = C) (r : RepK B ρ st σ H kd v (.lst ds)) : ∃ p xs, v = .ref p ∧ SqL C.K H p xs ∧ RepL B.C ρ (Av ρ B.O st σ) H xs ds := by
  obtain ⟨p, xs, rfl, e, q⟩ := r.lst
  exact ⟨p, xs, rfl, SqL.of e, q⟩
theorem RepK.flat4 {kd : Kd} {v : V} {a : DV} (h : D.flat4 a = true) (r : RepK B ρ st σ H kd v a) : v = flatV' a := RepK.flat (flat_of4 h) r
theorem s_count {C : RC} : MethS C (rCntF C.K) mCount := by
  rw [mCount_eq]
  refine meth2 fun B hB σ ρ st H ka kb x y a b c Q rel rx ry e q => ?_
  cases a <;> try (cases e; done)
  rename_i ds
  simp only [mCount] at e
  split at e
  · rename_i hf
    cases e
    rw [Bool.and_eq_true] at hf
    obtain ⟨p, xs, rfl, sq, rl⟩ := rx.lstSq hB
    have e1 := RepL.flat rl hf.2
    have e2 := ry.flat4 hf.1
    subst e1 e2
    refine ⟨p, _, _, rfl, rfl, sq, flatV_of4 hf.1, all_flatV hf.2, ?_⟩
    rw [countP_map hf.1 hf.2]
    exact ansF (d := .int _) rfl rel q
  · cases e
/-! ### an own class's name -/
def evCls (k : Nat) : Ev := fun st => .ok (.cls k, .fro) st
theorem pd_cls {k : Nat} {x : Str} {pos : Pos} (hm : X.mg x = some (.ref (B.C.cls k))) (hg : Gl X x) (hd : (x == ("__debug__" : Str)) = false) : PD X B W (.Name x pos) (evCls k) :=
  PE.mono (pe_glob hg hm (v := .ref (B.C.cls k)) rfl hd) fun σ H Q ⟨ρ, st, rel, r⟩ => Res.now rel r _ (.cls k) trivial
/-! ### raise K("..") -/
theorem psd_raiseOwn {ct : CT} {k : Nat} {x : Str} {m : Str} {j : Nat} {p1 p2 p3 pos : Pos} (hC : B.C.K = X.K) (kc : KitC B.C ct) (hk : k ∈ ct.pl) (hc : X.calm = true) (tk : Takes X W) (hm : X.mg x = some (.ref (B.C.cls k))) (hg : Gl X x) (hd : (x == ("__debug__" : Str)) = false) :
    PSD X B W (.Raise (some (.Call (.Name x p1) [.Constant (.str m) j p2] [] p3)) none pos) (svRaise k) := by
  obtain ⟨h1, h2⟩ := kc.xq k hk
  have h3 := kc.xk k h1
  have h4 := kc.xb k h1
  have h5 := kc.xt k h1
  rw [hC] at h2 h3 h4 h5
  exact psd_raise hc tk (pmk_own PySem.F.excBase_ValueError h2 hm h3 (raises_own h4 h5) hg hd)
end
end D

/-! E: the rules in short. -/
namespace D
open PySem L2 PyProof.Rows LamX
section
variable {X : Cx} {C : RC} {ct : CT} {O : Addr → Prop} {H0 : Hp} {W : WX} {k : Nat} {a b c e : Expr} {es rest body : List Expr} {fa fb fc fe : Ev} {f g : Sv} {gk : Ak} {pos p p1 p2 p3 apos cpos tpos : Pos} {x y n m : Str} {i j kk : Nat}
theorem Fx.tr (fx : Fx X C W k) {W' : WX} {pn : List (Addr × Obj)} {xe : Value → Shared → Prop} (tk : Takes (X.tr pn xe) W') : Fx (X.tr pn xe) C W' k := ⟨fx.K, fx.calm, fx.room, fx.gu, tk⟩
theorem Fx.down {l : Nat} (fx : Fx X C W k) (h : l ≤ k) : Fx X C W l := ⟨fx.K, fx.calm, fx.room.mono h, fx.gu, fx.tk⟩
theorem w_cls (j : Nat) (hm : X.mg x = some (.ref (C.cls j))) (hg : Gl X x := by rfl) (hd : (x == ("__debug__" : Str)) = false := by decide) : PD X ⟨C, O, H0⟩ W (.Name x pos) (evCls j) := pd_cls (B := ⟨C, O, H0⟩) hm hg hd
theorem w_fld (fx : Fx X C W k) (kc : KitC C ct) (he : PD X ⟨C, O, H0⟩ W e fe) (hb : attributeBase e n X.env (eval e X.env) = eval e X.env := by rfl) : PD X ⟨C, O, H0⟩ W (.Attribute e n pos) (evFld ct n fe) := pd_fld (B := ⟨C, O, H0⟩) fx.K kc he hb
theorem w_meth {T id : String} {isT : DV → Bool} {r : V → List V → Hp → VK → Prop} {fo : OpN} (fx : Fx X C W k) (pa : PlainAttrs T) (slot : PySem.Slot T n id) (hty : typeOf (.builtin id) = pure (.type "method_descriptor")) (hm : MtR X id r) (ht : TyIs C T isT) (hs : MethS C r fo)
    (ho : PD X ⟨C, O, H0⟩ W a fa) (ha : PKD X ⟨C, O, H0⟩ W (e :: es) gk) (hbase : attributeBase a n X.env (eval a X.env) = eval a X.env := by rfl)
    (hfew : ((backTo cpos (starEach (e :: es) X.env)).all (fun x => !x.1) && (backToKw cpos (keywordEach [] X.env)).all (fun x => x.1.isSome)
      && decide ((e :: es).length + ([] : List Keyword).length + (if ([] : List Keyword).isEmpty then 0 else 1) < 30)) = true := by rfl)
    (hline : (apos.endLine == cpos.line) = true := by rfl) (hst : starEach (e :: es) X.env = (false, eval e X.env) :: starEach es X.env := by rfl) (hplain : (backTo cpos (starEach es X.env)).any (·.1) = false := by rfl) :
    PD X ⟨C, O, H0⟩ W (.Call (.Attribute a n apos) (e :: es) [] cpos) (evMeth isT fo fa gk) :=
  pd_meth (B := ⟨C, O, H0⟩) fx.K pa slot hty hm ht hs ho ha hbase hfew hline hst hplain
theorem w_count (fx : Fx X C W k) (ho : PD X ⟨C, O, H0⟩ W a fa) (ha : PKD X ⟨C, O, H0⟩ W [e] gk) (hbase : attributeBase a "count" X.env (eval a X.env) = eval a X.env := by rfl)
    (hfew : ((backTo cpos (starEach [e] X.env)).all (fun x => !x.1) && (backToKw cpos (keywordEach [] X.env)).all (fun x => x.1.isSome)
      && decide (([e] : List Expr).length + ([] : List Keyword).length + (if ([] : List Keyword).isEmpty then 0 else 1) < 30)) = true := by rfl)
    (hline : (apos.endLine == cpos.line) = true := by rfl) (hst : starEach [e] X.env = (false, eval e X.env) :: starEach [] X.env := by rfl) (hplain : (backTo cpos (starEach [] X.env)).any (·.1) = false := by rfl) :
    PD X ⟨C, O, H0⟩ W (.Call (.Attribute a "count" apos) [e] [] cpos) (evMeth isLstD mCount fa gk) :=
  w_meth fx PySem.F.plainAttrs_list PySem.F.slot_list_count PySem.F.type_list_count mt_countF ty_lst (by rw [← fx.K]; exact s_count) ho ha hbase hfew hline hst hplain
/-! ### statements -/
theorem ws_raise (fx : Fx X C W k) (kc : KitC C ct) (j : Nat) (hm : X.mg x = some (.ref (C.cls j))) (hk : j ∈ ct.pl := by decide) (hg : Gl X x := by rfl) (hd : (x == ("__debug__" : Str)) = false := by decide) :
    PSD X ⟨C, O, H0⟩ W (.Raise (some (.Call (.Name x p1) [.Constant (.str m) kk p2] [] p3)) none pos) (svRaise j) := psd_raiseOwn (B := ⟨C, O, H0⟩) fx.K kc hk fx.calm fx.tk hm hg hd
theorem ws_expr (he : PD X ⟨C, O, H0⟩ W e fe) (hs : swapsWith e none pos.line X.env = pure false := by rfl) : PSD X ⟨C, O, H0⟩ W (.Expr e pos) (svExpr fe) := psd_expr he hs
theorem fromC {W : WX} {e : Expr} {fe : Ev} (h : ∀ O H0, PD X ⟨C, O, H0⟩ W e fe) : ∀ B' : BC, B'.C = C → PD X B' W e fe := fun B' hB => by
  cases B' with
  | mk C' O' H' =>
    have hB : C' = C := hB
    subst hB
    exact h O' H'
/-- a, b = x, y -/
theorem ws_par {px py pt pt2 : Pos} {k1 k2 : Nat} (i j : Nat) (fx : Fx X C W k) (hN : X.N.Nodup) (ha : ∀ O H0, PD X ⟨C, O, H0⟩ W a fa) (hb : ∀ O H0, PD X ⟨C, O, H0⟩ W b fb) (hi : X.N[i]? = some x := by rfl) (hj : X.N[j]? = some y := by rfl) (hij : i ≠ j := by decide)
    (hx : X.env.scope.names.lookup x = some .local := by rfl) (hy : X.env.scope.names.lookup y = some .local := by rfl) (hsa : starEach [a, b] X.env = (false, eval a X.env) :: starEach [b] X.env := by rfl) (hsb : starEach [b] X.env = (false, eval b X.env) :: starEach [] X.env := by rfl)
    (hw : swappedStores [.Tuple [.Name x px, .Name y py] k1 pt] (.Tuple [a, b] k2 pt2) X.env = pure (some [x, y]) := by rfl) (hs : swapsWithSole [.Tuple [.Name x px, .Name y py] k1 pt] (.Tuple [a, b] k2 pt2) pos.line X.env = pure false := by rfl) :
    PSD X ⟨C, O, H0⟩ W (.Assign [.Tuple [.Name x px, .Name y py] k1 pt] (.Tuple [a, b] k2 pt2) pos) (svThen (svPar i fa (svPar j fb svNx))) :=
  psd_par (B := ⟨C, O, H0⟩) fx.calm hN hi hj hij hx hy (fromC ha) (fromC hb) hsa hsb hw hs
/-- target = e -/
theorem ws_asg {tg : Expr} {vs : List Nat} {gv : Gv} (he : PD X ⟨C, O, H0⟩ W e fe) (hg : PGD X C vs tg gv) (hs : swapsWithSole [tg] e pos.line X.env = pure false := by rfl) (hw : swappedStores [tg] e X.env = pure none := by rfl) (h1 : (assignEach [tg] X.env).map (·.2) = [assign tg X.env] := by rfl) :
    PSD X ⟨C, O, H0⟩ W (.Assign [tg] e pos) (svAsg fe gv) := psd_asg (B := ⟨C, O, H0⟩) he hg hs hw h1
/-- x(lambda: e) -/
theorem w_lam {L : LamD} {st : Stmt} {gg cc P : Addr} {fd : FuncData} {N : List Str} {q : Str} {params : Arguments} {scope : Scope} (l : Nat) (fx : Fx X C W kk) (kc : KitC C ct) (F : Fun X.K x x st gg fd) (hm : X.mg x = some (.ref gg)) (hb : L2.Binds X.K fd [n] []) (Sg : FnScope N [n] (defScope st)) (hn : N.length = L.n)
    (hG : ∀ cdv, Gets X (l + 1) N x (defScope st) gg cdv (defBody st) n q (TTL C L N)) (TB : TabB X.base X.mg cc P) (hcode : X.env.code = .ref cc) (hmT : (P, q) ∈ C.T) (hu : ∀ p ∈ C.T, p.1 = P → p.2 = q)
    (hbody : ∀ (A : Around) (outer : List Env) (s : Shared) (H : Hp) (E : XK) (f c' : Addr), Fx (lamCx X A outer s H E scope f c') C (fun cls d _ H' => E cls d H') l → ∀ O H0, PD (lamCx X A outer s H E scope f c') ⟨C, O, H0⟩ (fun cls d _ H' => E cls d H') e fe)
    (hq : X.env.qual ++ "<lambda>" = q := by rfl) (hl : l + 2 ≤ kk := by decide) (hj : L.jc ≠ L.je := by decide) (S : lamSB X.env.scope scope = true := by rfl) (hN : N[0]? = some n := by rfl) (hva : Vis (defScope st) n := by first | exact Or.inl rfl | exact Or.inr (Or.inl rfl)) (hg : Gl X x := by rfl) (hdef : defaultsOf params X.env = ([], []) := by rfl)
    (hbind : ∀ (cl : List (Str × Addr)) (pm cv ctv : Value), bindArgs (PySem.W.kla_fn "<lambda>" q params e scope cl pm cv ctv) ⟨[], []⟩ = pure [] := by intros; rfl)
    (hdb : (x == ("__debug__" : Str)) = false := by decide) (hd : (n == ("__debug__" : Str)) = false := by decide) (hcd : (n == ("__classdict__" : Str)) = false := by decide) :
    PD X ⟨C, O, H0⟩ W (.Call (.Name x p) [.Lambda params e scope apos] [] pos) (evLam ct L fe) := by
  obtain ⟨oc, od, kV, doc, pm, an, cdv, cto, osl, rfl, lk, hcd2⟩ := F.ex
  exact pd_lam (B := ⟨C, O, H0⟩) kc hn hj hq hg hm F.kp lk hcd2 hb Sg hN hva (hG cdv) TB hcode hmT hu (fx.room.mono hl) (lamS_by S) hdef hbind (fun A outer s H E f c' hr hgu B' hB => by
    cases B' with
    | mk C' O' H' =>
      have hB : C' = C := hB
      subst hB
      exact hbody A outer s H E f c' ⟨fx.K, rfl, hr, by rw [← fx.gu, ← hgu]; rfl, takes_of rfl rfl rfl rfl⟩ O' H') hdb hd hcd
/-- the def that gets a lambda -/
theorem w_gets {L : LamD} {st : Stmt} {gg : Addr} {cdg : Value} {N : List Str} {q c e kn : Str} {rest : List Stmt} {kk : Nat} {q1 q2 q3 q4 q5 q6 q7 q8 q9 q10 q11 q12 : Pos} (fx : Fx X C W k) (l : Nat) (Sg : FnScope N [n] (defScope st)) (hm : X.mg kn = some (.ref (C.cls L.kx)))
    (hst : defBody st = .Assign [.Name c q2] (.Constant .none kk q1) q3 :: .Try [.Expr (.Call (.Name n q4) [] [] q5) q6] [.ExceptHandler (some (.Name kn q10)) (some e) [.Assign [.Name c q8] (.Name e q7) q9] q11] [] [] q12 :: rest)
    (hrest : ∀ (s : Shared) (H : Hp) (O : Addr → Prop), Fx (gotCx X N x (defScope st) gg cdg s H) C WF l → PSsD (gotCx X N x (defScope st) gg cdg s H) ⟨C, O, H⟩ WF rest L.rest)
    (h0 : N[0]? = some n := by rfl) (hjc : N[L.jc]? = some c := by rfl) (hje : N[L.je]? = some e := by rfl) (hne : L.jc ≠ 0 := by decide) (hle : (defScope st).names.lookup e = some .local := by rfl) (hlc : (defScope st).names.lookup c = some .local := by rfl) (hk : (defScope st).names.lookup kn = some .globalImplicit := by rfl) (hdk : (kn == ("__debug__" : Str)) = false := by decide)
    (hde : (e == ("__debug__" : Str)) = false := by decide) (hce : (e == ("__classdict__" : Str)) = false := by decide) (hkind : (defScope st).kind = .function := by rfl)
    (s1 : ∀ s H, swapsWith (.Constant .none kk q1) (some (.Name c q2)) q3.line (gotCx X N x (defScope st) gg cdg s H).env = pure false := by intros; rfl)
    (s2 : ∀ s H pn xe, swapsWith (.Call (.Name n q4) [] [] q5) none q6.line ((gotCx X N x (defScope st) gg cdg s H).tr pn xe).env = pure false := by intros; rfl)
    (s3 : ∀ s H aa pn, swapsWith (.Name e q7) (some (.Name c q8)) q9.line ((gotCx X N x (defScope st) gg cdg s H).suite aa pn).env = pure false := by intros; rfl) :
    Gets X l N x (defScope st) gg cdg (defBody st) n q (TTL C L N) := by
  rw [hst]
  exact gets_of fx.K fx.gu Sg.nd h0 hjc hje hne hle hlc hk hm hdk hde hce hkind (fun s H O hr => hrest s H O ⟨fx.K, rfl, hr, by rw [← fx.gu]; rfl, takesF⟩) s1 s2 s3
end
end D

/-! E: what the top has written, looked at. -/
namespace D
open PySem L2 PyProof.Rows LamX
section
variable {K : PySem.W.Frag}
/-- the classes' addresses -/
def clsOf (l : List (Nat × Addr)) : Nat → Addr := fun k => (l.lookup k).getD 0
theorem tabIn_of {x : Str} {f c P : Addr} {oc o2 : Value} {od d2 : Option Addr} {fd : FuncData} {sl s2 : Array (Option Value)} {vs : Array Value} (a : PySem.W.nsIn K mainGlobals x = some (some (.ref f))) (l : K.lookup f = some ⟨oc, od, .func fd, sl⟩) (hc : fd.code = .ref c)
    (lc : K.lookup c = some ⟨o2, d2, .fields vs, s2⟩) (hp : vs[11]? = some (.ref P)) : PySem.W.tabIn K x = some (c, P) := by
  unfold PySem.W.tabIn
  rw [a]
  dsimp only
  rw [l]
  dsimp only
  rw [hc]
  dsimp only
  rw [lc]
  dsimp only
  rw [hp]
/-- one class looked at -/
def oneB (K : PySem.W.Frag) (ct : CT) (c : Nat) (C : Addr) : Bool :=
  decide (PySem.W.findIn K (.ref C) "__class__" = some (some (.builtin "object.__class__"))) && (decide (PySem.W.mroIn K C (.type "object") = some true) &&
  (kinds.all (fun T => decide (PySem.W.kitOne K (.type T) (.ref C) = some false)) && tested.all fun T => decide (PySem.W.kitOne K (.ref C) (.type T) = some (decide (T = "ValueError") && ct.ex.contains c))))
def excB (K : PySem.W.Frag) (C : Addr) : Bool :=
  (PySem.W.clsIn K C).isSome && (decide (PySem.W.findIn K (.ref C) "__getattribute__" = some (some (.builtin "BaseException.__getattribute__"))) && (decide (PySem.W.findIn K (.ref C) "__getattr__" = some none) && (decide (PySem.W.subIn K (.ref C) (.type "BaseException") = some true) &&
  (PySem.W.hasDictIn K C && (decide (PySem.W.typeIn K (.ref C) = some (.type "type")) && PySem.W.keepIn K (.ref C))))))
def kitCB (K : PySem.W.Frag) (cls : Nat → Addr) (ct : CT) : Bool :=
  decide (PySem.W.specialIn K (.builtin "object.__class__") "__get__" = some (some (.builtin "getset_descriptor.__get__"))) && (decide (PySem.W.takesIn K (.builtin "object.__class__") = some true) &&
  ((ct.ins ++ ct.ex).all (fun c => oneB K ct c (cls c)) && (ct.ex.all (fun c => excB K (cls c)) &&
  (ct.ins.all (fun c => ct.ins.all fun c' => decide (PySem.W.kitOne K (.ref (cls c)) (.ref (cls c')) = some (decide (c = c')))) && (ct.ins.all (fun c => ct.ex.all fun c' => decide (PySem.W.kitOne K (.ref (cls c)) (.ref (cls c')) = some false)) &&
  (ct.ex.all (fun c => ct.ins.all fun c' => decide (PySem.W.kitOne K (.ref (cls c)) (.ref (cls c')) = some false)) && (ct.ex.all (fun c => ct.ex.all fun c' => decide (PySem.W.kitOne K (.ref (cls c)) (.ref (cls c')) = some (ct.sub c c')) && decide (PySem.W.exmOne K (.ref (cls c)) (.ref (cls c')) = some (ct.sub c c'))) &&
  (ct.pl.all (fun c => ct.ex.contains c && PySem.W.excIn K (cls c) [.type "ValueError", .type "Exception", .type "BaseException", .type "object"] "ValueError.__new__") && ct.fe.all fun p => ct.ex.contains p.1 && decide (PySem.W.findIn K (.ref (cls p.1)) p.2 = some none)))))))))
theorem kitCB_ok {cls : Nat → Addr} {ct : CT} {T : List (Addr × Str)} (h : kitCB K cls ct = true) (hc : ∀ c ∈ ct.ins, Cls K (cls c)) (hf : ∀ p ∈ ct.fi, p.1 ∈ ct.ins ∧ NoAttr K (cls p.1) p.2) : KitC ⟨K, cls, T⟩ ct := by
  unfold kitCB oneB excB at h
  simp only [Bool.and_eq_true, List.all_eq_true, decide_eq_true_eq, List.contains_iff_mem] at h
  obtain ⟨h1, h2, h3, h4, h5, h6, h7, h8, h9, h10⟩ := h
  exact { cls := hc, nf := hf
          ha := fun c m => (h3 c m).1, hn := fun _ _ => h1, tk := fun _ _ => h2, mr := fun c m => (h3 c m).2.1, tc := fun c m => (h3 c m).2.2.1, tt := fun c m => (h3 c m).2.2.2
          cc := h5, ce := h6, ec := h7, ee := fun c m c' m' => (h8 c m c' m').1, ek := fun c m c' m' => (h8 c m c' m').2
          xs := fun c m => (h4 c m).1, xa := fun c m => (h4 c m).2.1, xg := fun c m => (h4 c m).2.2.1, xb := fun c m => (h4 c m).2.2.2.1, xd := fun c m => (h4 c m).2.2.2.2.1, xt := fun c m => (h4 c m).2.2.2.2.2.1, xk := fun c m => (h4 c m).2.2.2.2.2.2
          xq := h9, nx := h10 }
end
end D

/-! E: tuples that the top has written. -/
namespace D
open PySem L2 PyProof.Rows
def flatOf : Value → Option (V × DV)
  | .int i _ => some (.int i, .int i)
  | .str s _ => some (.str s, .str s)
  | _ => none
def flatsOf : List Value → Option (List V × List DV)
  | [] => some ([], [])
  | v :: vs => match flatOf v, flatsOf vs with | some (a, d), some (as, ds) => some (a :: as, d :: ds) | _, _ => none
theorem flatOf_ok {C : RC} {ρ : List CellA} {A : Addr → Prop} {H : Hp} {v : Value} {a : V} {d : DV} (h : flatOf v = some (a, d)) : RelV a v ∧ Rep C ρ A H a d := by
  cases v <;> simp only [flatOf, Option.some.injEq, Prod.mk.injEq] at h <;> first
    | (obtain ⟨rfl, rfl⟩ := h; exact ⟨⟨_, rfl⟩, .int _⟩)
    | (obtain ⟨rfl, rfl⟩ := h; exact ⟨⟨_, rfl⟩, .str _⟩)
    | cases h
theorem flatsOf_ok {C : RC} {ρ : List CellA} {A : Addr → Prop} {H : Hp} : ∀ {vs : List Value} {as : List V} {ds : List DV}, flatsOf vs = some (as, ds) → Vals as vs ∧ RepL C ρ A H as ds
  | [], _, _, h => by cases h; exact ⟨.nil, .nil⟩
  | v :: vs, as, ds, h => by
    unfold flatsOf at h
    cases e1 : flatOf v with
    | none => rw [e1] at h; cases h
    | some p =>
      cases e2 : flatsOf vs with
      | none => rw [e1, e2] at h; cases h
      | some q =>
        obtain ⟨a, d⟩ := p
        obtain ⟨as', ds'⟩ := q
        rw [e1, e2] at h
        cases h
        have h1 := flatOf_ok (C := C) (ρ := ρ) (A := A) (H := H) e1
        have h2 := flatsOf_ok (C := C) (ρ := ρ) (A := A) (H := H) e2
        exact ⟨.cons h1.1 h2.1, .cons h1.2 h2.2⟩
/-- the tuple that lies there -/
def tupIn (K : PySem.W.Frag) (a : Addr) : Option (List DV) := match K.lookup a with
  | some ⟨.type t, _, .seq its _, _⟩ => if t = "tuple" ∧ its.size ≤ sizeLine then (flatsOf its.toList).map (·.2) else none
  | _ => none
theorem tupIn_ok {C : RC} {ρ : List CellA} {A : Addr → Prop} {H : Hp} {a : Addr} {ds : List DV} (h : tupIn C.K a = some ds) : Rep C ρ A H (.ref a) (.tup ds) := by
  unfold tupIn at h
  split at h
  · rename_i t x its n y e
    split at h
    · rename_i hc
      obtain ⟨rfl, hs⟩ := hc
      cases e2 : flatsOf its.toList with
      | none => rw [e2] at h; cases h
      | some p =>
        obtain ⟨as, ds'⟩ := p
        rw [e2] at h
        cases h
        have h2 := flatsOf_ok (C := C) (ρ := ρ) (A := A) (H := H) e2
        exact .ktup ⟨_, its, n, e, rfl, rfl, hs, h2.1⟩ h2.2
    · cases h
  · cases h
def evG (d : DV) : Ev := fun st => .ok (d, .fro) st
section
variable {X : Cx} {C : RC} {W : WX} {O : Addr → Prop} {H0 : Hp} {x : Str} {pos : Pos} {ds : List DV}
theorem w_gtup (hm : ∃ a, X.mg x = some (.ref a) ∧ tupIn C.K a = some ds) (hg : Gl X x := by rfl) (hd : (x == ("__debug__" : Str)) = false := by decide) : PD X ⟨C, O, H0⟩ W (.Name x pos) (evG (.tup ds)) := by
  obtain ⟨a, h, ht⟩ := hm
  exact PE.mono (pe_glob hg h (v := .ref a) rfl hd) fun σ H Q ⟨ρ, st, rel, r⟩ => Res.now rel r _ (tupIn_ok ht) trivial
end
end D

/-! E: xs[i] = v into an own list. -/
namespace D
open PySem L2 PyProof.Rows
section
variable {X : Cx} {B : BC} {W : WX} {i : Nat}
def svSetIx (i : Nat) (fi fe : Ev) : Sv := fun st => match st.sl[i]? with
  | some (some (.lst _, true)) => (fe st).bind fun a st1 => (fi (st1.eat a.2)).bind fun j st2 => (match st2.sl[i]?, j.1 with
    | some (some (.lst ds, true)), .int k => (match ixN ds.length k with | some m => .ok .nx ⟨st2.sl.set i (some (.lst (ds.set m a.1), true)), st2.cs⟩ | none => .stuck)
    | _, _ => .stuck)
  | _ => .stuck
end
section
variable {X : Cx} {C : RC} {W : WX} {O : Addr → Prop} {H0 : Hp} {x : Str} {pos p1 p2 : Pos} {e ie : Expr} {fe fi : Ev}
end
end D

/-! E: list(range(..)), methods of texts, calls by keywords. -/
namespace D
open PySem L2 PyProof.Rows
/-! ### list(range(..)) -/
instance {a b : Int} : Decidable (RgOk a b) := by unfold RgOk; infer_instance
def evLR1 (fa : Ev) : Ev := fun st => (fa st).bind fun a st1 => match a.1 with
  | .int j => if RgOk 0 j then .ok (.lst (rangeL 0 (j - 0).toNat), .new) st1 else .stuck
  | _ => .stuck
def evLR2 (fa fb : Ev) : Ev := fun st => (fa st).bind fun a st1 => (fb st1).bind fun b st2 => match a.1, b.1 with
  | .int i, .int j => if RgOk i j then .ok (.lst (rangeL i (j - i).toNat), .new) st2 else .stuck
  | _, _ => .stuck
theorem repL_rg {C : RC} {ρ : List CellA} {A : Addr → Prop} {H : Hp} (i : Int) : ∀ l : List Nat, RepL C ρ A H (l.map fun k => V.int (i + (k : Nat))) (l.map fun k => DV.int (i + (k : Nat)))
  | [] => .nil
  | k :: l => .cons (.int _) (repL_rg i l)
section
variable {X : Cx} {B : BC} {W : WX} {a b : Expr} {fa fb : Ev} {p q pos pos' : Pos}
theorem pd_lr1 (hc : X.calm = true) (hg : Gl X "list") (hm : X.mg "list" = none) (hg' : Gl X "range") (hm' : X.mg "range" = none) (ha : PD X B W a fa)
    (na : starEach [.Call (.Name "range" q) [a] [] pos'] X.env = (false, eval (.Call (.Name "range" q) [a] [] pos') X.env) :: starEach [] X.env) (na' : starEach [a] X.env = (false, eval a X.env) :: starEach [] X.env) :
    PD X B W (.Call (.Name "list" p) [.Call (.Name "range" q) [a] [] pos'] [] pos) (evLR1 fa) := by
  refine PE.mono (pe_listRg hc hg hm (prg_1 hg' hm' ha na') na) fun σ H Q ⟨ρ, st, rel, res⟩ => ?_
  refine RD.go rel (Res.bind res) fun a st1 ρ1 H1 s1 r1 x rx fx => ?_
  split at r1
  case h_2 => exact r1.elim
  rename_i j ea
  rw [ea] at rx
  split at r1
  case isFalse => exact r1.elim
  rename_i ok
  obtain rfl := rx.int
  exact ⟨j, rfl, ok, fun l hl => r1 _ _ (Step.alloc s1.rel hl) _ (RepK.newLst s1.rel hl (repL_rg 0 _)) fun m e => by cases e; exact none_of_dm s1.dm hl⟩
end
section
variable {X : Cx} {C : RC} {O : Addr → Prop} {H0 : Hp} {W : WX} {k : Nat} {a b : Expr} {fa fb : Ev} {p q pos pos' : Pos}
theorem w_lr1 (fx : Fx X C W k) (hm : X.mg "list" = none) (hm' : X.mg "range" = none) (ha : PD X ⟨C, O, H0⟩ W a fa) (hg : Gl X "list" := by rfl) (hg' : Gl X "range" := by rfl)
    (na : starEach [.Call (.Name "range" q) [a] [] pos'] X.env = (false, eval (.Call (.Name "range" q) [a] [] pos') X.env) :: starEach [] X.env := by rfl) (na' : starEach [a] X.env = (false, eval a X.env) :: starEach [] X.env := by rfl) :
    PD X ⟨C, O, H0⟩ W (.Call (.Name "list" p) [.Call (.Name "range" q) [a] [] pos'] [] pos) (evLR1 fa) := pd_lr1 fx.calm hg hm hg' hm' ha na na'
end
/-! ### texts -/
def mUpper : OpN
  | [.str a] => if a.length ≤ 5592405 then some (.str (Txt.upper a), .new) else none
  | _ => none
def mSindex : OpN
  | [.str a, .str b] => match Builtin.Str.occurrences a b 0 a.length 1 with
    | i :: _ => some (.int (i : Nat), .new)
    | [] => none
  | _ => none
section
variable {C : RC}
theorem s_sindex : MethS C (fun x xs H Q => ∃ a b i rest, x = .str a ∧ xs = [.str b] ∧ Builtin.Str.occurrences a b 0 a.length 1 = i :: rest ∧ Q (.int (i : Nat)) H) mSindex := by
  intro B hB σ ρ st H xs as c Q rel rx e q
  unfold mSindex at e
  split at e
  case h_2 => cases e
  rename_i a b ea
  split at e
  case h_2 => cases e
  rename_i i rest eo
  cases e
  obtain ⟨v, w, kd, kd', rfl, r1, r2⟩ := two_of rx ea
  obtain rfl := r1.str
  obtain rfl := r2.str
  exact ⟨_, _, rfl, a, b, i, rest, rfl, rfl, eo, ansF (d := .int _) rfl rel q⟩
theorem s_upper : MethS C (fun x xs H Q => ∃ a, x = .str a ∧ xs = [] ∧ a.length ≤ 5592405 ∧ Q (.str (Txt.upper a)) H) mUpper := by
  intro B hB σ ρ st H xs as c Q rel rx e q
  unfold mUpper at e
  split at e
  case h_2 => cases e
  rename_i a ea
  split at e
  case isFalse => cases e
  rename_i hc
  cases e
  obtain ⟨v, kd, rfl, r1⟩ := one_of rx ea
  obtain rfl := r1.str
  exact ⟨_, _, rfl, a, rfl, rfl, hc, ansF (d := .str _) rfl rel q⟩
end
section
variable {X : Cx} {C : RC} {O : Addr → Prop} {H0 : Hp} {W : WX} {k : Nat} {a e : Expr} {fa : Ev} {gk : Ak} {apos cpos : Pos}
theorem w_sm {n : Str} {id : String} {r : V → List V → Hp → VK → Prop} {fo : OpN} (fx : Fx X C W k) (slot : PySem.Slot "str" n id) (hty : typeOf (.builtin id) = pure (.type "method_descriptor")) (hm : MtR X id r) (hs : MethS C r fo)
    (ho : PD X ⟨C, O, H0⟩ W a fa) (ha : PKD X ⟨C, O, H0⟩ W [e] gk) (hbase : attributeBase a n X.env (eval a X.env) = eval a X.env := by rfl)
    (hfew : ((backTo cpos (starEach [e] X.env)).all (fun x => !x.1) && (backToKw cpos (keywordEach [] X.env)).all (fun x => x.1.isSome)
      && decide (([e] : List Expr).length + ([] : List Keyword).length + (if ([] : List Keyword).isEmpty then 0 else 1) < 30)) = true := by rfl)
    (hline : (apos.endLine == cpos.line) = true := by rfl) (hst : starEach [e] X.env = (false, eval e X.env) :: starEach [] X.env := by rfl) (hplain : (backTo cpos (starEach [] X.env)).any (·.1) = false := by rfl) :
    PD X ⟨C, O, H0⟩ W (.Call (.Attribute a n apos) [e] [] cpos) (evMeth isStrD fo fa gk) :=
  pd_meth (B := ⟨C, O, H0⟩) fx.K PySem.F.plainAttrs_str slot hty hm ty_str hs ho ha hbase hfew hline hst hplain
theorem w_sindex (fx : Fx X C W k) (ho : PD X ⟨C, O, H0⟩ W a fa) (ha : PKD X ⟨C, O, H0⟩ W [e] gk) (hbase : attributeBase a "index" X.env (eval a X.env) = eval a X.env := by rfl)
    (hfew : ((backTo cpos (starEach [e] X.env)).all (fun x => !x.1) && (backToKw cpos (keywordEach [] X.env)).all (fun x => x.1.isSome)
      && decide (([e] : List Expr).length + ([] : List Keyword).length + (if ([] : List Keyword).isEmpty then 0 else 1) < 30)) = true := by rfl)
    (hline : (apos.endLine == cpos.line) = true := by rfl) (hst : starEach [e] X.env = (false, eval e X.env) :: starEach [] X.env := by rfl) (hplain : (backTo cpos (starEach [] X.env)).any (·.1) = false := by rfl) :
    PD X ⟨C, O, H0⟩ W (.Call (.Attribute a "index" apos) [e] [] cpos) (evMeth isStrD mSindex fa gk) := w_sm fx PySem.F.slot_str_index PySem.F.type_str_index mt_sindex s_sindex ho ha hbase hfew hline hst hplain
theorem w_upper (fx : Fx X C W k) (ho : PD X ⟨C, O, H0⟩ W a fa) (hbase : attributeBase a "upper" X.env (eval a X.env) = eval a X.env := by rfl) (hline : (apos.endLine == cpos.line) = true := by rfl) :
    PD X ⟨C, O, H0⟩ W (.Call (.Attribute a "upper" apos) [] [] cpos) (evMeth isStrD mUpper fa akNil) := pd_meth0 (B := ⟨C, O, H0⟩) fx.K PySem.F.plainAttrs_str PySem.F.slot_str_upper PySem.F.type_str_upper mt_upper ty_str s_upper ho hbase hline
end
/-! ### calls by keywords: all parameters given, nothing by position -/
def permL {α : Type} : List Nat → List α → Option (List α)
  | [], _ => some []
  | i :: π, as => match as[i]?, permL π as with
    | some a, some r => some (a :: r)
    | _, _ => none
def permK {α : Type} (π : List Nat) (as : List α) : Option (List α) := if as.length = π.length then permL π as else none
def akPerm (π : List Nat) (g : Ak) : Ak := fun st => (g st).bind fun as st1 => match permK π as with
  | some bs => .ok bs st1
  | none => .stuck
def permD {α : Type} (π : List Nat) (as : List α) : List α := (permL π as).getD []
theorem permL_rep {B : BC} {ρ : List CellA} {st : DS} {σ : L2.St} {H : Hp} {xs : List V} {as : List (DV × Kd)} (r : RepKs B ρ st σ H xs as) : ∀ {π : List Nat} {bs : List (DV × Kd)}, permL π as = some bs → ∃ ys, permL π xs = some ys ∧ RepKs B ρ st σ H ys bs := by
  have get : ∀ {xs : List V} {as : List (DV × Kd)} {i : Nat} {a : DV × Kd}, RepKs B ρ st σ H xs as → as[i]? = some a → ∃ x, xs[i]? = some x ∧ RepK B ρ st σ H a.2 x a.1 := fun {xs as i a} r => by
    induction r generalizing i with
    | nil => intro e; simp at e
    | cons h t ih =>
      intro e
      cases i with
      | zero => simp at e; subst e; exact ⟨_, rfl, h⟩
      | succ i =>
        obtain ⟨x, e1, e2⟩ := ih (by simpa using e)
        exact ⟨x, by simpa using e1, e2⟩
  intro π
  induction π with
  | nil => intro bs e; cases e; exact ⟨[], rfl, .nil⟩
  | cons i π ih =>
    intro bs e
    unfold permL at e
    split at e
    case h_2 => cases e
    rename_i a r' e1 e2
    cases e
    obtain ⟨x, e3, rx⟩ := get r e1
    obtain ⟨ys, e4, ry⟩ := ih e2
    refine ⟨x :: ys, ?_, .cons rx ry⟩
    unfold permL
    rw [e3, e4]
theorem vals_perm {π : List Nat} {xs : List V} {us : List Value} (r : Vals xs us) : Vals (permD π xs) (permD π us) := by
  have get1 : ∀ {xs : List V} {us : List Value}, Vals xs us → ∀ i : Nat, (xs[i]? = none ∧ us[i]? = none) ∨ ∃ x u, xs[i]? = some x ∧ us[i]? = some u ∧ RelV x u := fun {xs us} r => by
    induction r with
    | nil => intro i; exact .inl ⟨by simp, by simp⟩
    | cons h t ih =>
      intro i
      cases i with
      | zero => exact .inr ⟨_, _, rfl, rfl, h⟩
      | succ i => simpa using ih i
  have key : (permL π xs = none ∧ permL π us = none) ∨ ∃ ys ws, permL π xs = some ys ∧ permL π us = some ws ∧ Vals ys ws := by
    induction π with
    | nil => exact .inr ⟨[], [], rfl, rfl, .nil⟩
    | cons i π ih =>
      rcases get1 r i with ⟨e1, e2⟩ | ⟨x, u, e1, e2, ru⟩
      · exact .inl ⟨by unfold permL; rw [e1], by unfold permL; rw [e2]⟩
      · rcases ih with ⟨e3, e4⟩ | ⟨ys, ws, e3, e4, rw'⟩
        · exact .inl ⟨by unfold permL; rw [e1, e3], by unfold permL; rw [e2, e4]⟩
        · exact .inr ⟨x :: ys, u :: ws, by unfold permL; rw [e1, e3], by unfold permL; rw [e2, e4], .cons ru rw'⟩
  unfold permD
  rcases key with ⟨e3, e4⟩ | ⟨ys, ws, e3, e4, rw'⟩
  · rw [e3, e4]; exact .nil
  · rw [e3, e4]; exact rw'
theorem PK.mono {X : Cx} {e : List Keyword} {t t' : TA} (h : PK X e t) (m : ∀ σ H Q, t' σ H Q → t σ H Q) : PK X e t' := ⟨fun pos pins s σ H Q I r => h.run pos pins s σ H Q I (m _ _ _ r)⟩
def PWKD (X : Cx) (B : BC) (W : WX) (kws : List Keyword) (f : Ak) : Prop := PK X kws (RK B W f)
section
variable {X : Cx} {B : BC} {W : WX} {e : Expr} {kws : List Keyword} {f : Ev} {g : Ak} {pos kpos : Pos} {nm : Option Str}
theorem pwkd_nil : PWKD X B W [] akNil := PK.mono pk_nil fun σ H Q ⟨ρ, st, rel, res⟩ => Res.now rel res [] .nil
theorem pwkd_cons (he : PD X B W e f) (hr : PWKD X B W kws g) : PWKD X B W (⟨nm, e, kpos⟩ :: kws) (akCons f g) := by
  refine PK.mono (pk_cons he hr) fun σ H Q ⟨ρ, st, rel, res⟩ => ?_
  refine RD.go rel (Res.bind res) fun a st1 ρ1 H1 s1 r1 x rx fx => ?_
  refine RK.go s1.rel (Res.bind r1) fun as st3 ρ3 H3 s3 r3 vs rv => ?_
  exact Res.now s3.rel r3 (x :: vs) (.cons (RepK.step s3 rx) rv)
end
/-- the keywords ks, in this order, are the parameters by π -/
structure KwB (K : PySem.W.Frag) (fd : FuncData) (ps ks : List Str) (π : List Nat) : Prop where
  to : ∀ (s : Shared) (ws : List Value), K.In s.heap → ws.length = ks.length → BindsTo s fd ⟨[], ks.zip ws⟩ (ps.zip (permD π ws))
section
variable {X : Cx} {B : BC} {W : WX} {F : Fn} {g : Ak} {k : Nat} {f : Addr} {fd : FuncData} {ps ks : List Str} {π : List Nat} {x : Str} {p pos : Pos} {kws : List Keyword} {sp : Sp} {E : L2.St → XK} {t : TA}
def tCallW (π : List Nat) (n : Nat) (sp : Sp) (E : L2.St → XK) (t : TA) : TE := fun σ H Q => t σ H fun vs H1 => vs.length = n ∧ sp (permD π vs) H1 Q (E σ)
theorem pe_callW (F : FnG X.prog X.w X.K X.mg X.base k f fd ps sp) (hr : Room k X.A) (hgu : X.A.guards = some []) (hg : Gl X x) (hm : X.mg x = some (.ref f)) (hk : PySem.W.keepIn X.K (.ref f) = true) (hb : KwB X.K fd ps ks π) (hx : ∀ σ, PassesAt (L2.CX X.prog X.w) X σ (E σ))
    (hkw : PK X kws t) (hall : (backToKw pos (keywordEach kws X.env)).all (·.1.isSome) = true) (hks : (backToKw pos (keywordEach kws X.env)).filterMap (·.1) = ks)
    (hdb : (x == ("__debug__" : Str)) = false) (hpl : ((backTo pos (starEach [] X.env)).any (·.1) || (backToKw pos (keywordEach kws X.env)).any (·.1.isNone)) = false) :
    PE X (.Call (.Name x p) [] kws pos) (tCallW π ks.length sp E t) := by
  refine ⟨fun pins s σ H Q I h => ?_⟩
  refine wpAny_Call_Name_kw (ld_glob I hg hm ?_ hdb)
  refine PySem.W.callWith_KW0 (h₀ := X.base) I.ok.mod.kin hk hall (thn (hkw.run pos pins s σ H _ I h) fun ws s2 ⟨zs, H2, I2, rz, hl, q2⟩ => ⟨I2.kIn, ?_⟩) hpl
  rw [hks]
  have r2 : Vals (permD π zs) (permD π ws) := vals_perm rz
  have l2 : ws.length = ks.length := rz.length.symm.trans hl
  refine wpAny_call (codeAny_mono (F.run X.A X.stack s2 H2 ⟨[], ks.zip ws⟩ (permD π ws) (permD π zs) Q (E σ) hr hgu I2.env0 (hb.to s2 ws I2.kIn l2) r2 q2) fun r s' hq => ?_)
  cases r with
  | error e => exact hx σ pins H2 s2 e s' I2 hq
  | ok fl =>
    cases fl with
    | ret u => exact I2.after hq
    | next => exact False.elim hq
    | brk => exact False.elim hq
    | cont => exact False.elim hq
theorem tCallW_of {σ : L2.St} {H : Hp} {Q : VK} (h : RD B W (evFn F (akPerm π g)) σ H Q) : tCallW π π.length (SpF B.C F) (WE W) (RK B W g) σ H Q := by
  obtain ⟨ρ, st, rel, res⟩ := h
  have res' : Res B W σ ρ st H ((g st).bind fun as st1 => match permK π as with
      | some bs => backTo' st1.sl bs (F (bs.map (·.1)) ⟨[], st1.cs⟩)
      | none => .stuck) (GE B σ H Q) := by
    unfold evFn akPerm at res
    cases e : g st with
    | ok a st1 =>
      rw [e] at res
      have res : Res B W σ ρ st H (Out.bind (match permK π a with | some bs => Out.ok bs st1 | none => .stuck) fun (as : List (DV × Kd)) (st1 : DS) => backTo' st1.sl as (F (as.map fun z : DV × Kd => z.1) ⟨[], st1.cs⟩)) (GE B σ H Q) := res
      show Res B W σ ρ st H (match permK π a with | some bs => backTo' st1.sl bs (F (bs.map (·.1)) ⟨[], st1.cs⟩) | none => .stuck) (GE B σ H Q)
      cases e2 : permK π a with
      | none => rw [e2] at res; exact res
      | some bs => rw [e2] at res; exact res
    | exc x st1 => rw [e] at res; exact res
    | stuck => rw [e] at res; exact res
  refine RK.go rel (Res.bind res') fun as st1 ρ1 H1 s1 r1 vs rv => ?_
  cases e2 : permK π as with
  | none => rw [e2] at r1; exact r1.elim
  | some bs =>
    rw [e2] at r1
    unfold permK at e2
    split at e2
    case isFalse => cases e2
    rename_i hl
    obtain ⟨ys, e3, ry⟩ := permL_rep rv e2
    have q := spF_of s1.rel ry (r1.imp fun _ _ _ _ _ => GE.dm s1.dm _ _ _ _)
    have e4 : permD π vs = ys := by unfold permD; rw [e3]; rfl
    rw [e4]
    refine ⟨?_, q⟩
    have len : ∀ {xs : List V} {as : List (DV × Kd)}, RepKs B ρ1 st1 σ H1 xs as → xs.length = as.length := fun {xs as} r => by
      induction r with
      | nil => rfl
      | cons _ _ ih => simp [ih]
    rw [len rv, hl]
end
section
variable {X : Cx} {C : RC} {O : Addr → Prop} {H0 : Hp} {W : WX} {F : Fn} {gk : Ak} {k l : Nat} {fa : Addr} {fd : FuncData} {ps : List Str} {x : Str} {p pos : Pos} {kws : List Keyword}
theorem w_fnW (π : List Nat) (ks : List Str) (fx : Fx X C W k) (Fk : FnG X.prog X.w X.K X.mg X.base l fa fd ps (SpF C F)) (hm : X.mg x = some (.ref fa)) (hk : PySem.W.keepIn X.K (.ref fa) = true) (hb : KwB X.K fd ps ks π)
    (ha : PWKD X ⟨C, O, H0⟩ W kws gk) (hl : l ≤ k := by decide) (hkl : π.length = ks.length := by rfl) (hg : Gl X x := by rfl) (hall : (backToKw pos (keywordEach kws X.env)).all (·.1.isSome) = true := by rfl) (hks : (backToKw pos (keywordEach kws X.env)).filterMap (·.1) = ks := by rfl)
    (hdb : (x == ("__debug__" : Str)) = false := by decide) (hpl : ((backTo pos (starEach [] X.env)).any (·.1) || (backToKw pos (keywordEach kws X.env)).any (·.1.isNone)) = false := by rfl) :
    PD X ⟨C, O, H0⟩ W (.Call (.Name x p) [] kws pos) (evN (evFn F (akPerm π gk))) :=
  pd_n (PE.mono (pe_callW (E := WE W) (π := π) (ks := ks) Fk (fx.room.mono hl) fx.gu hg hm hk hb (passAt fx.tk) ha hall hks hdb hpl) fun _ _ _ h => by rw [← hkl]; exact tCallW_of (B := ⟨C, O, H0⟩) h)
end
theorem fun_kwb {K : PySem.W.Frag} {x qual : Str} {st : Stmt} {f : Addr} {fd : FuncData} {ps ks : List Str} {π : List Nat} (F : Fun K x qual st f fd)
    (h : ∀ (kV doc pm : Value) (an : Option Addr) (cdv ct : Value) (ws : List Value), ws.length = ks.length → bindArgs (PySem.W.fnOf x qual (defArgs st) (defBody st) (defScope st) .none kV doc pm an cdv ct) ⟨[], ks.zip ws⟩ = pure (ps.zip (permD π ws))) : KwB K fd ps ks π := by
  obtain ⟨oc, od, kV, doc, pm, an, cdv, ct, osl, rfl, lk, hcd⟩ := F.ex
  exact ⟨fun s ws _ hl => .of_eq (h kV doc pm an cdv ct ws hl)⟩
theorem w_r3 {X : Cx} {C : RC} {O : Addr → Prop} {H0 : Hp} {W : WX} {tg a b c : Expr} {p pos : Pos} {gk : Ak} (hm : X.mg "range" = none) (ha : PKD X ⟨C, O, H0⟩ W [a, b, c] gk) (hg : Gl X "range" := by rfl) (hs : starEach [a, b, c] X.env = (false, eval a X.env) :: starEach [b, c] X.env := by rfl) (hpl : (backTo pos (starEach [b, c] X.env)).any (·.1) = false := by rfl) :
    PID X ⟨C, O, H0⟩ W tg (.Call (.Name "range" p) [a, b, c] [] pos) (ivR3 gk) := pid_range3 hg hm ha hs hpl
end D

/-! E: enumerate of a tuple. -/
namespace D
open PySem PySem.Spec PyProof.Rows L2 Sem
open AutoSeq1 (wpAny_loadPart')
section
variable {prog : Program} {w : World} {A : Around} {E : Value → Shared → Prop} {s : Shared}
end
theorem PI.or {X : Cx} {tg e : Expr} {t t' : TI} (h : PI X tg e t) (h' : PI X tg e t') : PI X tg e (fun σ H R => t σ H R ∨ t' σ H R) := ⟨fun pins s σ H R I r => r.elim (h.run pins s σ H R I) (h'.run pins s σ H R I)⟩
section
variable {C : RC} {ρ : List CellA} {H : Hp}
end
def ivEnumX (g : Ak) : Iv := fun st => (g st).bind fun (as : List (DV × Kd)) st1 => match as with
  | [a] => (match a.1 with
    | .lst ds => .ok (enumL ds) (st1.eat a.2)
    | .tup ds => .ok (enumL ds) (st1.eat a.2)
    | _ => .stuck)
  | _ => .stuck
section
variable {X : Cx} {B : BC} {W : WX} {g : Ak} {a : Expr} {p pos : Pos}
end
section
variable {X : Cx} {C : RC} {O : Addr → Prop} {H0 : Hp} {W : WX} {k : Nat} {a : Expr} {p pos : Pos} {gk : Ak}
end
/-! ### a, b = x, y by a tuple: what is new stays held alone -/
section
variable {X : Cx} {B : BC} {W : WX}
end
section
variable {X : Cx} {C : RC} {O : Addr → Prop} {H0 : Hp} {W : WX} {k : Nat} {a b : Expr} {fa fb : Ev} {x y : Str} {pos px py pt pt2 : Pos} {k1 k2 : Nat}
end
end D

/-! G: things of own classes: an object's cell, its fields stored and read; what a class call makes. -/
namespace D
open PySem L2 PyProof.Rows
mutual
/-- no shared thing in it -/
def noCel : DV → Bool
  | .cel _ => false
  | .lst ds => noCels ds
  | .tup ds => noCels ds
  | .dct _ ds => noCels ds
  | .ins _ _ ds => noCels ds
  | .exc _ _ ds => noCels ds
  | _ => true
def noCels : List DV → Bool
  | [] => true
  | d :: ds => noCel d && noCels ds
end
section
variable {C : RC} {ρ ρ' : List CellA} {A A' : Addr → Prop} {H H' : Hp}
mutual
theorem Rep.nocel (hk : ∀ a o, H a = some o → ¬ A a → NT o → H' a = some o) (ha : ∀ a, A' a → A a ∨ H a = none) : ∀ {v : V} {d : DV}, noCel d = true → Rep C ρ A H v d → Rep C ρ' A' H' v d
  | _, _, _, .non => .non
  | _, _, _, .bl b => .bl b
  | _, _, _, .int i => .int i
  | _, _, _, .str s => .str s
  | _, _, _, .ty n => .ty n
  | _, _, _, .cls c => .cls c
  | _, _, h, .lst n e r => .lst (fun z => (ha _ z).elim n fun q => by rw [e] at q; cases q) (hk _ _ e n trivial) (RepL.nocel hk ha (by simpa only [noCel] using h) r)
  | _, _, h, .tup n e r => .tup (fun z => (ha _ z).elim n fun q => by rw [e] at q; cases q) (hk _ _ e n trivial) (RepL.nocel hk ha (by simpa only [noCel] using h) r)
  | _, _, h, .ktup k r => .ktup k (RepL.nocel hk ha (by simpa only [noCel] using h) r)
  | _, _, h, .dct n e l r => .dct (fun z => (ha _ z).elim n fun q => by rw [e] at q; cases q) (hk _ _ e n trivial) l (RepL.nocel hk ha (by simpa only [noCel] using h) r)
  | _, _, h, .ins n e l r => .ins (fun z => (ha _ z).elim n fun q => by rw [e] at q; cases q) (hk _ _ e n trivial) l (RepL.nocel hk ha (by simpa only [noCel] using h) r)
  | _, _, _, .scr n e => .scr (fun z => (ha _ z).elim n fun q => by rw [e] at q; cases q) (hk _ _ e n trivial)
  | _, _, _, .kscr k => .kscr k
  | _, _, h, .cel e => by simp [noCel] at h
  | _, _, _, .opq a => .opq a
  | _, _, h, .exc n e n2 e2 l r => .exc (fun z => (ha _ z).elim n fun q => by rw [e] at q; cases q) (hk _ _ e n trivial) (fun z => (ha _ z).elim n2 fun q => by rw [e2] at q; cases q) (hk _ _ e2 n2 trivial) l (RepL.nocel hk ha (by simpa only [noCel] using h) r)
  | _, _, _, .exc0 n e => .exc0 (fun z => (ha _ z).elim n fun q => by rw [e] at q; cases q) (hk _ _ e n trivial)
theorem RepL.nocel (hk : ∀ a o, H a = some o → ¬ A a → NT o → H' a = some o) (ha : ∀ a, A' a → A a ∨ H a = none) : ∀ {vs : List V} {ds : List DV}, noCels ds = true → RepL C ρ A H vs ds → RepL C ρ' A' H' vs ds
  | _, _, _, .nil => .nil
  | _, _, h, .cons r t => by
    simp only [noCels, Bool.and_eq_true] at h
    exact .cons (Rep.nocel hk ha h.1 r) (RepL.nocel hk ha h.2 t)
end
theorem Cont.nocel {p : Addr} (hk : ∀ a o, H a = Option.some o → ¬ A a → NT o → H' a = Option.some o) (ha : ∀ a, A' a → A a ∨ H a = none) (hpp : H' p = H p) : ∀ {d : DV}, noCel d = true → Cont C ρ A H p d → Cont C ρ' A' H' p d
  | .lst _, h, ⟨xs, e, r⟩ => ⟨xs, hpp.trans e, r.nocel hk ha (by simpa only [noCel] using h)⟩
  | .dct _ _, h, ⟨xs, e, l, r⟩ => ⟨xs, hpp.trans e, l, r.nocel hk ha (by simpa only [noCel] using h)⟩
  | .ins _ _ _, h, ⟨dx, xs, e, l, r⟩ => ⟨dx, xs, hpp.trans e, l, r.nocel hk ha (by simpa only [noCel] using h)⟩
end
/-! ### an object's fields -/
def putFD (f : Str) (a : DV) : List Str → List DV → List Str × List DV
  | k :: ks, d :: ds => if k = f then (k :: ks, a :: ds) else ((k :: (putFD f a ks ds).1, d :: (putFD f a ks ds).2))
  | _, _ => ([f], [a])
theorem putFD_rep {C : RC} {ρ : List CellA} {A : Addr → Prop} {H : Hp} {f : Str} {v : V} {a : DV} (ra : Rep C ρ A H v a) : ∀ {ns : List Str} {xs : List V} {ds : List DV}, ns.length = xs.length → RepL C ρ A H xs ds →
    ∃ ys, putF f v (ns.zip xs) = ((putFD f a ns ds).1.zip ys) ∧ (putFD f a ns ds).1.length = ys.length ∧ RepL C ρ A H ys (putFD f a ns ds).2
  | [], _, _, hl, .nil => ⟨[v], rfl, rfl, .cons ra .nil⟩
  | [], _, _, hl, .cons _ _ => by cases hl
  | k :: ns, _, _, hl, .nil => by cases hl
  | k :: ns, x :: xs, d :: ds, hl, .cons r t => by
    unfold putFD
    by_cases h : k = f
    · rw [if_pos h]
      refine ⟨v :: xs, ?_, hl, .cons ra t⟩
      rw [List.zip_cons_cons]
      unfold putF
      rw [if_pos h]
      rfl
    · rw [if_neg h]
      obtain ⟨ys, e1, e2, e3⟩ := putFD_rep (f := f) ra (ns := ns) (by simpa using hl) t
      refine ⟨x :: ys, ?_, by simp [e2], .cons r e3⟩
      rw [List.zip_cons_cons]
      unfold putF
      rw [if_neg h, e1]
      rfl
section
variable {B : BC} {σ : L2.St} {ρ : List CellA} {st : DS} {H : Hp} {X : Cx} {W : WX} {ct : CT}
/-- an object's cell is written -/
theorem Step.obj {k : Nat} {c : CellA} {d d' : DV} {o : HO} (rel : Rel B ρ st σ H) (hc : ρ[k]? = some c) (hs : st.cs[k]? = some (.obj d)) (hw : WR o) (hd : Cont B.C ρ (Av ρ B.O st σ) (upd H c.main o) c.main d') :
    Step B σ ρ st H ρ ⟨st.sl, st.cs.set k (.obj d')⟩ (upd H c.main o) := by
  have inC : CM ρ c.main := ⟨c, List.mem_of_getElem? hc, .inl rfl⟩
  have q0 := rel.cel.ok k c _ hc hs
  have fr : ∀ a o', H a = some o' → ¬ CM ρ a → NT o' → upd H c.main o a = some o' := fun a o' e n _ => by
    rw [upd_ne (fun (z : a = c.main) => n (z ▸ inC))]; exact e
  have dm : ∀ a, H a ≠ none → upd H c.main o a ≠ none := fun a z => by
    by_cases h : a = c.main
    · rw [h, upd_same]; exact fun z => nomatch z
    · rw [upd_ne h]; exact z
  have mv : ∀ a, Av ρ B.O ⟨st.sl, st.cs.set k (.obj d')⟩ σ a → Av ρ B.O st σ a ∨ H a = none := fun a z => .inl z
  have fr' : ∀ a o', H a = some o' → ¬ Av ρ B.O st σ a → NT o' → upd H c.main o a = some o' := fun a o' e n => fr a o' e fun z => n (.inr (.inl z))
  have hkl : k < st.cs.length := (List.getElem?_eq_some_iff.mp hs).1
  refine ⟨List.prefix_refl _, ⟨rel.len, fun i d h => ?_, fun i d h => ?_, rel.dis, fun a z => dm a (rel.dom a z), fun a z => dm a (rel.odom a z), ⟨by rw [rel.cel.len]; simp, fun j cj x h1 h2 => ?_, rel.cel.dis⟩, fun a z => dm a (rel.cdom a z), tabs_but rel.tabs fun a o' e nw => ?_⟩, fr, fun _ _ z => z, fun _ _ b z => ⟨b, z⟩, fun _ z => .inl z, dm⟩
  · obtain ⟨v, e, q⟩ := rel.fro i d h
    exact ⟨v, e, q.mv (List.prefix_refl _) fr' mv⟩
  · obtain ⟨q, e, cc, n1, n2, n3⟩ := rel.own i d h
    exact ⟨q, e, cc.mv (List.prefix_refl _) fr' mv (upd_ne fun (z : q = c.main) => n1 (z ▸ inC)), n1, n2, n3⟩
  · by_cases hj : j = k
    · subst hj
      rw [hc] at h1
      cases h1
      have h2 : (st.cs.set j (.obj d'))[j]? = some x := h2
      rw [List.getElem?_set_self hkl] at h2
      cases h2
      exact ⟨q0.1, hd⟩
    · have h2 : (st.cs.set k (.obj d'))[j]? = some x := h2
      rw [List.getElem?_set_ne (Ne.symm hj)] at h2
      have q := rel.cel.ok j cj x h1 h2
      have keep : ∀ a, (a = cj.main ∨ a ∈ cj.more) → upd H c.main o a = H a := fun a z => upd_ne fun z' => rel.cel.dis j k cj c h1 hc hj a z (.inl z')
      cases x with
      | draw dd =>
        obtain ⟨g, l, e1, n1, n2, n3, e3, e4, e5⟩ := q
        exact ⟨g, l, e1, n1, n2, n3, (keep _ (.inl rfl)).trans e3, (keep g (.inr (by rw [e1]; simp))).trans e4, (keep l (.inr (by rw [e1]; simp))).trans e5⟩
      | obj dd => exact ⟨q.1, q.2.mv (List.prefix_refl _) fr' mv (keep _ (.inl rfl))⟩
      | dead => trivial
  · by_cases h : a = c.main
    · subst h
      refine absurd ?_ nw
      cases d with
      | lst => obtain ⟨xs, e2, _⟩ := q0.2; rw [e2] at e; cases e; trivial
      | dct => obtain ⟨xs, e2, _⟩ := q0.2; rw [e2] at e; cases e; trivial
      | ins => obtain ⟨dx, xs, e2, _⟩ := q0.2; rw [e2] at e; cases e; trivial
      | _ => exact q0.2.elim
    · rw [upd_ne h]; exact e
/-- o.f = e, o an object's cell -/
def svSetF (ct : CT) (f : Str) (fo fe : Ev) : Sv := fun st => (fe st).bind fun a st1 => (fo (st1.eat a.2)).bind fun o st2 => match o.1 with
  | .cel k => (match st2.cs[k]? with
    | some (.obj (.ins c ns vs)) => if (c, f) ∈ ct.fi ∧ ns.length < 1000 then .ok .nx ⟨st2.sl, st2.cs.set k (.obj (.ins c (putFD f a.1 ns vs).1 (putFD f a.1 ns vs).2))⟩ else .stuck
    | _ => .stuck)
  | _ => .stuck
theorem rep_cel {kd : Kd} {v : V} {k : Nat} (r : RepK B ρ st σ H kd v (.cel k)) : ∃ c, ρ[k]? = some c ∧ v = .ref c.main := by
  have r' : Rep B.C ρ (Av ρ B.O st σ) H v (.cel k) := by
    cases kd with
    | view i => obtain ⟨p, rfl, _, c, _⟩ := r; cases c
    | fro => exact r
    | new => exact r.1
  cases r' with
  | cel e => exact ⟨_, e, rfl⟩
theorem psd_setF {o value : Expr} {f : Str} {fo fe : Ev} {pos pos' : Pos} (hC : B.C.K = X.K) (kc : KitC B.C ct) (ho : PD X B W o fo) (he : PD X B W value fe) (hs : swapsWith value (some (.Attribute o f pos')) pos.line X.env = pure false) :
    PSD X B W (.Assign [.Attribute o f pos'] value pos) (svSetF ct f fo fe) := by
  refine PS.mono (ps_fld ho he hs) fun D σ H ⟨ρ, st, rel, r⟩ => ?_
  unfold svSetF at r
  have r1 := SRes.ex r
  refine RD.go rel r1 fun a st1 ρ1 H1 s1 r1 v rv fv => ?_
  have s2 := Step.eat s1.rel a.2
  have r2 := SRes.ex (SRes.from (SStep.of s2) r1)
  refine RD.go s2.rel r2 fun o st2 ρ2 H2 s3 r2 x rx fx => ?_
  obtain ⟨d, kd⟩ := o
  cases d <;> try exact r2.elim
  rename_i k
  dsimp only at r2 rx
  obtain ⟨c, hc, rfl⟩ := rep_cel rx
  cases hk : st2.cs[k]? with
  | none => rw [hk] at r2; exact r2.elim
  | some y =>
    rw [hk] at r2
    cases y with
    | draw => exact r2.elim
    | dead => exact r2.elim
    | obj d0 =>
      cases d0 <;> try exact r2.elim
      rename_i cl ns vs
      dsimp only at r2
      split at r2
      case isFalse => exact r2.elim
      rename_i hcond
      obtain ⟨h1, h2⟩ := kc.nf _ hcond.1
      have k1 := kc.cls _ h1
      rw [hC] at k1 h2
      obtain ⟨hm, dx, xs, e1, e2, e3⟩ := s3.rel.cel.ok k c _ hc hk
      have rv' : Rep B.C ρ2 (Av ρ2 B.O st2 σ) H2 v a.1 := Rep.step s3 (rv.eat)
      obtain ⟨ys, e4, e5, e6⟩ := putFD_rep (f := f) rv' e2 e3
      have s4 := Step.obj (d' := .ins cl (putFD f a.1 ns vs).1 (putFD f a.1 ns vs).2) (o := .ins (B.C.cls cl) dx ((putFD f a.1 ns vs).1.zip ys)) s3.rel hc hk trivial ⟨dx, ys, upd_same, e5, e6.mv (List.prefix_refl _) (fun b o' e n _ => by
        rw [upd_ne (fun (z : b = c.main) => n (.inr (.inl (z ▸ ⟨c, List.mem_of_getElem? hc, .inl rfl⟩))))]; exact e) fun _ z => .inl z⟩
      refine ⟨c.main, B.C.cls cl, dx, ns.zip xs, rfl, e1, k1, h2, ?_, ?_⟩
      · rw [List.length_zip, ← e2, Nat.min_self]; exact hcond.2
      · rw [e4]
        exact r2 _ _ _ (SStep.of s4)
/-- a field, of a value or of an object's cell -/
def fldC (C : CT) (f : Str) (st : DS) : DV → Option DV
  | .cel k => match st.cs[k]? with
    | some (.obj d) => fldD C f d
    | _ => none
  | d => fldD C f d
/-- e.f, where e may be an object's cell -/
def evFldC (ct : CT) (f : Str) (fa : Ev) : Ev := fun st => (fa st).bind fun a st1 => match fldC ct f st1 a.1 with
  | some d => .ok (d, if flat d = true then .new else .fro) st1
  | none => .stuck
theorem pd_fldC {e : Expr} {f : Str} {pos : Pos} {fa : Ev} (hC : B.C.K = X.K) (kc : KitC B.C ct) (he : PD X B W e fa) (hb : attributeBase e f X.env (eval e X.env) = eval e X.env) : PD X B W (.Attribute e f pos) (evFldC ct f fa) := by
  refine PE.mono (pe_fldZ hC kc he hb) fun σ H Q ⟨ρ, st, rel, r⟩ => ?_
  unfold evFldC at r
  refine RD.go rel (Res.bind r) fun a st1 ρ1 H1 s1 r1 v rv fv => ?_
  obtain ⟨d, kd⟩ := a
  dsimp only at r1 rv
  by_cases hcel : ∃ k, d = .cel k
  · obtain ⟨k, rfl⟩ := hcel
    dsimp only [fldC] at r1
    obtain ⟨c, hc, rfl⟩ := rep_cel rv
    cases hk : st1.cs[k]? with
    | none => rw [hk] at r1; exact r1.elim
    | some y =>
      rw [hk] at r1
      cases y with
      | draw => exact r1.elim
      | dead => exact r1.elim
      | obj d0 =>
        dsimp only at r1
        cases hf : fldD ct f d0 with
        | none => rw [hf] at r1; exact r1.elim
        | some z =>
          rw [hf] at r1
          have q0 := s1.rel.cel.ok k c _ hc hk
          cases d0 <;> try (cases hf; done)
          · rename_i cl ns vs
            simp only [fldD] at hf
            split at hf
            case isFalse => cases hf
            rename_i hm
            obtain ⟨_, dx, xs, e1, e2, e3⟩ := q0
            obtain ⟨u, h1, h2⟩ := fldGet_rep e2 e3 hf
            obtain ⟨k1, k2⟩ := fro_or_flat h2
            exact .inl ⟨c.main, cl, dx, _, u, rfl, e1, hm, h1, Res.now s1.rel r1 u k1 (Fresh.dm s1.dm k2)⟩
          · exact q0.2.elim
  · have r1' : Res B W σ ρ1 st1 H1 (match fldD ct f d with
        | some d => .ok (d, if flat d = true then Kd.new else Kd.fro) st1
        | none => .stuck) (GE B σ H Q) := by
      have e : fldC ct f st1 d = fldD ct f d := by cases d <;> first | rfl | exact absurd ⟨_, rfl⟩ hcel
      rw [← e]
      exact r1
    have r2 := r1'
    cases hf : fldD ct f d with
    | none => rw [hf] at r2; exact r2.elim
    | some z =>
      rw [hf] at r2
      have fin : ∀ u, Rep B.C ρ1 (Av ρ1 B.O st1 σ) H1 u z → Q u H1 := fun u ru => by
        obtain ⟨k1, k2⟩ := fro_or_flat ru
        exact Res.now s1.rel r2 u k1 (Fresh.dm s1.dm k2)
      cases d <;> try (cases hf; done)
      · rename_i c ns vs
        simp only [fldD] at hf
        split at hf
        · rename_i hm
          obtain ⟨p, dx, xs, rfl, e1, e2, e3⟩ := rv.ins
          obtain ⟨u, h1, h2⟩ := fldGet_rep e2 e3 hf
          exact .inl ⟨p, c, dx, _, u, rfl, e1, hm, h1, fin u h2⟩
        · cases hf
      · rename_i c ns vs
        simp only [fldD] at hf
        split at hf
        · rename_i hm
          have r' : Rep B.C ρ1 (Av ρ1 B.O st1 σ) H1 v (.exc c ns vs) := by
            cases kd with
            | view i => obtain ⟨p, rfl, _, c, _⟩ := rv; cases c
            | fro => exact rv
            | new => exact rv.1
          cases r' with
          | exc n e n2 e2 l r =>
            obtain ⟨u, h1, h2⟩ := fldGet_rep l r hf
            exact .inr ⟨_, c, _, _, u, rfl, e, e2, hm, h1, fin u h2⟩
          | exc0 n e => simp [fldGet] at hf
        · cases hf
end
end D

/-! G: __init__ by its body: self is an object's cell, then a value. -/
namespace D
open PySem L2 PyProof.Rows
section
variable {B : BC} {ρ : List CellA} {H : Hp} {cs : List CellC}
theorem Rel.startB {N : List Str} {vs : List V} {ds : List DV} (r : Rel B ρ ⟨[], cs⟩ [] H) (rl : RepL B.C ρ (Av ρ B.O ⟨[], cs⟩ []) H vs ds) : Rel B ρ ⟨startSl N.length ds, cs⟩ (L2.start N vs) H := by
  have hl := rl.length
  have noOwn : ∀ i a, ¬ ownAt ⟨startSl N.length ds, cs⟩ (L2.start N vs) i a := fun i a ⟨d, h, _⟩ => startSl_own h
  have mv : ∀ a, Av ρ B.O ⟨startSl N.length ds, cs⟩ (L2.start N vs) a → Av ρ B.O ⟨[], cs⟩ [] a ∨ H a = none := fun a z => by
    rcases z with z | z | ⟨i, z⟩
    · exact .inl (.inl z)
    · exact .inl (.inr (.inl z))
    · exact absurd z (noOwn i a)
  refine ⟨?_, fun i d h => ?_, fun i d h => absurd h startSl_own, fun i j p h => absurd h (noOwn i p), r.dom, r.odom, ⟨r.cel.len, fun k c x h1 h2 => ?_, r.cel.dis⟩, r.cdom, r.tabs⟩
  · simp [startSl, L2.start, hl]
  · have h : (startSl N.length ds)[i]? = some (some (d, false)) := h
    unfold startSl at h
    rw [List.getElem?_append] at h
    split at h
    · rename_i hi
      rw [List.getElem?_map] at h
      cases e : ds[i]? with
      | none => rw [e] at h; cases h
      | some x =>
        rw [e] at h
        cases h
        obtain ⟨v, hv, rv⟩ := rl.get e
        refine ⟨v, ?_, rv.mv (List.prefix_refl _) (fun _ _ e _ _ => e) mv⟩
        unfold L2.start
        have hi' : i < (vs.map some).length := by simpa [hl] using hi
        rw [List.getElem?_append_left hi', List.getElem?_map, hv]
        rfl
    · rw [List.getElem?_replicate] at h
      split at h <;> cases h
  · have q := r.cel.ok k c x h1 h2
    cases x with
    | draw d => exact q
    | obj d => exact ⟨q.1, q.2.mv (List.prefix_refl _) (fun _ _ e _ _ => e) mv rfl⟩
    | dead => trivial
end
section
variable {C : RC} {O : Addr → Prop} {ρ ρ' : List CellA} {H0 H' : Hp} {cs : List CellC} {x dx : Addr} {c : Nat}
/-- a new object without fields -/
abbrev mkH (C : RC) (H0 : Hp) (x dx : Addr) (c : Nat) : Hp := upd (upd H0 dx (.own x)) x (.ins (C.cls c) dx [])
theorem mkH_of (hx : H0 x = none) (hdx : H0 dx = none) {a : Addr} {o : HO} (e : H0 a = some o) : mkH C H0 x dx c a = some o := by
  unfold mkH
  rw [upd_ne (ne_of_none e hx), upd_ne (ne_of_none e hdx)]
  exact e
theorem cm_grow {a : Addr} : CM (ρ ++ [⟨x, []⟩]) a ↔ CM ρ a ∨ a = x := by
  unfold CM
  constructor
  · rintro ⟨c, hc, z⟩
    rcases List.mem_append.mp hc with h | h
    · exact .inl ⟨c, h, z⟩
    · simp at h
      subst h
      rcases z with z | z
      · exact .inr z
      · simp at z
  · rintro (⟨c, hc, z⟩ | rfl)
    · exact ⟨c, List.mem_append_left _ hc, z⟩
    · exact ⟨⟨a, []⟩, by simp, .inl rfl⟩
theorem Rel.grow (r : Rel ⟨C, O, H0⟩ ρ ⟨[], cs⟩ [] H0) (hx : H0 x = none) (hdx : H0 dx = none) (hne : dx ≠ x) :
    Rel ⟨C, O, H0⟩ (ρ ++ [⟨x, []⟩]) ⟨[], cs ++ [.obj (.ins c [] [])]⟩ [] (mkH C H0 x dx c) := by
  have up : ∀ {a o}, H0 a = some o → mkH C H0 x dx c a = some o := fun e => mkH_of hx hdx e
  have dm : ∀ a, H0 a ≠ none → mkH C H0 x dx c a ≠ none := fun a z => by
    cases e : H0 a with
    | none => exact absurd e z
    | some o => rw [up e]; exact fun z => nomatch z
  have at_x : mkH C H0 x dx c x = some (.ins (C.cls c) dx []) := upd_same
  have hlen := r.cel.len
  dsimp only at hlen
  refine ⟨rfl, fun i d h => by simp at h, fun i d h => by simp at h, fun i j p h => by obtain ⟨d, h, _⟩ := h; simp at h, fun a z => dm a (r.dom a z), fun a z => dm a (r.odom a z), ⟨by simp [hlen], fun k cc y h1 h2 => ?_, fun i j c1 c2 h1 h2 hij a z1 z2 => ?_⟩, fun a z => ?_, tabs_but r.tabs fun a o e _ => up e⟩
  · dsimp only at h2
    by_cases hk : k < ρ.length
    · rw [List.getElem?_append_left hk] at h1
      rw [List.getElem?_append_left (by rw [← hlen]; exact hk)] at h2
      have q := r.cel.ok k cc y h1 h2
      have hin : CM ρ cc.main := ⟨cc, List.mem_of_getElem? h1, .inl rfl⟩
      have hmv : ∀ a, Av (ρ ++ [⟨x, []⟩]) O ⟨[], cs ++ [.obj (.ins c [] [])]⟩ [] a → Av ρ O ⟨[], cs⟩ [] a ∨ H0 a = none := fun a z => by
        rcases z with z | z | ⟨i, d, z, _⟩
        · exact .inl (.inl z)
        · rcases cm_grow.mp z with z | rfl
          · exact .inl (.inr (.inl z))
          · exact .inr hx
        · simp at z
      have keep : ∀ a, H0 a ≠ none → mkH C H0 x dx c a = H0 a := fun a z => by
        cases e : H0 a with
        | none => exact absurd e z
        | some o => exact up e
      cases y with
      | draw d =>
        obtain ⟨g, l, e1, n1, n2, n3, e3, e4, e5⟩ := q
        exact ⟨g, l, e1, n1, n2, n3, up e3, up e4, up e5⟩
      | obj d => exact ⟨q.1, q.2.mv (List.prefix_append _ _) (fun a o e _ _ => up e) hmv (keep _ (r.cdom _ hin))⟩
      | dead => trivial
    · rw [List.getElem?_append_right (by omega)] at h1
      rw [List.getElem?_append_right (by rw [← hlen]; omega)] at h2
      rw [← hlen] at h2
      cases hz : k - ρ.length with
      | zero =>
        rw [hz] at h1 h2
        cases h1
        cases h2
        exact ⟨rfl, dx, [], at_x, rfl, .nil⟩
      | succ m =>
        rw [hz] at h1
        simp at h1
  · by_cases hi : i < ρ.length
    · rw [List.getElem?_append_left hi] at h1
      have m1 : CM ρ a := ⟨c1, List.mem_of_getElem? h1, z1⟩
      by_cases hj : j < ρ.length
      · rw [List.getElem?_append_left hj] at h2
        exact r.cel.dis i j c1 c2 h1 h2 hij a z1 z2
      · rw [List.getElem?_append_right (by omega)] at h2
        have h2' := List.mem_of_getElem? h2
        simp at h2'
        subst h2'
        rcases z2 with rfl | z2
        · exact r.cdom _ m1 hx
        · simp at z2
    · rw [List.getElem?_append_right (by omega)] at h1
      have h1' := List.mem_of_getElem? h1
      simp at h1'
      subst h1'
      rcases z1 with rfl | z1
      · by_cases hj : j < ρ.length
        · rw [List.getElem?_append_left hj] at h2
          exact r.cdom _ ⟨c2, List.mem_of_getElem? h2, z2⟩ hx
        · have e1 := (List.getElem?_eq_some_iff.mp h1).1
          have e2 := h2
          rw [List.getElem?_append_right (by omega)] at e2
          have e3 := (List.getElem?_eq_some_iff.mp e2).1
          simp at e1 e3
          omega
      · simp at z1
  · rcases cm_grow.mp z with z | rfl
    · exact dm a (r.cdom a z)
    · rw [at_x]; exact fun z => nomatch z
/-- the cell goes again -/
theorem Step.ini {N : List Str} {vs : List V} {ds : List DV} {n : Nat} {σ' : L2.St} {st' : DS} (r : Rel ⟨C, O, H0⟩ ρ ⟨[], cs⟩ [] H0) (hx : H0 x = none) (hdx : H0 dx = none) (hl : st'.cs.length = cs.length + 1) (hd : (st'.cs.take cs.length).all isDraw = true)
    (s : SStep ⟨C, O, H0⟩ (L2.start N vs) (ρ ++ [⟨x, []⟩]) ⟨startSl n ds, cs ++ [.obj (.ins c [] [])]⟩ (mkH C H0 x dx c) σ' ρ' st' H') :
    ρ' = ρ ++ [⟨x, []⟩] ∧ Step ⟨C, O, H0⟩ [] ρ ⟨[], cs⟩ H0 ρ ⟨[], st'.cs.take cs.length⟩ H' := by
  have up : ∀ {a o}, H0 a = some o → mkH C H0 x dx c a = some o := fun e => mkH_of hx hdx e
  have noOwn : ∀ i a, ¬ ownAt ⟨startSl n ds, cs ++ [.obj (.ins c [] [])]⟩ (L2.start N vs) i a := fun i a ⟨d, h, _⟩ => startSl_own h
  have hlen := r.cel.len
  dsimp only at hlen
  have hρ : ρ' = ρ ++ [⟨x, []⟩] := by
    obtain ⟨t, ht⟩ := s.pre
    have e1 := s.rel.cel.len
    rw [hl, ← ht] at e1
    simp [hlen] at e1
    rw [← ht, e1, List.append_nil]
  refine ⟨hρ, ?_⟩
  have dm : ∀ a, H0 a ≠ none → H' a ≠ none := fun a z => s.dm a (by
    cases e : H0 a with
    | none => exact absurd e z
    | some o => rw [up e]; exact fun z => nomatch z)
  refine ⟨List.prefix_refl _, ⟨rfl, fun i d h => by simp at h, fun i d h => by simp at h, fun i j p h => by obtain ⟨d, h, _⟩ := h; simp at h, s.rel.dom, s.rel.odom, ⟨by rw [List.length_take]; omega, fun k cc y h1 h2 => ?_, fun i j c1 c2 h1 h2 => r.cel.dis i j c1 c2 h1 h2⟩, fun a z => dm a (r.cdom a z), s.rel.tabs⟩,
    fun a o e nm nt => s.fr a o (up e) (fun z => (cm_grow.mp z).elim nm fun q => by subst q; rw [hx] at e; cases e) (fun i => noOwn i a) nt, fun i p h => by obtain ⟨d, h, _⟩ := h; simp at h, fun i d b h => by simp at h, fun a z => .inl z, dm⟩
  dsimp only at h2
  have hk : k < ρ.length := (List.getElem?_eq_some_iff.mp h1).1
  have hy := List.all_eq_true.mp hd y (List.mem_of_getElem? h2)
  rw [List.getElem?_take_of_lt (by rw [← hlen]; exact hk)] at h2
  have q := s.rel.cel.ok k cc y (by rw [hρ, List.getElem?_append_left hk]; exact h1) h2
  cases y with
  | draw d => exact q
  | obj d => cases hy
  | dead => trivial
end
/-- the cell becomes a value -/
def iniBack (m : Nat) (st' : DS) : Out (DV × Kd) := if st'.cs.length = m + 1 ∧ (st'.cs.take m).all isDraw = true then (match st'.cs[m]? with
  | some (.obj d) => if noCel d = true then .ok (d, .new) ⟨[], st'.cs.take m⟩ else .stuck
  | _ => .stuck) else .stuck
def iniOut (m : Nat) : Out Fl → Out (DV × Kd)
  | .ok .nx st' => iniBack m st'
  | .ok (.rt .non _) st' => iniBack m st'
  | .ok _ _ => .stuck
  | .exc x st' => if st'.cs.length = m + 1 ∧ (st'.cs.take m).all isDraw = true ∧ noCels x.vs = true then .exc x ⟨[], st'.cs.take m⟩ else .stuck
  | .stuck => .stuck
/-- what __init__ with n slots and p parameters, self one of them, makes of an object of class c -/
def fnIni (n p c : Nat) (sv : Sv) : Fn := fun ds st => if ds.length + 1 = p then iniOut st.cs.length (sv ⟨startSl n (.cel st.cs.length :: ds), st.cs ++ [.obj (.ins c [] [])]⟩) else .stuck
/-- __init__'s promise: F makes the object -/
def SpI (C : RC) (c : Nat) (F : Fn) : Sp := fun vs H Q E => ∃ x dx H0 vs' Q0, vs = V.ref x :: vs' ∧ H0 x = none ∧ H0 dx = none ∧ dx ≠ x ∧ H = mkH C H0 x dx c ∧ SpF C F vs' H0 Q0 E ∧ ∀ H', Q0 (.ref x) H' → Q .non H'
section
variable {P : Program} {w : World} {mg : Str → Option Value} {base : Heap} {C : RC}
theorem SpI.len {n p c : Nat} {sv : Sv} {vs : List V} {H : Hp} {Q : VK} {E : XK} (h : SpI C c (fnIni n p c sv) vs H Q E) : vs.length = p := by
  obtain ⟨x, dx, H0, vs', Q0, rfl, hx, hdx, hne, rfl, ⟨ρ, cs, ds, O, r, rl, res⟩, hq⟩ := h
  unfold fnIni at res
  split at res
  · rename_i hl
    rw [List.length_cons, rl.length]
    exact hl
  · exact res.elim
theorem okI_raw {x qual : Str} {st : Stmt} {f : Addr} {N ps : List Str} {k c : Nat} {sv : Sv} {oc dV kV doc pm cdv ct : Value} {od an : Option Addr} {osl : Array (Option Value)}
    (lk : C.K.lookup f = some ⟨oc, od, .func (PySem.W.fnOf x qual (defArgs st) (defBody st) (defScope st) dV kV doc pm an cdv ct), osl⟩) (hcd : PySem.W.codeIn C.K cdv qual = true) (S : FnScope N ps (defScope st))
    (hb : ∀ (cdv' : Value) (A : Around) (outer : List Env) (s : Shared) (H : Hp) (E : XK), (PySem.W.fnOf x qual (defArgs st) (defBody st) (defScope st) dV kV doc pm an cdv ct).code = cdv' → Room k (A.deeper (envOfC qual (defScope st) s.heap.objs.size f cdv')) → (cxOf (L2.CX P w) P w C.K mg base N qual (defScope st) f cdv' A outer s H E).A.guards = some [] →
      ∀ O H0, PSsD (cxOf (L2.CX P w) P w C.K mg base N qual (defScope st) f cdv' A outer s H E) ⟨C, O, H0⟩ (fun cls d _ H' => E cls d H') (defBody st) sv) :
    FnG P w C.K mg base (k + 1) f (PySem.W.fnOf x qual (defArgs st) (defBody st) (defScope st) dV kV doc pm an cdv ct) ps (SpI C c (fnIni N.length ps.length c sv)) := by
  refine fnG_of lk hcd S (fun vs H Q E h => h.len) fun A outer s H vs Q E hr hg h => ?_
  obtain ⟨x, dx, H0, vs', Q0, rfl, hx, hdx, hne, rfl, ⟨ρ, cs, ds, O, r, rl, res⟩, hq⟩ := h
  have r1 := Rel.grow (c := c) r hx hdx hne
  have hlen := r.cel.len
  dsimp only at hlen
  have rl1 : RepL C (ρ ++ [⟨x, []⟩]) (Av (ρ ++ [⟨x, []⟩]) O ⟨[], cs ++ [.obj (.ins c [] [])]⟩ []) (mkH C H0 x dx c) (V.ref x :: vs') (.cel cs.length :: ds) := by
    refine .cons (.cel (c := ⟨x, []⟩) (by rw [← hlen]; simp)) (rl.mv (List.prefix_append _ _) (fun a o e _ _ => mkH_of hx hdx e) fun a z => ?_)
    rcases z with z | z | ⟨i, d, z, _⟩
    · exact .inl (.inl z)
    · rcases cm_grow.mp z with z | rfl
      · exact .inl (.inr (.inl z))
      · exact .inr hx
    · simp at z
  refine ⟨_, hb cdv A outer s _ E rfl hr (by first | exact (deeper_guards _ _).trans hg | exact hg) O H0, ρ ++ [⟨x, []⟩], ⟨startSl N.length (.cel cs.length :: ds), cs ++ [.obj (.ins c [] [])]⟩, Rel.startB (B := ⟨C, O, H0⟩) r1 rl1, ?_⟩
  have ox : ¬ O x := fun z => r.odom x z hx
  have cx : ¬ CM ρ x := fun z => r.cdom x z hx
  unfold fnIni at res
  split at res
  case isFalse => exact res.elim
  dsimp only at res
  -- the object's content, as a value
  have key : ∀ {σ' : L2.St} {ρ' : List CellA} {st' : DS} {H' : Hp}, SStep ⟨C, O, H0⟩ (L2.start N (V.ref x :: vs')) (ρ ++ [⟨x, []⟩]) ⟨startSl N.length (.cel cs.length :: ds), cs ++ [.obj (.ins c [] [])]⟩ (mkH C H0 x dx c) σ' ρ' st' H' →
      Res ⟨C, O, H0⟩ (fun cls d _ H' => E cls d H') [] ρ ⟨[], cs⟩ H0 (iniBack cs.length st') (fun a st' ρ' H' => st'.sl = [] ∧ ∀ v, Rep C ρ' (Av ρ' O st' []) H' v a.1 → (a.2 = .new → NewC ⟨C, O, H0⟩ ρ' st' [] H' v a.1) → Fresh H0 a.2 v → Q0 v H') → Q .non H' := fun {σ' ρ' st' H'} s1 res => by
    unfold iniBack at res
    split at res
    case isFalse => exact res.elim
    rename_i hc
    obtain ⟨hρ, sd⟩ := Step.ini r hx hdx hc.1 hc.2 s1
    subst hρ
    cases hm : st'.cs[cs.length]? with
    | none => rw [hm] at res; exact res.elim
    | some y =>
      rw [hm] at res
      cases y with
      | draw => exact res.elim
      | dead => exact res.elim
      | obj d =>
        dsimp only at res
        split at res
        case isFalse => exact res.elim
        rename_i hn
        have q := s1.rel.cel.ok cs.length ⟨x, []⟩ _ (by rw [← hlen]; simp) hm
        have nA : ∀ a, Av ρ O ⟨[], st'.cs.take cs.length⟩ [] a → Av (ρ ++ [⟨x, []⟩]) O st' σ' a := fun a z => by
          rcases z with z | z | ⟨i, d, z, _⟩
          · exact .inl z
          · exact .inr (.inl (cm_grow.mpr (.inl z)))
          · simp at z
        have npx : ¬ Av ρ O ⟨[], st'.cs.take cs.length⟩ [] x := fun z => by
          rcases z with z | z | ⟨i, d, z, _⟩
          · exact ox z
          · exact cx z
          · simp at z
        have ct' : Cont C ρ (fun a => Av ρ O ⟨[], st'.cs.take cs.length⟩ [] a ∨ a = x) H' x d := q.2.nocel (fun _ _ e _ _ => e) (fun a z => .inl (z.elim (nA a) fun z => by subst z; exact .inr (.inl (cm_grow.mpr (.inr rfl))))) rfl hn
        exact hq _ ((res ρ H' sd).2 (.ref x) (ct'.rep (fun a z => .inl z) npx) (fun _ p e _ => by cases e; exact ct') fun p e => by cases e; exact hx)
  cases e : sv ⟨startSl N.length (.cel cs.length :: ds), cs ++ [.obj (.ins c [] [])]⟩ with
  | stuck => rw [e] at res; exact res
  | exc xx st' =>
    rw [e] at res
    have res : Res ⟨C, O, H0⟩ (fun cls d _ H' => E cls d H') [] ρ ⟨[], cs⟩ H0 (if st'.cs.length = cs.length + 1 ∧ (st'.cs.take cs.length).all isDraw = true ∧ noCels xx.vs = true then .exc xx ⟨[], st'.cs.take cs.length⟩ else .stuck) (fun (a : DV × Kd) st' ρ' H' => st'.sl = [] ∧ ∀ v, Rep C ρ' (Av ρ' O st' []) H' v a.1 → (a.2 = .new → NewC ⟨C, O, H0⟩ ρ' st' [] H' v a.1) → Fresh H0 a.2 v → Q0 v H') := res
    split at res
    case isFalse => exact res.elim
    rename_i hc
    intro σ' ρ' H' cls d s1 xr
    obtain ⟨hρ, sd⟩ := Step.ini r hx hdx hc.1 hc.2.1 s1
    subst hρ
    refine res ρ H' cls d sd ?_
    obtain ⟨e1, xr⟩ := xr
    have nA : ∀ a, Av ρ O ⟨[], st'.cs.take cs.length⟩ [] a → Av (ρ ++ [⟨x, []⟩]) O st' σ' a := fun a z => by
      rcases z with z | z | ⟨i, d, z, _⟩
      · exact .inl z
      · exact .inr (.inl (cm_grow.mpr (.inl z)))
      · simp at z
    refine ⟨e1, ?_⟩
    rcases xr with xr | ⟨a, vs, h1, h2, h3, h4, h5⟩
    · exact .inl xr
    · exact .inr ⟨a, vs, h1, fun z => h2 (nA a z), h3, h4, h5.nocel (fun _ _ e _ _ => e) (fun a z => .inl (nA a z)) hc.2.2⟩
  | ok fl st' =>
    rw [e] at res
    intro σ' ρ' H' s1
    cases fl with
    | bk => exact res.elim
    | ct => exact res.elim
    | nx => exact key s1 res
    | rt d kd =>
      intro v rv fv
      cases d <;> try exact res.elim
      obtain rfl := RepK.non rv
      exact key s1 res
theorem okG_raw {x qual : Str} {st : Stmt} {f : Addr} {N ps : List Str} {k : Nat} {sv : Sv} {oc dV kV doc pm cdv ct : Value} {od an : Option Addr} {osl : Array (Option Value)}
    (lk : C.K.lookup f = some ⟨oc, od, .func (PySem.W.fnOf x qual (defArgs st) (defBody st) (defScope st) dV kV doc pm an cdv ct), osl⟩) (hcd : PySem.W.codeIn C.K cdv qual = true) (S : FnScope N ps (defScope st))
    (hb : ∀ (cdv' : Value) (A : Around) (outer : List Env) (s : Shared) (H : Hp) (E : XK), (PySem.W.fnOf x qual (defArgs st) (defBody st) (defScope st) dV kV doc pm an cdv ct).code = cdv' → Room k (A.deeper (envOfC qual (defScope st) s.heap.objs.size f cdv')) → (cxOf (L2.CX P w) P w C.K mg base N qual (defScope st) f cdv' A outer s H E).A.guards = some [] →
      ∀ O, PSsD (cxOf (L2.CX P w) P w C.K mg base N qual (defScope st) f cdv' A outer s H E) ⟨C, O, H⟩ (fun cls d _ H' => E cls d H') (defBody st) sv) :
    FnG P w C.K mg base (k + 1) f (PySem.W.fnOf x qual (defArgs st) (defBody st) (defScope st) dV kV doc pm an cdv ct) ps (SpF C (fnSv N.length ps.length sv)) := by
  refine fnG_of lk hcd S (fun vs H Q E h => h.len) fun A outer s H vs Q E hr hg h => ?_
  obtain ⟨ρ, cs, ds, O, r, rl, res⟩ := h
  refine ⟨_, hb cdv A outer s H E rfl hr (by first | exact (deeper_guards _ _).trans hg | exact hg) O, ρ, ⟨startSl N.length ds, cs⟩, Rel.start r rl, ?_⟩
  have noOwn : ∀ i a, ¬ ownAt ⟨startSl N.length ds, cs⟩ (L2.start N vs) i a := fun i a ⟨d, h, _⟩ => startSl_own h
  unfold fnSv at res
  split at res
  case isFalse => exact res.elim
  cases e : sv ⟨startSl N.length ds, cs⟩ with
  | stuck => rw [e] at res; exact res
  | exc x st' =>
    rw [e] at res
    intro σ' ρ' H' cls d s1 xr
    refine res ρ' H' cls d (Step.done noOwn s1) ?_
    obtain ⟨e1, xr⟩ := xr
    refine ⟨e1, ?_⟩
    rcases xr with xr | ⟨a, vs, h1, h2, h3, h4, h5⟩
    · exact .inl xr
    · exact .inr ⟨a, vs, h1, fun z => h2 (av_done z), h3, h4, h5.mv (List.prefix_refl _) (fun _ _ e _ _ => e) fun a z => .inl (av_done z)⟩
  | ok fl st' =>
    rw [e] at res
    intro σ' ρ' H' s1
    have sd := Step.done noOwn s1
    cases fl with
    | bk => exact res.elim
    | ct => exact res.elim
    | nx => exact (res ρ' H' sd).2 .non .non (fun _ p e => nomatch e) fun p e => nomatch e
    | rt d kd =>
      intro v rv fv
      have mv : ∀ a, Av ρ' O ⟨[], st'.cs⟩ [] a → Av ρ' O st' σ' a ∨ H' a = none := fun a z => .inl (av_done z)
      cases kd with
      | fro => exact (res ρ' H' sd).2 v (Rep.mv (List.prefix_refl _) (fun _ _ e _ _ => e) mv rv) (fun z => nomatch z) trivial
      | new =>
        refine (res ρ' H' sd).2 v (Rep.mv (List.prefix_refl _) (fun _ _ e _ _ => e) mv rv.1) (fun _ p ep hc => ?_) fun p ep => fv rfl p ep
        exact (rv.2 p ep hc).mv (List.prefix_refl _) (fun _ _ e _ _ => e) (fun a z => z.elim (fun z => .inl (.inl (av_done z))) fun z => .inl (.inr z)) rfl
      | view i =>
        obtain ⟨p, rfl, es, c, n1, n2, u, n3⟩ := rv
        have npa : ¬ Av ρ' O ⟨[], st'.cs⟩ [] p := fun z => by
          rcases z with z | z | ⟨i, d, z, _⟩
          · exact n2 z
          · exact n1 z
          · simp at z
        have rp : Rep C ρ' (Av ρ' O ⟨[], st'.cs⟩ []) H' (.ref p) d := Cont.rep (A' := Av ρ' O ⟨[], st'.cs⟩ []) (fun a z => av_done z) npa c
        refine (res ρ' H' sd).2 _ rp (fun hk q eq hc => ?_) ?_
        · cases eq
          dsimp only at hk
          split at hk
          · rename_i d' hs
            have ow : ownAt st' σ' i p := ⟨d', hs, es⟩
            exact c.mv (List.prefix_refl _) (fun _ _ e _ _ => e) (fun a z => .inl (z.elim (fun z => av_done z) fun z => by subst z; exact .inr (.inr ⟨i, ow⟩))) rfl
          · cases hk
        · dsimp only
          split
          · exact fun q eq => by cases eq; exact n3
          · trivial
end
end D

/-! G: defs with defaults; calls by position and by keywords; class calls, methods, properties. -/
namespace D
open PySem L2 PyProof.Rows
abbrev FunX (K : PySem.W.Frag) (x qual : Str) (st : Stmt) (dvs : List V) (kws : List (Str × V)) (f : Addr) (fd : FuncData) : Prop := FunD K x qual (defArgs st) (defBody st) (defScope st) dvs kws f fd
theorem FunX.of {K : PySem.W.Frag} {x qual : Str} {st : Stmt} {f : Addr} {fd : FuncData} (F : Fun K x qual st f fd) : FunX K x qual st [] [] f fd := by
  obtain ⟨oc, od, kV, doc, pm, an, cdv, ct, osl, h1, lk, hcd⟩ := F.ex
  exact ⟨⟨oc, od, .none, kV, doc, pm, an, cdv, ct, osl, h1, lk, hcd, .inl ⟨rfl, rfl⟩, .inl rfl⟩, F.kp⟩
section
variable {P : Program} {w : World} {mg : Str → Option Value} {base : Heap} {C : RC} {x qual : Str} {st : Stmt} {f : Addr} {fd : FuncData} {N ps : List Str} {k c : Nat} {sv : Sv} {dvs : List V} {kws : List (Str × V)}
theorem FunX.okI (F : FunX C.K x qual st dvs kws f fd) (S : FnScope N ps (defScope st))
    (hb : ∀ (cdv : Value) (A : Around) (outer : List Env) (s : Shared) (H : Hp) (E : XK), fd.code = cdv → Room k (A.deeper (envOfC qual (defScope st) s.heap.objs.size f cdv)) → (cxOf (L2.CX P w) P w C.K mg base N qual (defScope st) f cdv A outer s H E).A.guards = some [] →
      ∀ O H0, PSsD (cxOf (L2.CX P w) P w C.K mg base N qual (defScope st) f cdv A outer s H E) ⟨C, O, H0⟩ (fun cls d _ H' => E cls d H') (defBody st) sv) :
    FnG P w C.K mg base (k + 1) f fd ps (SpI C c (fnIni N.length ps.length c sv)) := by
  obtain ⟨oc, od, dV, kV, doc, pm, an, cdv, ct, osl, rfl, lk, hcd, _, _⟩ := F.ex
  exact okI_raw lk hcd S hb
theorem FunX.okG (F : FunX C.K x qual st dvs kws f fd) (S : FnScope N ps (defScope st))
    (hb : ∀ (cdv : Value) (A : Around) (outer : List Env) (s : Shared) (H : Hp) (E : XK), fd.code = cdv → Room k (A.deeper (envOfC qual (defScope st) s.heap.objs.size f cdv)) → (cxOf (L2.CX P w) P w C.K mg base N qual (defScope st) f cdv A outer s H E).A.guards = some [] →
      ∀ O, PSsD (cxOf (L2.CX P w) P w C.K mg base N qual (defScope st) f cdv A outer s H E) ⟨C, O, H⟩ (fun cls d _ H' => E cls d H') (defBody st) sv) :
    FnG P w C.K mg base (k + 1) f fd ps (SpF C (fnSv N.length ps.length sv)) := by
  obtain ⟨oc, od, dV, kV, doc, pm, an, cdv, ct, osl, rfl, lk, hcd, _, _⟩ := F.ex
  exact okG_raw lk hcd S hb
end
/-! ### binding -/
/-- n values by position, keywords ks, then the defaults ds: the parameters are these by π -/
structure BindN (K : PySem.W.Frag) (fd : FuncData) (ps : List Str) (n : Nat) (ks : List Str) (π : List Nat) (ds : List Value) : Prop where
  to : ∀ (s : Shared) (us ws : List Value), K.In s.heap → us.length = n → ws.length = ks.length → BindsTo s fd ⟨us, ks.zip ws⟩ (ps.zip (permD π (us ++ (ws ++ ds))))
section
variable {K : PySem.W.Frag} {x qual : Str} {params : Arguments} {body : List Stmt} {scope : Scope} {dvs : List V} {kws : List (Str × V)} {f : Addr} {fd : FuncData} {ps : List Str}
theorem bindN_k (F : FunD K x qual params body scope [] kws f fd) (n : Nat) (ks : List Str) (ms : List (Str × V)) (π : List Nat) (hk : kws ≠ []) (hms : ∀ q ∈ ms, q ∈ kws)
    (h : ∀ (D : Addr) (doc pm : Value) (an : Option Addr) (cdv ct : Value) (us mv ws : List Value), us.length = n → mv.length = ms.length → ws.length = ks.length →
      KwChain D ((ms.map (·.1)).zip mv) (bindArgs (PySem.W.fnOf x qual params body scope .none (.ref D) doc pm an cdv ct) ⟨us, ks.zip ws⟩) (ps.zip (permD π (us ++ (ws ++ mv))))) :
    ∃ ds, Vals (ms.map (·.2)) ds ∧ BindN K fd ps n ks π ds := by
  obtain ⟨oc, od, dV, kV, doc, pm, an, cdv, ct, osl, rfl, lk, hcd, hD, hK⟩ := F.ex
  rcases hD with ⟨_, rfl⟩ | ⟨e, _⟩
  · rcases hK with e | ⟨D, rfl, hq⟩
    · exact absurd e hk
    · obtain ⟨mv, hl, rk, hks⟩ := kwd_vals (ms := ms) fun q hm => hq q (hms q hm)
      exact ⟨mv, rk, ⟨fun s us ws X l1 l2 => BindsTo.of_looks fun M => KwChain.looks X hks (h D doc pm an cdv ct us mv ws l1 hl l2)⟩⟩
  · exact absurd rfl e
end
/-! ### the written arguments -/
def CW (X : Cx) (es : List Expr) (kws : List Keyword) (pos : Pos) (ks : List Str) (t tk : TA) : Prop :=
  ∀ (f : Value) (first : List Value) (pins : List (Addr × Obj)) (s : Shared) (σ : L2.St) (H : Hp) (R : List V → List V → Hp → Prop) (Q : Value → Shared → Prop), PySem.W.keepIn X.K f = true → L2.Inv X pins σ H s →
    t σ H (fun vs H1 => tk σ H1 fun zs H2 => R vs zs H2) → (∀ us ws vs zs H2 s2, L2.Inv X pins σ H2 s2 → Vals vs us → Vals zs ws → R vs zs H2 → wpAny (model X.prog X.w) X.A (call f (first ++ us) (ks.zip ws)) Q X.xe s2) →
    wpAny (model X.prog X.w) X.A (callWith pos f first (backTo pos (starEach es X.env)) (backToKw pos (keywordEach kws X.env))) Q X.xe s
section
variable {X : Cx} {e : Expr} {es : List Expr} {kws : List Keyword} {pos : Pos} {ks : List Str} {t tk : TA}
theorem cw_a (ha : PA X (e :: es) t) (he : starEach (e :: es) X.env = (false, eval e X.env) :: starEach es X.env) (hpl : (backTo pos (starEach es X.env)).any (·.1) = false) : CW X (e :: es) [] pos [] t tNil := fun f first pins s σ H R Q hk I h k => by
  refine PySem.W.callWith_K (first := first) (h₀ := X.base) I.ok.mod.kin hk (thn (ha.run pos pins s σ H _ I h) fun us s1 ⟨vs, H1, I1, r, q⟩ => ⟨I1.kIn, ?_⟩) he hpl
  exact k us [] vs [] H1 s1 I1 r .nil q
end
/-- the written ones, arranged -/
def akArr (π : List Nat) (n m : Nat) (dds : List DV) (ge gk : Ak) : Ak := fun st => (ge st).bind fun as st1 => (gk st1).bind fun bs st2 => if as.length = n ∧ bs.length = m then (match permL π (as ++ (bs ++ dds.map fun d => (d, Kd.fro))) with
  | some cs => .ok cs st2
  | none => .stuck) else .stuck
theorem RepKs.len {B : BC} {ρ : List CellA} {st : DS} {σ : L2.St} {H : Hp} {xs : List V} {as : List (DV × Kd)} (r : RepKs B ρ st σ H xs as) : xs.length = as.length := by
  induction r with
  | nil => rfl
  | cons _ _ ih => simp [ih]
theorem RepKs.cat {B : BC} {ρ : List CellA} {st : DS} {σ : L2.St} {H : Hp} {xs ys : List V} {as bs : List (DV × Kd)} (r : RepKs B ρ st σ H xs as) (q : RepKs B ρ st σ H ys bs) : RepKs B ρ st σ H (xs ++ ys) (as ++ bs) := by
  induction r with
  | nil => exact q
  | cons h _ ih => exact .cons h ih
section
variable {B : BC} {W : WX} {σ : L2.St} {H : Hp} {π : List Nat} {n m : Nat} {dds : List DV} {dvs : List V} {ge gk : Ak}
/-- the arranged ones, at V's level: by both lists -/
theorem akArr_of {G : List (DV × Kd) → DS → List CellA → Hp → Prop} {ρ : List CellA} {st : DS} (rel : Rel B ρ st σ H) (hdr : RepAny B.C dvs dds) {R : List V → List V → Hp → Prop} (res : Res B W σ ρ st H (akArr π n m dds ge gk st) G)
    (h : ∀ as st' ρ' H' vs zs ys, Step B σ ρ st H ρ' st' H' → Res B W σ ρ' st' H' (.ok as st') G → vs.length = n → zs.length = m → permL π (vs ++ (zs ++ dvs)) = some ys → RepKs B ρ' st' σ H' ys as → R vs zs H') :
    RK B W ge σ H (fun vs H1 => RK B W gk σ H1 fun zs H2 => R vs zs H2) := by
  unfold akArr at res
  refine RK.go rel (Res.bind res) fun as st1 ρ1 H1 s1 r1 vs rv => ?_
  refine RK.go s1.rel (Res.bind r1) fun bs st2 ρ2 H2 s2 r2 zs rz => ?_
  split at r2
  case isFalse => exact r2.elim
  rename_i hl
  cases e : permL π (as ++ (bs ++ dds.map fun d => (d, Kd.fro))) with
  | none => rw [e] at r2; exact r2.elim
  | some cs =>
    rw [e] at r2
    have rv' := RepKs.step s2 rv
    obtain ⟨ys, e1, ry⟩ := permL_rep (rv'.cat (RepKs.app rz (hdr _ _ _))) e
    exact h cs st2 ρ2 H2 vs zs ys (s1.trans s2) (by
      exact r2) (by rw [rv.len]; exact hl.1) (by rw [rz.len]; exact hl.2) e1 ry
end
section
variable {X : Cx} {k : Nat} {f : Addr} {fd : FuncData} {ps ks : List Str} {π : List Nat} {sp : Sp} {dvs : List V} {ds : List Value} {E : L2.St → XK} {x : Str} {p pos : Pos} {es : List Expr} {kws : List Keyword} {t tk : TA} {n : Nat}
/-- a class call -/
def tMkN (C : RC) (c : Nat) (n m : Nat) (π : List Nat) (sp : Sp) (dvs : List V) (E : L2.St → XK) (t tk : TA) : TE := fun σ H Q => t σ H fun vs H1 => tk σ H1 fun zs H2 => vs.length = n ∧ zs.length = m ∧ (∃ ys, permL π (vs ++ (zs ++ dvs)) = some ys) ∧ ∀ x dx, H2 x = none → H2 dx = none → dx ≠ x →
  sp (.ref x :: permD π (vs ++ (zs ++ dvs))) (mkH C H2 x dx c) (fun v H3 => v = .non ∧ Q (.ref x) H3) (E σ)
theorem permD_self {α : Type} {a : α} {as bs : List α} (h : permL π as = some bs) : permD (0 :: π.map (· + 1)) (a :: as) = a :: permD π as := by
  have e : ∀ π : List Nat, permL (π.map (· + 1)) (a :: as) = permL π as := fun π => by
    induction π with
    | nil => rfl
    | cons i π ih =>
      rw [List.map_cons]
      unfold permL
      rw [ih, List.getElem?_cons_succ]
  unfold permD
  have e2 : permL (0 :: π.map (· + 1)) (a :: as) = some (a :: bs) := by
    show (match (a :: as)[0]?, permL (π.map (· + 1)) (a :: as) with | some a, some r => some (a :: r) | _, _ => none) = _
    rw [e, h]
    rfl
  rw [e2, h]
  rfl
theorem run_mkN {pins : List (Addr × Obj)} {σ : L2.St} {H : Hp} {s : Shared} {Q : VK} {us ws : List Value} {vs zs : List V} {C : RC} {c : Nat} (M : Mk X.K (C.cls c) f) (F : FnG X.prog X.w X.K X.mg X.base k f fd ps sp) (hr : Room (k + 1) X.A) (hg : X.A.guards = some [])
    (hb : BindN X.K fd ps (n + 1) ks (0 :: π.map (· + 1)) ds) (hd : Vals dvs ds) (hx : PassesAt (L2.CX X.prog X.w) X σ (E σ)) (I : L2.Inv X pins σ H s) (r : Vals vs us) (rz : Vals zs ws) (l1 : vs.length = n) (l2 : zs.length = ks.length) (hπ : ∃ ys, permL π (vs ++ (zs ++ dvs)) = some ys)
    (h : ∀ x dx, H x = none → H dx = none → dx ≠ x → sp (.ref x :: permD π (vs ++ (zs ++ dvs))) (mkH C H x dx c) (fun v H2 => v = .non ∧ Q (.ref x) H2) (E σ)) :
    wpAny (model X.prog X.w) X.A (call (.ref (C.cls c)) us (ks.zip ws)) (EP X pins σ Q) X.xe s := by
  obtain ⟨ys, hys⟩ := hπ
  have hq := h (s.heap.objs.size + 1) s.heap.objs.size (I.hok.fresh (Nat.le_succ _)) (I.hok.fresh (Nat.le_refl _)) (Nat.ne_of_lt (Nat.lt_succ_self _))
  have I2 := Inv.made (C := C.cls c) I
  have r1 : Vals (V.ref (s.heap.objs.size + 1) :: vs) (Value.ref (s.heap.objs.size + 1) :: us) := .cons rfl r
  have r2 := vals_perm (π := 0 :: π.map (· + 1)) (r1.append (rz.append hd))
  rw [List.cons_append, permD_self hys] at r2
  have n1 : (Value.ref (s.heap.objs.size + 1) :: us).length = n + 1 := by
    rw [List.length_cons, ← r.length, l1]
  refine wpAny_call (make_map (f := f) I.kIn M.makes M.init (beq_iff_eq.mp M.fn) (codeAny_mono (F.run _ X.stack _ _ ⟨Value.ref (s.heap.objs.size + 1) :: us, ks.zip ws⟩ _ _ _ (E σ) (hr.make (C.cls c) us (ks.zip ws)) (by first | exact hg | simpa using hg)
    (I2.env0.make (C.cls c) us (ks.zip ws)) (hb.to _ (Value.ref (s.heap.objs.size + 1) :: us) ws I2.kIn n1 (rz.length.symm.trans l2)) r2 hq) fun r s' hq' => ?_))
  cases r with
  | error e => exact (by
      have := hx pins _ _ e s' I2 hq'
      exact this)
  | ok fl =>
    cases fl with
    | ret u =>
      obtain ⟨v, H', I3, rv, ev, q3⟩ := I2.after hq'
      subst ev
      exact ⟨rv, ⟨V.ref (s.heap.objs.size + 1), H', I3, rfl, q3⟩⟩
    | next => exact False.elim hq'
    | brk => exact False.elim hq'
    | cont => exact False.elim hq'
end
end D

/-! G: D's rules for calls with arranged arguments, class calls, methods, properties. -/
namespace D
open PySem L2 PyProof.Rows
section
variable {X : Cx} {B : BC} {W : WX} {σ : L2.St} {H : Hp} {Q : VK} {F : Fn} {π : List Nat} {n m : Nat} {dds : List DV} {dvs : List V} {ge gk : Ak}
theorem tMkN_of {c : Nat} (hdr : RepAny B.C dvs dds) (h : RD B W (evFn F (akArr π n m dds ge gk)) σ H Q) : tMkN B.C c n m π (SpI B.C c F) dvs (WE W) (RK B W ge) (RK B W gk) σ H Q := by
  obtain ⟨ρ, st, rel, res⟩ := h
  unfold evFn at res
  refine akArr_of rel hdr (R := fun vs zs H2 => vs.length = n ∧ zs.length = m ∧ (∃ ys, permL π (vs ++ (zs ++ dvs)) = some ys) ∧ ∀ x dx, H2 x = none → H2 dx = none → dx ≠ x →
    SpI B.C c F (.ref x :: permD π (vs ++ (zs ++ dvs))) (mkH B.C H2 x dx c) (fun v H3 => v = .non ∧ Q (.ref x) H3) (WE W σ)) (Res.bind res) fun as st1 ρ1 H1 vs zs ys s1 r1 l1 l2 e ry => ?_
  have r2 := Res.now s1.rel r1
  refine ⟨l1, l2, ⟨ys, e⟩, fun x dx hx hdx hne => ?_⟩
  have e4 : permD π (vs ++ (zs ++ dvs)) = ys := by unfold permD; rw [e]; rfl
  rw [e4]
  exact ⟨x, dx, H1, ys, Q, rfl, hx, hdx, hne, rfl, spF_of s1.rel ry (r2.imp fun _ _ _ _ _ => GE.dm s1.dm _ _ _ _), fun H' q => ⟨rfl, q⟩⟩
end
section
variable {X : Cx} {k : Nat} {f : Addr} {fd : FuncData} {ps ks : List Str} {π : List Nat} {sp : Sp} {dvs : List V} {ds : List Value} {E : L2.St → XK} {x : Str} {p pos : Pos} {es : List Expr} {kws : List Keyword} {t tk : TA} {n : Nat}
theorem pe_mkN {C : RC} {c : Nat} (M : Mk X.K (C.cls c) f) (F : FnG X.prog X.w X.K X.mg X.base k f fd ps sp) (hr : Room (k + 1) X.A) (hgu : X.A.guards = some []) (hg : Gl X x) (hm : X.mg x = some (.ref (C.cls c))) (hb : BindN X.K fd ps (n + 1) ks (0 :: π.map (· + 1)) ds) (hd : Vals dvs ds)
    (hx : ∀ σ, PassesAt (L2.CX X.prog X.w) X σ (E σ)) (hw : CW X es kws pos ks t tk) (hdb : (x == ("__debug__" : Str)) = false) : PE X (.Call (.Name x p) es kws pos) (tMkN C c n ks.length π sp dvs E t tk) := by
  refine ⟨fun pins s σ H Q I h => ?_⟩
  refine wpAny_Call_Name_kw (ld_glob I hg hm ?_ hdb)
  exact hw (.ref (C.cls c)) [] pins s σ H (fun vs zs H2 => vs.length = n ∧ zs.length = ks.length ∧ (∃ ys, permL π (vs ++ (zs ++ dvs)) = some ys) ∧ ∀ x dx, H2 x = none → H2 dx = none → dx ≠ x → sp (.ref x :: permD π (vs ++ (zs ++ dvs))) (mkH C H2 x dx c) (fun v H3 => v = .non ∧ Q (.ref x) H3) (E σ)) _ M.kp I h
    fun us ws vs zs H2 s2 I2 r rz ⟨l1, l2, hπ, q⟩ => run_mkN M F hr hgu hb hd (hx σ) I2 r rz l1 l2 hπ q
end
/-! ### methods -/
/-- the class of an object, its fields' names -/
def insOf (st : DS) : DV → Option (Nat × List Str)
  | .ins c ns _ => some (c, ns)
  | .cel k => match st.cs[k]? with
    | some (.obj (.ins c ns _)) => some (c, ns)
    | _ => none
  | _ => none
abbrev MTab (α : Type) := Nat → Option (List Nat × List α × Fn)
/-- the arranged ones behind an object -/
def akArrO (a : DV × Kd) (π : List Nat) (n m : Nat) (dds : List DV) (ge gk : Ak) : Ak := fun st => (ge st).bind fun as st1 => (gk st1).bind fun bs st2 => if as.length = n ∧ bs.length = m then (match permL π ((a :: as) ++ (bs ++ dds.map fun d => (d, Kd.fro))) with
  | some cs => .ok cs st2
  | none => .stuck) else .stuck
def evMth (L : MTab DV) (mn : Str) (n m : Nat) (fo : Ev) (ge gk : Ak) : Ev := fun st => (fo st).bind fun a st1 => match insOf st1 a.1 with
  | some (c, ns) => if ns.contains mn = true then .stuck else (match L c with
    | some (π, dds, F) => (akArrO a π n m dds ge gk st1).bind fun as st2 => backTo' st2.sl as (F (as.map (·.1)) ⟨[], st2.cs⟩)
    | none => .stuck)
  | none => .stuck
section
variable {X : Cx} {C : RC} {k n : Nat} {ks : List Str} {E : L2.St → XK} {mn : Str} {apos pos : Pos} {o : Expr} {es : List Expr} {kws : List Keyword} {to : TE} {t tk : TA} {L : MTab DV}
end
section
variable {B : BC} {W : WX} {σ : L2.St} {H : Hp} {Q : VK} {n m : Nat} {ge gk : Ak} {fo : Ev} {L : MTab DV} {mn : Str}
end
/-! ### properties -/
abbrev PTab := Nat → Option Fn
def evPrp (L : PTab) (fo : Ev) : Ev := fun st => (fo st).bind fun a st1 => match insOf st1 a.1 with
  | some (c, ns) => (match L c with
    | some F => (match F [a.1] ⟨[], st1.cs⟩ with
      | .ok r st2 => backTo' st1.sl [a] (.ok r st2)
      | _ => .stuck)
    | none => .stuck)
  | none => .stuck
section
variable {X : Cx} {C : RC} {k : Nat} {pn : Str} {pos : Pos} {o : Expr} {to : TE} {L : PTab}
variable {B : BC} {W : WX} {σ : L2.St} {H : Hp} {Q : VK} {fo : Ev}
end
end D

/-! G: own == and != (a def without memory). -/
namespace GNe
open PySem PySem.Spec PyProof.Rows PySem.SeqAt
section
variable {M : Model} {prog : Program} {w : World} {A : Around} {E : Value → Shared → Prop} {s : Shared} {K : PySem.W.Frag} {x C f h0 : Addr} {ox : Obj} {od : Option Obj} {b tb : Value}
end
end GNe
namespace D
open PySem L2 PyProof.Rows
/-- things are only added -/
structure Grow (T : List (Addr × Str)) (H H' : Hp) : Prop where
  fr : ∀ a o, H a = some o → NT o → H' a = some o
  dm : ∀ a, H a ≠ none → H' a ≠ none
  tabs : LamX.Tabs T H'
theorem Grow.refl {T : List (Addr × Str)} {H : Hp} (t : LamX.Tabs T H) : Grow T H H := ⟨fun _ _ e _ => e, fun _ z => z, t⟩
theorem Grow.trans {T : List (Addr × Str)} {H H1 H2 : Hp} (a : Grow T H H1) (b : Grow T H1 H2) : Grow T H H2 := ⟨fun x o e n => b.fr x o (a.fr x o e n) n, fun x z => b.dm x (a.dm x z), b.tabs⟩
theorem Rep.grow {C : RC} {ρ : List CellA} {A : Addr → Prop} {H H' : Hp} (g : Grow C.T H H') {v : V} {d : DV} (r : Rep C ρ A H v d) : Rep C ρ A H' v d := r.mv (List.prefix_refl _) (fun a o e _ n => g.fr a o e n) fun _ z => .inl z
section
variable {B : BC} {σ : L2.St} {ρ : List CellA} {st : DS} {H H' : Hp}
theorem Step.grow (rel : Rel B ρ st σ H) (g : Grow B.C.T H H') : Step B σ ρ st H ρ st H' := by
  refine Step.called rel (List.prefix_refl _) (fun a o e _ n => g.fr a o e n) (fun a z => .inl z) g.dm ⟨rel.cel.len, fun k c x h1 h2 => ?_, rel.cel.dis⟩ (fun a z => g.dm a (rel.cdom a z)) g.tabs
  have q := rel.cel.ok k c x h1 h2
  cases x with
  | draw d =>
    obtain ⟨gg, l, e1, n1, n2, n3, e3, e4, e5⟩ := q
    exact ⟨gg, l, e1, n1, n2, n3, g.fr _ _ e3 trivial, g.fr _ _ e4 trivial, g.fr _ _ e5 trivial⟩
  | obj d =>
    obtain ⟨o, eo, nt⟩ := q.2.nt
    exact ⟨q.1, q.2.mv (List.prefix_refl _) (fun a o e _ n => g.fr a o e n) (fun a z => .inl z) ((g.fr _ _ eo nt).trans eo.symm)⟩
  | dead => trivial
/-- nothing is held, nothing is shared, all that is is kept away -/
theorem Rel.bare (rel : Rel B ρ st σ H) : Rel ⟨B.C, Av ρ B.O st σ, H⟩ [] ⟨[], []⟩ [] H := by
  refine ⟨rfl, fun i d h => by simp at h, fun i d h => by simp at h, fun i j p h => by obtain ⟨d, h, _⟩ := h; simp at h, fun a z => z, fun a z => ?_, ⟨rfl, fun k c x h1 => by simp at h1, fun i j c c' h1 => by simp at h1⟩, fun a z => by obtain ⟨c, hc, _⟩ := z; simp at hc, rel.tabs⟩
  rcases z with z | z | ⟨i, d, h1, h2⟩
  · exact rel.odom a z
  · exact rel.cdom a z
  · obtain ⟨p, e, c, _⟩ := rel.own i d h1
    rw [h2] at e
    cases e
    exact c.some
theorem av_bare {O : Addr → Prop} {a : Addr} (z : Av [] O ⟨[], []⟩ [] a) : O a := by
  rcases z with z | z | ⟨i, d, h1, _⟩
  · exact z
  · obtain ⟨c, hc, _⟩ := z; simp at hc
  · simp at h1
theorem Rep.bare {C : RC} {A : Addr → Prop} {v : V} {d : DV} (h : noCel d = true) (r : Rep C ρ A H v d) : Rep C [] (Av [] A ⟨[], []⟩ []) H v d := r.nocel (fun _ _ e _ _ => e) (fun a z => .inl (av_bare z)) h
end
structure Two (C : RC) (O : Addr → Prop) (H : Hp) (x y : V) (a b : DV) : Prop where
  rel : Rel ⟨C, O, H⟩ [] ⟨[], []⟩ [] H
  rx : Rep C [] (Av [] O ⟨[], []⟩ []) H x a
  ry : Rep C [] (Av [] O ⟨[], []⟩ []) H y b
section
variable {X : Cx} {C : RC} {ct : CT} {k : Nat} {L : PTab}
theorem Two.ins {O : Addr → Prop} {H : Hp} {x y : V} {c : Nat} {ns : List Str} {ds : List DV} {b : DV} (t : Two C O H x y (.ins c ns ds) b) : ∃ p dx xs, x = .ref p ∧ H p = some (.ins (C.cls c) dx (ns.zip xs)) := by
  have r := t.rx
  cases r with
  | ins n e l q => exact ⟨_, _, _, rfl, e⟩
end
end D

/-! G: dicts written, dict(d), xs.append(ys.pop(i)). -/
namespace D
open PySem L2 PyProof.Rows
/-! ### d[k] = v -/
def putDK (k : Key) (a : DV) : List Key → List DV → List Key × List DV
  | j :: ks, d :: ds => if j = k then (j :: ks, a :: ds) else (j :: (putDK k a ks ds).1, d :: (putDK k a ks ds).2)
  | _, _ => ([k], [a])
section
variable {X : Cx} {B : BC} {W : WX} {i : Nat}
def svSetD (i : Nat) (fi fe : Ev) : Sv := fun st => match st.sl[i]? with
  | some (some (.dct _ _, true)) => (fe st).bind fun a st1 => (fi (st1.eat a.2)).bind fun j st2 => (match st2.sl[i]?, keyD j.1 with
    | some (some (.dct ks ds, true)), some k => if ks.Nodup ∧ ks.length < sizeLine then .ok .nx ⟨st2.sl.set i (some (.dct (putDK k a.1 ks ds).1 (putDK k a.1 ks ds).2, true)), st2.cs⟩ else .stuck
    | _, _ => .stuck)
  | _ => .stuck
end
section
variable {X : Cx} {C : RC} {W : WX} {O : Addr → Prop} {H0 : Hp} {x : Str} {pos p1 p2 : Pos} {e ie : Expr} {fe fi : Ev} {k : Nat}
end
/-! ### dict(d) -/
section
variable {X : Cx} {C : RC} {W : WX} {O : Addr → Prop} {H0 : Hp} {pos p : Pos} {e : Expr} {gk : Ak} {k : Nat}
end
/-! ### xs.append(ys.pop(i)), both own -/
def svAppPop (i j : Nat) (fe : Ev) : Sv := fun st => match st.sl[i]?, st.sl[j]? with
  | some (some (.lst _, true)), some (some (.lst _, true)) => if i = j then .stuck else (fe st).bind fun a st1 => (match st1.sl[i]?, st1.sl[j]?, a.1 with
    | some (some (.lst ds, true)), some (some (.lst es, true)), .int z => if -(2 ^ 63) ≤ z ∧ z < 2 ^ 63 ∧ ds.length < sizeLine then (match seqIndex? z es.length with
      | some n => (match es[n]? with
        | some d => .ok .nx ⟨(st1.sl.set j (some (.lst (es.eraseIdx n), true))).set i (some (.lst (ds ++ [d]), true)), st1.cs⟩
        | none => .stuck)
      | none => .stuck) else .stuck
    | _, _, _ => .stuck)
  | _, _ => .stuck
section
variable {X : Cx} {B : BC} {W : WX} {i j : Nat}
end
section
variable {X : Cx} {C : RC} {W : WX} {O : Addr → Prop} {H0 : Hp} {x y : Str} {p1 p3 apos cpos apos2 cpos2 pos : Pos} {e : Expr} {fe : Ev} {k : Nat}
end
end D

/-! G: a new list of values without containers does not hold what was looked at: own lists stay own. -/
namespace D
open PySem L2 PyProof.Rows
section
variable {C : RC} {ρ : List CellA} {A A' : Addr → Prop} {H : Hp}
end
section
variable {X : Cx} {B : BC} {W : WX} {e : Expr} {f : Ev}
end
end D

/-! G: own errors with an own __init__: the call of the base class's __init__, an own class without one. -/
namespace D
open PySem L2 PyProof.Rows ClX
section
variable {X : Cx} {x : Str} {C : Addr} {mc : Value} {e : Expr} {es : List Expr} {ta : TA} {p1 p2 pos : Pos}
theorem pe_aini {pl : Sem Bool} (hg : Gl X x) (hm : X.mg x = some (.ref C)) (r : CRead X.K C mc) (vV : PySem.W.findCls X.K (.ref C) mc "__init__" = some (.val (.builtin "ValueError.__init__"))) (ha : PA X (e :: es) ta)
    (hdb : (x == ("__debug__" : Str)) = false := by decide)
    (hc : eval (.Call (.Attribute (.Name x p1) "__init__" p2) (e :: es) [] pos) X.env = (do
      let ov ← eval (.Name x p1) X.env
      standAt p2.atName
      let (f, first) ← holding [ov] (getMethod ov "__init__" pl)
      callWith pos f first (backTo pos (starEach (e :: es) X.env)) (backToKw pos (keywordEach [] X.env))) := by rfl)
    (he : starEach (e :: es) X.env = (false, eval e X.env) :: starEach es X.env := by rfl) (hpl : (backTo pos (starEach es X.env)).any (·.1) = false := by rfl) :
    PE X (.Call (.Attribute (.Name x p1) "__init__" p2) (e :: es) [] pos) (tVeI X.K ta) := by
  refine ⟨fun pins s σ H Q I h => ?_⟩
  refine PySem.W.methodCall_KW (ld_glob I hg hm ?_ hdb) hc
  refine PySem.W.method_cls I.kIn r.ga (PySem.W.cls_value I.kIn r.rd vV (by decide +kernel) ?_)
  show wpAny _ _ (callWith pos (Value.builtin "ValueError.__init__") [] (backTo pos (starEach (e :: es) X.env)) []) _ _ _
  refine PyProof.Rows.callWith_method1 (thn (ha.run pos pins _ σ H _ ((I.tok _).tok _) h) fun us s1 ⟨vs, H1, I1, r1, a, C, ws, ev, hl, T, ea, q⟩ => ?_) he hpl
  subst ev
  cases r1 with
  | @cons _ u0 _ ur ra rw' =>
    obtain rfl : u0 = Value.ref a := ra
    have hlen : ur.length ≤ sizeLine := by
      rw [← Paired.length rw', sizeLine_eq]
      omega
    exact oinit_ok T I1 ea hlen fun s' J => ⟨.non, H1, J, rfl, q⟩
end
/-! ### raise C(e, ..), C with an own __init__ that keeps its arguments in fields -/
/-- what such an __init__ promises: the fields fs hold the arguments, in order -/
def SpX (K : PySem.W.Frag) (C : Addr) (fs : List Str) : Sp := fun vs H Q _ => ∃ a ws, vs = V.ref a :: ws ∧ ws.length = fs.length ∧ OexC K C ∧ H a = some (exo a C none) ∧
  ∀ H2 d, H d = none → d ≠ a → (∀ b, b ≠ a → b ≠ d → H2 b = H b) → H2 a = some (exo a C (some d)) → H2 d = some (exd d (fs.zip ws).reverse) → Q .non H2
def svRaiseX (c : Nat) (fs : List Str) (g : Ak) : Sv := fun st => (g st).bind fun as st1 => if as.length = fs.length then .exc ⟨c, fs.reverse, (as.map (·.1)).reverse⟩ (eatAll st1 as) else .stuck
section
variable {X : Cx} {B : BC} {W : WX} {c k : Nat} {x : Str} {fI : Addr} {fd : FuncData} {ps : List Str} {ds : List Value} {fs : List Str} {e : Expr} {es : List Expr} {g : Ak} {p p2 pos : Pos}
theorem repL_rev {C : RC} {ρ : List CellA} {A : Addr → Prop} {H : Hp} : ∀ {vs : List V} {ds : List DV}, RepL C ρ A H vs ds → RepL C ρ A H vs.reverse ds.reverse
  | _, _, .nil => .nil
  | _, _, .cons r t => by
    rw [List.reverse_cons, List.reverse_cons]
    exact (repL_rev t).append (.cons r .nil)
theorem zip_rev {α β : Type} : ∀ (as : List α) (bs : List β), as.length = bs.length → (as.zip bs).reverse = as.reverse.zip bs.reverse
  | [], [], _ => rfl
  | a :: as, b :: bs, h => by
    rw [List.zip_cons_cons, List.reverse_cons, List.reverse_cons, List.reverse_cons, zip_rev as bs (by simpa using h), List.zip_append (by simpa using h)]
    rfl
  | [], _ :: _, h => by simp at h
  | _ :: _, [], h => by simp at h
theorem psd_raiseX (hK : B.C.K = X.K) (hc : X.calm = true) (tk : Takes X W) (T : OexC X.K (B.C.cls c)) (iC : PySem.W.findIn X.K (.ref (B.C.cls c)) "__init__" = some (some (.ref fI))) (tI : PySem.W.typeIn X.K (.ref fI) = some (.type "function"))
    (F1 : FnOk X.prog X.w X.K X.mg X.base (L2.CX X.prog X.w) k fI fd ps (SpX X.K (B.C.cls c) fs)) (hr : Room (k + 1) X.A) (hb : Binds X.K fd ps []) (hx : Passes (L2.CX X.prog X.w) X (fun _ _ _ => False)) (hg : Gl X x) (hm : X.mg x = some (.ref (B.C.cls c)))
    (hl : fs.length ≤ 900) (ha : PKD X B W (e :: es) g)
    (hdb : (x == ("__debug__" : Str)) = false := by decide) (he : starEach (e :: es) X.env = (false, eval e X.env) :: starEach es X.env := by rfl) (hpl : (backTo pos (starEach es X.env)).any (·.1) = false := by rfl) :
    PSD X B W (.Raise (some (.Call (.Name x p) (e :: es) [] pos)) none p2) (svRaiseX c fs g) := by
  refine PS.mono (ps_raise hc tk (pmk_oex (dvs := []) T iC tI F1 hr hb .nil hx hg hm ha hdb he hpl)) fun D σ H ⟨ρ, st, rel, r⟩ => ?_
  unfold svRaiseX at r
  refine RK.go rel (SRes.ex r) fun as st1 ρ1 H1 s1 r1 vs rv => ?_
  by_cases hlen : as.length = fs.length
  · rw [if_pos hlen] at r1
    have hv : vs.length = as.length := RepKs.len rv
    have hz : vs.length = fs.length := hv.trans hlen
    refine ⟨by omega, fun a ha' => ⟨a, vs, by rw [List.append_nil], hz, T, upd_same, fun H2 d hd hne hfr h2a h2d => ⟨rfl, d, (fs.zip vs).reverse, h2a, h2d, ?_, ?_⟩⟩⟩
    · rw [upd_ne hne] at hd
      exact hd
    · have hd1 : H1 d = none := by rw [upd_ne hne] at hd; exact hd
      obtain ⟨s2, rl⟩ := eatAll_ok s1.rel rv
      have hH : upd (del H2 a) d (.xd (fs.zip vs).reverse) = upd H1 d (.xd (fs.zip vs).reverse) := by
        funext b
        by_cases hbd : b = d
        · subst hbd
          rw [upd_same, upd_same]
        · rw [upd_ne hbd, upd_ne hbd]
          by_cases hba : b = a
          · subst hba
            rw [del_same, ha']
          · rw [del_ne hba, hfr b hba hbd, upd_ne hba]
      rw [hH]
      refine r1 σ ρ1 _ _ _ (SStep.of (s2.trans (Step.alloc s2.rel hd1))) ⟨rfl, .inr ⟨d, vs.reverse, rfl, s2.rel.av_fresh hd1, ?_, ?_, ?_⟩⟩
      · rw [upd_same]
        exact congrArg (fun z => some (HO.xd z)) (zip_rev fs vs hz.symm)
      · show fs.reverse.length = vs.reverse.length
        rw [List.length_reverse, List.length_reverse, hz]
      · exact RepL.step (Step.alloc s2.rel hd1) (repL_rev rl)
  · rw [if_neg hlen] at r1
    exact r1.elim
end
/-! ### the walk of such an __init__: one field, two fields -/
def tX1 (K : PySem.W.Frag) (m : Str) (f : Str) : TS := tSeq (tDrop (tVeI K (tCons (tVar 0) (tCons (tC (.str m)) tNil)))) (tSeq (tOst K f (tVar 0) (tVar 1)) tNext)
section
variable {P : Program} {w : World} {K : PySem.W.Frag} {mg : Str → Option Value} {base : Heap} {k : Nat} {f : Addr} {qual name : Str} {params : Arguments} {body : List Stmt} {scope : Scope} {dV kV doc pm cdv ct oc : Value} {an od : Option Addr}
  {osl : Array (Option Value)} {N ps : List Str} {C : Addr} {m fa fb : Str}
theorem SpX.len {fs : List Str} {vs : List V} {H : Hp} {Q : VK} {E : XK} (h : SpX K C fs vs H Q E) : vs.length = fs.length + 1 := by
  obtain ⟨a, ws, rfl, h1, _⟩ := h
  rw [List.length_cons, h1]
theorem tX1_ok {N : List Str} {vs : List V} {H : Hp} {Q : VK} {E : XK} (hno : PySem.W.findIn K (.ref C) fa = some none) (h : SpX K C [fa] vs H Q E) : tX1 K m fa { nx := fun _ H' => Q .non H', rt := Q } (start N vs) H := by
  obtain ⟨a, ws, rfl, h1, T, ha, hq⟩ := h
  cases ws with
  | nil => cases h1
  | cons y r =>
    cases r with
    | cons _ _ => simp at h1
    | nil =>
      refine ⟨.ref a, rfl, a, C, [.str m], rfl, by simp, T, ha, ?_⟩
      refine ⟨y, rfl, .ref a, rfl, a, C, rfl, T, hno, .inl ⟨ha, fun d hd hne => ?_⟩⟩
      refine hq _ d hd hne (fun b h1 h2 => by rw [upd_ne h1, upd_ne h2]) upd_same ?_
      rw [upd_ne hne, upd_same]
      rfl
theorem okX1 (lk : K.lookup f = some ⟨oc, od, .func (PySem.W.fnOf name qual params body scope dV kV doc pm an cdv ct), osl⟩) (hcd : PySem.W.codeIn K cdv qual = true) (S : FnScope N ps scope) (hp : ps.length = 2) (hno : PySem.W.findIn K (.ref C) fa = some none)
    (hb : ∀ (A : Around) (outer : List Env) (s : Shared) (H : Hp) (E : XK), PSs (cxOf (L2.CX P w) P w K mg base N qual scope f cdv A outer s H E) body (tX1 K m fa)) :
    FnOk P w K mg base (L2.CX P w) (k + 1) f (PySem.W.fnOf name qual params body scope dV kV doc pm an cdv ct) ps (SpX K C [fa]) :=
  fn_of lk hcd S (fun vs H Q E h => by rw [h.len, hp]; rfl) fun A outer s H vs Q E hr h => ⟨_, hb A outer s H E, tX1_ok hno h⟩
end
/-! ### the rule in short -/
theorem passesF {X : Cx} : Passes (L2.CX X.prog X.w) X (fun _ _ _ => False) := fun _ _ _ _ _ _ _ z => by
  obtain ⟨_, _, _, _, _, _, _, _, _, _, _, _, z⟩ := z
  exact z.elim
/-- what is known of an own error's class at index c whose __init__ keeps its arguments in the fields fs -/
structure XK1 (P : Program) (w : World) (K : PySem.W.Frag) (mg : Str → Option Value) (base : Heap) (k : Nat) (C : Addr) (fs : List Str) : Prop where
  T : OexC K C
  ex : ∃ fI fd ps, PySem.W.findIn K (.ref C) "__init__" = some (some (.ref fI)) ∧ PySem.W.typeIn K (.ref fI) = some (.type "function") ∧ FnOk P w K mg base (L2.CX P w) k fI fd ps (SpX K C fs) ∧ Binds K fd ps []
theorem XK1.mono {P : Program} {w : World} {K : PySem.W.Frag} {mg : Str → Option Value} {base : Heap} {j k : Nat} {C : Addr} {fs : List Str} (h : XK1 P w K mg base j C fs) (hj : j ≤ k) : XK1 P w K mg base k C fs := by
  obtain ⟨T, fI, fd, ps, h1, h2, F, hb⟩ := h
  exact ⟨T, fI, fd, ps, h1, h2, F.mono hj, hb⟩
theorem ws_raiseX {X : Cx} {C : RC} {O : Addr → Prop} {H0 : Hp} {W : WX} {k : Nat} {x : Str} {fs : List Str} {e : Expr} {es : List Expr} {g : Ak} {p p2 pos : Pos} (fx : Fx X C W (k + 1)) (c : Nat) (XK : XK1 X.prog X.w X.K X.mg X.base k (C.cls c) fs) (hm : X.mg x = some (.ref (C.cls c))) (ha : PKD X ⟨C, O, H0⟩ W (e :: es) g) (hl : fs.length ≤ 900 := by decide) (hg : Gl X x := by rfl)
    (hdb : (x == ("__debug__" : Str)) = false := by decide) (he : starEach (e :: es) X.env = (false, eval e X.env) :: starEach es X.env := by rfl) (hpl : (backTo pos (starEach es X.env)).any (·.1) = false := by rfl) :
    PSD X ⟨C, O, H0⟩ W (.Raise (some (.Call (.Name x p) (e :: es) [] pos)) none p2) (svRaiseX c fs g) := by
  obtain ⟨T, fI, fd, ps, h1, h2, F, hb⟩ := XK
  exact psd_raiseX (B := ⟨C, O, H0⟩) fx.K fx.calm fx.tk T h1 h2 F fx.room hb passesF hg hm hl ha hdb he hpl
end D

/-! G: own classes, the rules in short: class calls, methods, properties, own == and != beside the plain ones. -/
namespace D
open PySem L2 PyProof.Rows
section
variable {X : Cx} {B : BC} {W : WX} {e : Expr} {es : List Expr} {kws : List Keyword} {pos : Pos} {ks : List Str} {ge gk : Ak} {σ : L2.St} {H : Hp}
theorem RK.mono {g : Ak} {Q Q' : List V → Hp → Prop} (h : RK B W g σ H Q) (m : ∀ vs H, Q vs H → Q' vs H) : RK B W g σ H Q' := by
  obtain ⟨ρ, st, rel, r⟩ := h
  exact ⟨ρ, st, rel, r.imp fun _ _ _ _ _ g vs rv => m _ _ (g vs rv)⟩
theorem RK.nil {Q : List V → Hp → Prop} (h : RK B W akNil σ H Q) : Q [] H := by
  obtain ⟨ρ, st, rel, r⟩ := h
  exact Res.now rel r [] .nil
theorem cwd_a (ha : PKD X B W (e :: es) ge) (he : starEach (e :: es) X.env = (false, eval e X.env) :: starEach es X.env := by rfl) (hpl : (backTo pos (starEach es X.env)).any (·.1) = false := by rfl) : CW X (e :: es) [] pos [] (RK B W ge) (RK B W akNil) :=
  fun f first pins s σ H R Q hk I h k => cw_a (pos := pos) ha he hpl f first pins s σ H R Q hk I (RK.mono h fun _ _ z => RK.nil z) k
end
/-- the values that lack are dds -/
def BnD (C : RC) (K : PySem.W.Frag) (fd : FuncData) (ps : List Str) (n : Nat) (ks : List Str) (π : List Nat) (dds : List DV) : Prop := ∃ dvs ds, RepAny C dvs dds ∧ Vals dvs ds ∧ BindN K fd ps n ks π ds
section
variable {X : Cx} {C : RC} {O : Addr → Prop} {H0 : Hp} {W : WX} {k l n : Nat} {o : Expr} {es : List Expr} {kws : List Keyword} {pos p apos : Pos} {x mn pn : Str} {ks : List Str} {ge gk : Ak} {fo : Ev} {F : Fn} {f : Addr} {fd : FuncData} {ps : List Str} {π : List Nat} {dds : List DV}
/-- a class call -/
theorem w_mk (n : Nat) (ks : List Str) (π : List Nat) (dds : List DV) (c : Nat) (fx : Fx X C W k) (M : Mk X.K (C.cls c) f) (Fk : FnG X.prog X.w X.K X.mg X.base l f fd ps (SpI C c F)) (hm : X.mg x = some (.ref (C.cls c))) (hb : BnD C X.K fd ps (n + 1) ks (0 :: π.map (· + 1)) dds)
    (hw : CW X es kws pos ks (RK ⟨C, O, H0⟩ W ge) (RK ⟨C, O, H0⟩ W gk)) (hl : l + 1 ≤ k := by decide) (hg : Gl X x := by rfl) (hdb : (x == ("__debug__" : Str)) = false := by decide) :
    PD X ⟨C, O, H0⟩ W (.Call (.Name x p) es kws pos) (evN (evFn F (akArr π n ks.length dds ge gk))) := by
  obtain ⟨dvs, ds, hdr, hd, hb⟩ := hb
  exact pd_n (PE.mono (pe_mkN (E := WE W) M Fk (fx.room.mono hl) fx.gu hg hm hb hd (passAt fx.tk) hw hdb) fun _ _ _ h => tMkN_of (B := ⟨C, O, H0⟩) hdr h)
end
/-- a def with defaults -/
def FunY (K : PySem.W.Frag) (x qual : Str) (st : Stmt) (f : Addr) (fd : FuncData) : Prop := ∃ dvs kws, FunX K x qual st dvs kws f fd
section
variable {P : Program} {w : World} {mg : Str → Option Value} {base : Heap} {C : RC} {x qual : Str} {st : Stmt} {f : Addr} {fd : FuncData} {N ps : List Str} {k c : Nat} {sv : Sv}
theorem FunY.kp {K : PySem.W.Frag} (F : FunY K x qual st f fd) : PySem.W.keepIn K (.ref f) = true := by
  obtain ⟨_, _, F⟩ := F
  exact F.kp
theorem FunY.okI (F : FunY C.K x qual st f fd) (S : FnScope N ps (defScope st))
    (hb : ∀ (cdv : Value) (A : Around) (outer : List Env) (s : Shared) (H : Hp) (E : XK), fd.code = cdv → Room k (A.deeper (envOfC qual (defScope st) s.heap.objs.size f cdv)) → (cxOf (L2.CX P w) P w C.K mg base N qual (defScope st) f cdv A outer s H E).A.guards = some [] →
      ∀ O H0, PSsD (cxOf (L2.CX P w) P w C.K mg base N qual (defScope st) f cdv A outer s H E) ⟨C, O, H0⟩ (fun cls d _ H' => E cls d H') (defBody st) sv) :
    FnG P w C.K mg base (k + 1) f fd ps (SpI C c (fnIni N.length ps.length c sv)) := by
  obtain ⟨_, _, F⟩ := F
  exact FunX.okI F S hb
theorem FunY.okG (F : FunY C.K x qual st f fd) (S : FnScope N ps (defScope st))
    (hb : ∀ (cdv : Value) (A : Around) (outer : List Env) (s : Shared) (H : Hp) (E : XK), fd.code = cdv → Room k (A.deeper (envOfC qual (defScope st) s.heap.objs.size f cdv)) → (cxOf (L2.CX P w) P w C.K mg base N qual (defScope st) f cdv A outer s H E).A.guards = some [] →
      ∀ O, PSsD (cxOf (L2.CX P w) P w C.K mg base N qual (defScope st) f cdv A outer s H E) ⟨C, O, H⟩ (fun cls d _ H' => E cls d H') (defBody st) sv) :
    FnG P w C.K mg base (k + 1) f fd ps (SpF C (fnSv N.length ps.length sv)) := by
  obtain ⟨_, _, F⟩ := F
  exact FunX.okG F S hb
theorem Fun.okI (F : Fun C.K x qual st f fd) (S : FnScope N ps (defScope st))
    (hb : ∀ (cdv : Value) (A : Around) (outer : List Env) (s : Shared) (H : Hp) (E : XK), fd.code = cdv → Room k (A.deeper (envOfC qual (defScope st) s.heap.objs.size f cdv)) → (cxOf (L2.CX P w) P w C.K mg base N qual (defScope st) f cdv A outer s H E).A.guards = some [] →
      ∀ O H0, PSsD (cxOf (L2.CX P w) P w C.K mg base N qual (defScope st) f cdv A outer s H E) ⟨C, O, H0⟩ (fun cls d _ H' => E cls d H') (defBody st) sv) :
    FnG P w C.K mg base (k + 1) f fd ps (SpI C c (fnIni N.length ps.length c sv)) := FunX.okI (FunX.of F) S hb
/-- an own error's __init__ -/
theorem xk_of1 {K : PySem.W.Frag} {Ca : Addr} {m fa : Str} (hno : PySem.W.findIn K (.ref Ca) fa = some none) (F : Fun K x qual st f fd) (S : FnScope N ps (defScope st)) (hp : ps.length = 2) (T : OexC K Ca)
    (i : PySem.W.findIn K (.ref Ca) "__init__" = some (some (.ref f))) (t : PySem.W.typeIn K (.ref f) = some (.type "function")) (b : Binds K fd ps [])
    (hb : ∀ (cdv : Value) (A : Around) (outer : List Env) (s : Shared) (H : Hp) (E : XK), PSs (cxOf (L2.CX P w) P w K mg base N qual (defScope st) f cdv A outer s H E) (defBody st) (tX1 K m fa)) : XK1 P w K mg base 1 Ca [fa] := by
  obtain ⟨oc, od, kV, doc, pm, an, cdv, ct, osl, rfl, lk, hcd⟩ := F.ex
  exact ⟨T, f, _, ps, i, t, okX1 lk hcd S hp hno fun A outer s H E => hb _ A outer s H E, b⟩
end
section
variable {X : Cx} {C : RC} {O : Addr → Prop} {H0 : Hp} {W : WX} {k : Nat} {a b : Expr} {fa fb : Ev} {pos : Pos} {ct : CT}
end
end D

/-! G: x in o, o of an own class with a __contains__. -/
namespace GIn
open PySem PySem.Spec PyProof.Rows PySem.SeqAt
section
variable {M : Model} {A : Around} {E : Value → Shared → Prop} {s : Shared} {K : PySem.W.Frag} {x C f : Addr} {ox : Obj} {od : Option Obj}
end
end GIn
namespace D
open PySem L2 PyProof.Rows
section
variable {X : Cx} {C : RC} {k : Nat} {L : PTab}
end
section
variable {X : Cx} {C : RC} {O : Addr → Prop} {H0 : Hp} {W : WX} {k : Nat} {a b : Expr} {fa fb : Ev} {pos : Pos}
end
end D

/-! G: len({elt for target in iter}), the elements numbers and texts. -/
namespace D
open PySem L2 PyProof.Rows
def memK (ks : List Key) (k : Key) : Bool := ks.any fun j => decide (j = k)
def insK (ks : List Key) (k : Key) : List Key := if memK ks k = true then ks else ks ++ [k]
section
variable {X : Cx} {pins : List (Addr × Obj)} {σ : L2.St} {elt tg iter : Expr} {scope : Scope} {own : List (Str × Nat)} {pos : Pos} {g : TG} {te : TE}
end
end D

/-! G: len({elt for target in iter}) in D. -/
namespace D
open PySem L2 PyProof.Rows
def setL (ds : List DV) : List Key := (ds.filterMap keyD).foldl insK []
/-- a key or nothing -/
def evKey (fe : Ev) : Ev := fun st => (fe st).bind fun a st1 => if (keyD a.1).isSome = true then .ok a st1 else .stuck
def evLenSc (vs : List Nat) (fi : Iv) (g : Gv) (fe : Ev) : Ev := fun st => (fi st).bind fun ds st1 => if ds.length + 1 < scanBound then (match lcGo vs g tvYes (evKey fe) ds [] (st1.dropAll vs) with
  | some r => .ok (.int (setL r.1).length, .new) r.2
  | none => .stuck) else .stuck
section
variable {B : BC} {σ : L2.St} {ρ : List CellA} {st : DS} {H : Hp} {p : Addr}
end
section
variable {B : BC} {σ : L2.St} {W : WX} {H : Hp} {vs : List Nat} {P : Program} {w : World}
end
section
variable {X : Cx} {C : RC} {O : Addr → Prop} {H0 : Hp} {W : WX} {k : Nat} {elt tg iter : Expr} {scope : Scope} {pos lpos np : Pos}
end
end D

/-! G: == of two lists of own things that are equal. -/
namespace D
open PySem L2 PyProof.Rows
section
variable {C : RC} {O : Addr → Prop} {H H' : Hp} {x y : V} {a b : DV}
theorem Two.grow (t : Two C O H x y a b) (g : Grow C.T H H') : ∃ O', Two C O' H' x y a b := by
  have s := Step.grow t.rel g
  refine ⟨Av [] O ⟨[], []⟩ [], ⟨s.rel.bare, ?_, ?_⟩⟩
  · exact t.rx.mv (List.prefix_refl _) (fun a o e _ n => g.fr a o e n) fun a z => .inl (av_bare z)
  · exact t.ry.mv (List.prefix_refl _) (fun a o e _ n => g.fr a o e n) fun a z => .inl (av_bare z)
end
section
variable {X : Cx} {C : RC} {ct : CT} {k : Nat} {L : PTab}
end
section
variable {X : Cx} {C : RC} {O : Addr → Prop} {H0 : Hp} {W : WX} {k : Nat} {a b : Expr} {fa fb : Ev} {pos : Pos} {ct : CT}
end
end D

/-! G: o[i] and len(o), o of an own class with __getitem__, __len__. -/
namespace GGet
open PySem PySem.Spec PyProof.Rows PySem.SeqAt PySem.Calls Builtin
section
variable {prog : Program} {w : World} {A : Around} {E : Value → Shared → Prop} {s : Shared} {K : PySem.W.Frag} {x C f : Addr} {ox : Obj} {od : Option Obj}
end
end GGet
namespace D
open PySem L2 PyProof.Rows
/-! ### o[i] -/
def evGet (L : PTab) (fo fi : Ev) : Ev := fun st => (fo st).bind fun a st1 => (fi st1).bind fun b st2 => match insOf st2 a.1 with
  | some (c, ns) => (match L c with
    | some F => backTo' st2.sl [a, b] (F [a.1, b.1] ⟨[], st2.cs⟩)
    | none => .stuck)
  | none => .stuck
section
variable {X : Cx} {C : RC} {k : Nat} {L : PTab} {o i : Expr} {pos : Pos} {to ti : TE} {E : L2.St → XK}
variable {B : BC} {W : WX} {σ : L2.St} {H : Hp} {Q : VK} {fo fi : Ev}
end
section
variable {X : Cx} {C : RC} {O : Addr → Prop} {H0 : Hp} {W : WX} {k : Nat} {a b : Expr} {fa fb : Ev} {pos : Pos}
end
/-! ### len(o) -/
structure One (C : RC) (O : Addr → Prop) (H : Hp) (x : V) (a : DV) : Prop where
  rel : Rel ⟨C, O, H⟩ [] ⟨[], []⟩ [] H
  rx : Rep C [] (Av [] O ⟨[], []⟩ []) H x a
theorem One.ins {C : RC} {O : Addr → Prop} {H : Hp} {x : V} {c : Nat} {ns : List Str} {ds : List DV} (t : One C O H x (.ins c ns ds)) : ∃ p dx xs, x = .ref p ∧ H p = some (.ins (C.cls c) dx (ns.zip xs)) := by
  have r := t.rx
  cases r with
  | ins n e l q => exact ⟨_, _, _, rfl, e⟩
section
variable {X : Cx} {C : RC} {k : Nat} {L : PTab}
end
section
variable {X : Cx} {C : RC} {O : Addr → Prop} {H0 : Hp} {W : WX} {k : Nat} {e : Expr} {gk : Ak} {pos p : Pos}
end
end D

/-! G: tables of what the top has written. -/
namespace D
open PySem L2 PyProof.Rows
def fdOf {K : PySem.W.Frag} {x qual : Str} {st : Stmt} {f : Addr} {fd : FuncData} (_ : Fun K x qual st f fd) : FuncData := fd
def fdOfX {K : PySem.W.Frag} {x qual : Str} {st : Stmt} {dvs : List V} {kws : List (Str × V)} {f : Addr} {fd : FuncData} (_ : FunX K x qual st dvs kws f fd) : FuncData := fd
def ixA : List Addr → Nat → Addr
  | [], _ => 0
  | a :: _, 0 => a
  | _ :: l, n + 1 => ixA l n
def ixF (z : FuncData) : List FuncData → Nat → FuncData
  | [], _ => z
  | a :: _, 0 => a
  | _ :: l, n + 1 => ixF z l n
structure Dt where
  cls : Nat → Addr
  T : List (Addr × Str)
  a : Nat → Addr
  f : Nat → FuncData
end D

/-! G: dict(list of pairs). -/
namespace D
open PySem L2 PyProof.Rows
section
variable {C : RC} {ρ : List CellA} {A : Addr → Prop} {H : Hp}
end
section
variable {X : Cx} {C : RC} {W : WX} {O : Addr → Prop} {H0 : Hp} {pos p : Pos} {e : Expr} {gk : Ak} {k : Nat}
end
/-! ### list(d) -/
section
variable {X : Cx} {C : RC} {W : WX} {O : Addr → Prop} {H0 : Hp} {pos p : Pos} {e : Expr} {gk : Ak} {k : Nat}
end
/-! ### x, y, z = a, b, c by a tuple -/
section
variable {X : Cx} {B : BC} {W : WX}
end
section
variable {X : Cx} {C : RC} {O : Addr → Prop} {H0 : Hp} {W : WX} {k : Nat} {a b c : Expr} {fa fb fc : Ev} {x y z : Str} {pos px py pz pt pt2 : Pos} {kt k2 : Nat}
end
section
variable {X : Cx} {B : BC} {W : WX}
end
section
variable {X : Cx} {C : RC} {O : Addr → Prop} {H0 : Hp} {W : WX} {k : Nat} {a b c e : Expr} {fa fb fc fe : Ev} {x y z u : Str} {pos px py pz pu pt pt2 : Pos} {kt k2 : Nat}
end
end D

/-! G: f(xs), xs own, a list of numbers: an answer that holds no such list leaves it own. -/
namespace D
open PySem L2 PyProof.Rows
section
variable {C : RC} {ρ : List CellA} {H : Hp}
end
section
variable {C : RC} {X : Cx} {B : BC} {W : WX} {F : Fn} {g : Ak}
end
section
variable {X : Cx} {k : Nat} {f : Addr} {fd : FuncData} {ps : List Str} {sp : Sp} {dvs : List V} {ds : List Value} {x : Str} {p pos : Pos} {e : Expr} {es : List Expr} {B : BC} {W : WX} {F : Fn} {g : Ak}
end
section
variable {X : Cx} {C : RC} {O : Addr → Prop} {H0 : Hp} {W : WX} {k : Nat} {e : Expr} {es : List Expr} {gk : Ak} {pos p : Pos} {x : Str}
end
/-! ### lists of different lengths are unequal -/
section
variable {X : Cx} {C : RC}
end
section
variable {X : Cx} {C : RC} {O : Addr → Prop} {H0 : Hp} {W : WX} {k : Nat} {a b : Expr} {fa fb : Ev} {pos : Pos}
end
end D

/-! G: a new list that is held nowhere, appended to or cleared, and left. -/
namespace D
open PySem L2 PyProof.Rows
section
variable {X : Cx} {B : BC} {W : WX} {σ : L2.St} {ρ ρ1 : List CellA} {st st1 : DS} {H H1 : Hp} {o e : Expr} {fo fe : Ev} {p : Addr}
theorem SStep.tempW {u w : HO} (r0 : Rel B ρ st σ H) (s : Step B σ ρ st H ρ1 st1 H1) (hd : st1.cs.all isDraw = true) (hp : H p = none) (h1 : H1 p = some u) (hw : WR u) (hc : ¬ CM ρ1 p) : SStep B σ ρ st H σ ρ1 st1 (upd H1 p w) where
  pre := s.pre
  rel := ((Rel.hold r0 s hd hp (by rw [h1]; exact fun z => nomatch z)).writeHeld hc fun v e => by rw [h1] at e; cases e; exact hw).unhold
  fr := fun a v e n _ t => by
    have : a ≠ p := fun z => by rw [z, hp] at e; cases e
    rw [upd_ne this]
    exact s.fr a v e n t
  av := s.av
  cm := s.cm
  dm := fun a z => by
    by_cases h : a = p
    · rw [h, upd_same]; exact fun z => nomatch z
    · rw [upd_ne h]; exact s.dm a z
/-- o.append(e), o a new list -/
def svAppT (fo fe : Ev) : Sv := fun st => (fo st).bind fun a st1 => match a with
  | (.lst ds, .new) => (fe st1).bind fun _ st2 => if ds.length < sizeLine ∧ st2.cs.all isDraw = true then .ok .nx st2 else .stuck
  | _ => .stuck
theorem psd_appT {apos cpos pos : Pos} (hK : B.C.K = X.K) (ho : PD X B W o fo) (he : PD X B W e fe) (hbase : attributeBase o "append" X.env (eval o X.env) = eval o X.env)
    (hfew : ((backTo cpos (starEach [e] X.env)).all (fun x => !x.1) && (backToKw cpos (keywordEach [] X.env)).all (fun x => x.1.isSome) && decide (([e] : List Expr).length + ([] : List Keyword).length + (if ([] : List Keyword).isEmpty then 0 else 1) < 30)) = true)
    (hline : (apos.endLine == cpos.line) = true) (hst : starEach [e] X.env = (false, eval e X.env) :: starEach [] X.env) (hplain : (backTo cpos (starEach [] X.env)).any (·.1) = false) (hs : swapsWith (.Call (.Attribute o "append" apos) [e] [] cpos) none pos.line X.env = pure false) :
    PSD X B W (.Expr (.Call (.Attribute o "append" apos) [e] [] cpos) pos) (svAppT fo fe) := by
  refine PS.mono (ps_expr (pe_bm PySem.F.plainAttrs_list PySem.F.slot_list_append PySem.F.type_list_append mt_append ho (pkd_cons he pkd_nil hst) hbase hfew hline hst hplain) hs) fun D σ H ⟨ρ, st, rel, r⟩ => ?_
  refine RD.go rel (SRes.ex0 r) fun a st1 ρ1 H1 s1 r1 v rv fv => ?_
  split at r1
  case h_2 => exact r1.elim
  rename_i ds
  obtain ⟨p, xs, rfl, ex, rx⟩ := RepK.lst rv
  have hp : H p = none := fv p rfl
  refine ⟨?_, ?_⟩
  · rw [← hK]; exact ty_lst B ρ1 st1 σ H1 .new (.ref p) (.lst ds) rfl rfl rv
  · have r2 := SRes.ex0 r1
    have r2' : Res B W σ ρ1 st1 H1 (fe st1) fun _ st2 _ _ => SRes B W σ ρ st H (if ds.length < sizeLine ∧ st2.cs.all isDraw = true then Out.ok Fl.nx st2 else Out.stuck) (GS B D) := by
      cases e : fe st1 with
      | stuck => rw [e] at r2; exact r2.elim
      | exc x st2 => rw [e] at r2; exact fun ρ' H' cls d s q => r2 ρ' H' cls d (s1.trans s) q
      | ok b st2 => rw [e] at r2; exact fun ρ' H' s => r2 ρ' H' (s1.trans s)
    refine ⟨ρ1, st1, s1.rel, ?_⟩
    show Res B W σ ρ1 st1 H1 (akCons fe akNil st1) _
    unfold akCons akNil
    cases e : fe st1 with
    | stuck => rw [e] at r2'; exact r2'.elim
    | exc x st2 => rw [e] at r2'; exact r2'
    | ok b st2 =>
      rw [e] at r2'
      intro ρ2 H2 s2 vs rvs
      have r3 : SRes B W σ ρ st H (if ds.length < sizeLine ∧ st2.cs.all isDraw = true then Out.ok Fl.nx st2 else Out.stuck) (GS B D) := r2' ρ2 H2 s2
      split at r3
      case isFalse => exact r3.elim
      rename_i hc
      have nc : ¬ CM ρ1 p := fun z => by
        cases rv.1 with
        | lst n' _ _ => exact n' (.inr (.inl z))
      have ex2 : H2 p = some (.lst xs) := s2.fr p _ ex nc trivial
      have nc2 : ¬ CM ρ2 p := fun z => (s2.cm p z).elim nc fun q => by rw [ex] at q; cases q
      cases rvs with
      | cons rw_ rn =>
        rename_i w ws
        cases rn
        refine ⟨p, xs, w, rfl, rfl, ex2, by rw [rx.length]; exact hc.1, ?_⟩
        exact r3 _ _ _ (SStep.tempW rel (s1.trans s2) hc.2 hp ex2 trivial nc2)
variable {C : RC} {O : Addr → Prop} {H0 : Hp} {k : Nat} {apos cpos pos : Pos}
theorem ws_appT (fx : Fx X C W k) (ho : PD X ⟨C, O, H0⟩ W o fo) (he : PD X ⟨C, O, H0⟩ W e fe) (hbase : attributeBase o "append" X.env (eval o X.env) = eval o X.env := by rfl)
    (hfew : ((backTo cpos (starEach [e] X.env)).all (fun x => !x.1) && (backToKw cpos (keywordEach [] X.env)).all (fun x => x.1.isSome) && decide (([e] : List Expr).length + ([] : List Keyword).length + (if ([] : List Keyword).isEmpty then 0 else 1) < 30)) = true := by rfl)
    (hline : (apos.endLine == cpos.line) = true := by rfl) (hst : starEach [e] X.env = (false, eval e X.env) :: starEach [] X.env := by rfl) (hplain : (backTo cpos (starEach [] X.env)).any (·.1) = false := by rfl) (hs : swapsWith (.Call (.Attribute o "append" apos) [e] [] cpos) none pos.line X.env = pure false := by rfl) :
    PSD X ⟨C, O, H0⟩ W (.Expr (.Call (.Attribute o "append" apos) [e] [] cpos) pos) (svAppT fo fe) :=
  psd_appT (B := ⟨C, O, H0⟩) fx.K ho he hbase hfew hline hst hplain hs
end
end D

/-! G: lists cleared: an own one, and a new one that is held nowhere. -/
namespace D
open PySem L2 PyProof.Rows
section
variable {X : Cx} {B : BC} {W : WX} {σ : L2.St} {ρ ρ1 : List CellA} {st st1 : DS} {H H1 : Hp} {o e : Expr} {fo fe : Ev} {p : Addr} {i : Nat}
variable {C : RC} {O : Addr → Prop} {H0 : Hp} {k : Nat} {apos cpos pos : Pos}
end
end D

/-! F: what D's functions answer, told forward: goals «from this state on, .. holds». -/
namespace D
open PySem L2 PyProof.Rows
abbrev EK := DX → List CellC → Prop
abbrev QE := DV → Kd → DS → Prop
def noX : EK := fun _ _ => False
def W {α : Type} (o : Out α) (q : α → DS → Prop) (E : EK) : Prop := match o with | .ok a st => q a st | .exc x st => E x st.cs | .stuck => False
theorem W.bind {α β : Type} {o : Out α} {k : α → DS → Out β} {q : β → DS → Prop} {E : EK} (h : W o (fun a st => W (k a st) q E) E) : W (o.bind k) q E := by cases o <;> exact h
theorem W.imp {α : Type} {o : Out α} {q q' : α → DS → Prop} {E : EK} (h : W o q E) (hq : ∀ a st, q a st → q' a st) : W o q' E := by
  cases o with
  | ok a st => exact hq _ _ h
  | exc x st => exact h
  | stuck => exact h
theorem W.impE {α : Type} {o : Out α} {q : α → DS → Prop} {E E' : EK} (h : W o q E) (hE : ∀ x cs, E x cs → E' x cs) : W o q E' := by
  cases o with
  | ok a st => exact h
  | exc x st => exact hE _ _ h
  | stuck => exact h
/-- an expression, a test, several results, several things, a slice's part, pairs -/
def WE' (o : Out (DV × Kd)) (q : QE) (E : EK) : Prop := W o (fun a st => q a.1 a.2 st) E
def WT (o : Out Bool) (q : Bool → DS → Prop) (E : EK) : Prop := W o q E
def WA (o : Out (List (DV × Kd))) (q : List (DV × Kd) → DS → Prop) (E : EK) : Prop := W o q E
def WV (o : Out (List DV)) (q : List DV → DS → Prop) (E : EK) : Prop := W o q E
def WP (o : Out (Option Int)) (q : Option Int → DS → Prop) (E : EK) : Prop := W o q E
def WDp (o : Out (List Key × List DV)) (q : List Key → List DV → DS → Prop) (E : EK) : Prop := W o (fun a st => q a.1 a.2 st) E
/-- behind a statement -/
structure KS where
  nx : DS → Prop
  bk : DS → Prop
  ct : DS → Prop
  rt : QE
def KS.of (k : KS) : Fl → DS → Prop
  | .nx, st => k.nx st
  | .bk, st => k.bk st
  | .ct, st => k.ct st
  | .rt d kd, st => k.rt d kd st
def WS (o : Out Fl) (k : KS) (E : EK) : Prop := W o k.of E
/-- an operation's answer -/
def WO (o : Option (DV × Kd)) (q : DV → Kd → Prop) : Prop := match o with | some c => q c.1 c.2 | none => False
theorem W.opt {o : Option (DV × Kd)} {st : DS} {q : QE} {E : EK} (h : WO o fun c kd => q c kd st) : W (match o with | some c => Out.ok c st | none => Out.stuck) (fun a st => q a.1 a.2 st) E := by cases o <;> exact h
/-- a def's answer -/
def WF' (F : Fn) (ds : List DV) (cs : List CellC) (q : DV → Kd → List CellC → Prop) (E : EK) : Prop := W (F ds ⟨[], cs⟩) (fun a st => q a.1 a.2 st.cs) E
/-- a target -/
def WG (o : Option DS) (q : DS → Prop) : Prop := match o with | some st => q st | none => False
def IfK (k : Bool) (A B : Prop) : Prop := match k with | true => A | false => B
theorem IfK.imp {k : Bool} {A B A' B' : Prop} (h : IfK k A B) (h1 : A → A') (h2 : B → B') : IfK k A' B' := by cases k; exact h2 h; exact h1 h
def nk (d : DV) (kd : Kd) : Kd := if flat d = true then .new else kd
def kdO : Kd → Kd
  | .new => .new
  | _ => .fro
theorem IfK.yes {A B : Prop} (h : A) : IfK true A B := h
theorem IfK.no {A B : Prop} (h : B) : IfK false A B := h
theorem IfK.dec {A B P : Prop} [Decidable P] (h1 : P → A) (h2 : ¬ P → B) : IfK (decide P) A B := by
  by_cases hP : P
  · rw [decide_eq_true hP]; exact h1 hP
  · rw [decide_eq_false hP]; exact h2 hP
theorem IfK.bool {A B : Prop} {c : Bool} (h1 : c = true → A) (h2 : c = false → B) : IfK c A B := by
  cases c
  · exact h2 rfl
  · exact h1 rfl
theorem IfK.to {A B : Prop} {c : Bool} (h : c = true) (h1 : A) : IfK c A B := by rw [h]; exact h1
theorem IfK.fo {A B : Prop} {c : Bool} (h : c = false) (h1 : B) : IfK c A B := by rw [h]; exact h1
section
variable {q : QE} {qb : Bool → DS → Prop} {qa : List (DV × Kd) → DS → Prop} {qv : List DV → DS → Prop} {qp : Option Int → DS → Prop} {qd : List Key → List DV → DS → Prop} {E : EK} {k : KS} {st st1 : DS} {sl : List Slot} {cs : List CellC} {fa fb fc fe : Ev} {f g : Sv} {ta tb t : Tv} {ga gb : Ak} {ge : Av'} {d a b : DV} {kd : Kd} {i j : Nat} {o : Option (DV × Kd)} {p : DV → Kd → Prop} {A B : Prop}
/-! ### monotone -/
theorem WE'.mono {o : Out (DV × Kd)} {q' : QE} {E' : EK} (h : WE' o q E) (hq : ∀ a kd st, q a kd st → q' a kd st) (hE : ∀ x cs, E x cs → E' x cs) : WE' o q' E' :=
  W.impE (W.imp h fun a st h => hq _ _ _ h) hE
theorem WS.mono {o : Out Fl} {k' : KS} {E' : EK} (h : WS o k E) (h1 : ∀ st, k.nx st → k'.nx st) (h2 : ∀ st, k.bk st → k'.bk st) (h3 : ∀ st, k.ct st → k'.ct st) (h4 : ∀ a kd st, k.rt a kd st → k'.rt a kd st) (hE : ∀ x cs, E x cs → E' x cs) : WS o k' E' := by
  cases o with
  | ok a st =>
    cases a with
    | nx => exact h1 _ h
    | bk => exact h2 _ h
    | ct => exact h3 _ h
    | rt d kd => exact h4 _ _ _ h
  | exc x st => exact hE _ _ h
  | stuck => exact h
theorem WF'.mono {F : Fn} {ds : List DV} {q q' : DV → Kd → List CellC → Prop} {E' : EK} (h : WF' F ds cs q E) (hq : ∀ a kd cs, q a kd cs → q' a kd cs) (hE : ∀ x cs, E x cs → E' x cs) : WF' F ds cs q' E' :=
  W.impE (W.imp h fun a st h => hq _ _ _ h) hE
theorem WF'.eq {F : Fn} {ds : List DV} {q : DV → Kd → List CellC → Prop} {cs' : List CellC} {sl' : List Slot} (e : F ds ⟨[], cs⟩ = .ok (a, kd) ⟨sl', cs'⟩) (h : q a kd cs') : WF' F ds cs q E :=
  by unfold WF'; rw [e]; exact h
theorem WF'.ex {F : Fn} {ds : List DV} {q : DV → Kd → List CellC → Prop} {x : DX} {cs' : List CellC} {sl' : List Slot} (e : F ds ⟨[], cs⟩ = .exc x ⟨sl', cs'⟩) (h : E x cs') : WF' F ds cs q E :=
  by unfold WF'; rw [e]; exact h
/-! ### expressions -/
theorem we_c (h : q d .new st) : WE' (evC d st) q E := h
theorem we_var (e : sl[i]? = some (some (d, false))) (h : q d .fro ⟨sl, cs⟩) : WE' (evVar i ⟨sl, cs⟩) q E := by unfold evVar; rw [show (⟨sl, cs⟩ : DS).sl[i]? = _ from e]; exact h
theorem we_varO (e : sl[i]? = some (some (d, true))) (h : q d (.view i) ⟨sl, cs⟩) : WE' (evVar i ⟨sl, cs⟩) q E := by unfold evVar; rw [show (⟨sl, cs⟩ : DS).sl[i]? = _ from e]; exact h
theorem we_cls (h : q (.cls i) .fro st) : WE' (evCls i st) q E := h
theorem we_g (h : q d .fro st) : WE' (evG d st) q E := h
theorem we_n (h : WE' (fe st) (fun a kd st1 => q a (nk a kd) st1) E) : WE' (evN fe st) q E :=
  W.bind h
theorem we_op {g : Op2} (h : WE' (fa st) (fun a _ st1 => WE' (fb st1) (fun b _ st2 => WO (g a b) fun c kd => q c kd st2) E) E) : WE' (evOp g fa fb st) q E :=
  W.bind (W.imp h fun a st1 h => W.bind (W.imp h fun b st2 h => W.opt h))
theorem we_call {g : OpN} (h : WA (ga st) (fun as st1 => WO (g (as.map (·.1))) fun c kd => q c kd st1) E) : WE' (evCall g ga st) q E :=
  W.bind (W.imp h fun a st1 h => W.opt h)
theorem we_meth {isT : DV → Bool} {g : OpN} (h : WE' (fa st) (fun a _ st1 => isT a = true ∧ WA (ga st1) (fun as st2 => WO (g (a :: as.map (·.1))) fun c kd => q c kd st2) E) E) : WE' (evMeth isT g fa ga st) q E :=
  W.bind (W.imp h fun a st1 h => by
    obtain ⟨h1, h2⟩ := h
    rw [if_pos h1]
    exact W.bind (W.imp h2 fun a st1 h => W.opt h))
theorem we_not (h : WE' (fa st) (fun a _ st1 => ∃ k, truD a = some k ∧ q (.bl (!k)) .new st1) E) : WE' (evNot fa st) q E :=
  W.bind (W.imp h fun a st1 h => by obtain ⟨k, h1, h2⟩ := h; rw [h1]; exact h2)
theorem we_and (h : WE' (fa st) (fun a kd st1 => ∃ k, truD a = some k ∧ IfK k (WE' (fb st1) q E) (q a kd st1)) E) : WE' (evAnd fa fb st) q E :=
  W.bind (W.imp h fun a st1 h => by obtain ⟨k, h1, h2⟩ := h; rw [h1]; cases k <;> exact h2)
theorem we_or (h : WE' (fa st) (fun a kd st1 => ∃ k, truD a = some k ∧ IfK k (q a kd st1) (WE' (fb st1) q E)) E) : WE' (evOr fa fb st) q E :=
  W.bind (W.imp h fun a st1 h => by obtain ⟨k, h1, h2⟩ := h; rw [h1]; cases k <;> exact h2)
theorem we_if (h : WT (t st) (fun k st1 => IfK k (WE' (fa st1) q E) (WE' (fb st1) q E)) E) : WE' (evIf t fa fb st) q E :=
  W.bind (W.imp h fun a st1 h => by cases a <;> exact h)
theorem we_neg (h : WE' (fa st) (fun a _ st1 => ∃ i, a = .int i ∧ q (.int (-i)) .new st1) E) : WE' (evNeg fa st) q E :=
  W.bind (W.imp h fun a st1 h => by obtain ⟨i, h1, h2⟩ := h; rw [h1]; exact h2)
theorem we_chain {g g' : Op2} (h : WE' (fa st) (fun a _ st1 => WE' (fb st1) (fun b _ st2 => ∃ r, g a b = some (.bl r, .new) ∧ IfK r (WE' (fc st2) (fun c _ st3 => WO (g' b c) fun z kd => q z kd st3) E) (q (.bl false) .new st2)) E) E) : WE' (evChain g g' fa fb fc st) q E :=
  W.bind (W.imp h fun a st1 h => W.bind (W.imp h fun b st2 h => by
    obtain ⟨r, h1, h2⟩ := h
    rw [h1]
    cases r with
    | false => exact h2
    | true => exact W.bind (W.imp h2 fun c st3 h => W.opt h)))
theorem we_rev (h : WE' (fa st) (fun a _ st1 => (∃ ds, a = .lst ds ∧ q (.lst ds.reverse) .new st1) ∨ ∃ ds, a = .tup ds ∧ q (.tup ds.reverse) .fro st1) E) : WE' (evRev fa st) q E :=
  W.bind (W.imp h fun a st1 h => by rcases h with ⟨ds, h1, h2⟩ | ⟨ds, h1, h2⟩ <;> (rw [h1]; exact h2))
theorem we_fld {ct : CT} {n : Str} (h : WE' (fa st) (fun a _ st1 => ∃ d, fldD ct n a = some d ∧ q d (nk d .fro) st1) E) : WE' (evFld ct n fa st) q E :=
  W.bind (W.imp h fun a st1 h => by obtain ⟨d, h1, h2⟩ := h; rw [h1]; exact h2)
/-! slices -/
theorem wp_none (h : qp none st) : WP (pvNone st) qp E := h
theorem wp_some (h : WE' (fa st) (fun a _ st1 => ∃ i, a = .int i ∧ qp (some i) st1) E) : WP (pvSome fa st) qp E :=
  W.bind (W.imp h fun a st1 h => by obtain ⟨i, h1, h2⟩ := h; rw [h1]; exact h2)
theorem we_sl {lo hi : Pv} (h : WE' (fa st) (fun a _ st1 => WP (lo st1) (fun l st2 => WP (hi st2) (fun u st3 => WO (dSl a l u) fun c kd => q c kd st3) E) E) E) : WE' (evSl fa lo hi st) q E :=
  W.bind (W.imp h fun a st1 h => W.bind (W.imp h fun l st2 h => W.bind (W.imp h fun u st3 h => W.opt h)))
/-! displays, arguments -/
theorem wv_nil (h : qv [] st) : WV (evNil st) qv E := h
theorem wv_cons (h : WE' (fe st) (fun a kd st1 => WV (ge (st1.eat kd)) (fun ds st2 => qv (a :: ds) st2) E) E) : WV (evCons fe ge st) qv E :=
  W.bind (W.imp h fun a st1 h => W.bind h)
theorem we_lst (h : WV (ge st) (fun ds st1 => ds.length ≤ sizeLine ∧ q (.lst ds) .new st1) E) : WE' (evLst ge st) q E :=
  W.bind (W.imp h fun ds st1 h => by rw [if_pos h.1]; exact h.2)
theorem we_tup (h : WV (ge st) (fun ds st1 => ds.length ≤ sizeLine ∧ q (.tup ds) .new st1) E) : WE' (evTup ge st) q E :=
  W.bind (W.imp h fun ds st1 h => by rw [if_pos h.1]; exact h.2)
theorem wd_nil (h : qd [] [] st) : WDp (dvNil st) qd E := h
theorem wd_cons {r : Dv'} (h : WE' (fa st) (fun ka _ st1 => WE' (fb st1) (fun v kd st2 => WDp (r (st2.eat kd)) (fun ks vs st3 => ∃ kk, keyD ka = some kk ∧ (ks.any fun j => decide (j = kk)) = false ∧ qd (kk :: ks) (v :: vs) st3) E) E) E) : WDp (dvCons fa fb r st) qd E :=
  W.bind (W.imp h fun a st1 h => W.bind (W.imp h fun v st2 h => W.bind (W.imp h fun p st3 h => by
    obtain ⟨kk, h1, h2, h3⟩ := h
    rw [h1]
    dsimp only
    rw [if_neg (by rw [h2]; exact Bool.false_ne_true)]
    exact h3)))
theorem we_dct {r : Dv'} (h : WDp (r st) (fun ks vs st1 => ks.length ≤ 15 ∧ q (.dct ks vs) .new st1) E) : WE' (evDct r st) q E :=
  W.bind (W.imp h fun p st1 h => by rw [if_pos h.1]; exact h.2)
theorem wa_nil (h : qa [] st) : WA (akNil st) qa E := h
theorem wa_cons (h : WE' (fe st) (fun a kd st1 => WA (ga st1) (fun as st2 => qa ((a, kd) :: as) st2) E) E) : WA (akCons fe ga st) qa E :=
  W.bind (W.imp h fun a st1 h => W.bind h)
/-! ### a def's call -/
/-- behind a call: the caller's slots, the arguments -/
def BkT (sl : List Slot) (as : List (DV × Kd)) (a : DV) (kd : Kd) (cs : List CellC) (q : QE) : Prop := q a (kdO kd) (if safeR (a, kd) && cs.all isDraw then ⟨sl, cs⟩ else eatAll ⟨sl, cs⟩ as)
theorem we_fn {F : Fn} (h : WA (ga st) (fun as st1 => WF' F (as.map (·.1)) st1.cs (fun a kd cs' => BkT st1.sl as a kd cs' q) E) E) : WE' (evFn F ga st) q E :=
  W.bind (W.imp h fun as st1 h => by
    unfold WF' at h
    revert h
    generalize F (as.map (·.1)) ⟨[], st1.cs⟩ = o
    intro h
    cases o with
    | stuck => exact h
    | exc x st2 => exact (show E x (eatAll ⟨st1.sl, st2.cs⟩ as).cs from by rw [eatAll_cs]; exact h)
    | ok a st2 => obtain ⟨a, kd⟩ := a; cases kd <;> exact h)
/-- no argument is a slot's own -/
def noView : List (DV × Kd) → Bool
  | [] => true
  | (_, .view _) :: _ => false
  | _ :: as => noView as
theorem eatAll_noView : ∀ {as : List (DV × Kd)} {st : DS}, noView as = true → eatAll st as = st
  | [], _, _ => rfl
  | (d, .fro) :: as, st, h => eatAll_noView (as := as) (st := st) h
  | (d, .new) :: as, st, h => eatAll_noView (as := as) (st := st) h
  | (d, .view _) :: as, st, h => by cases h
theorem bk_plain {as : List (DV × Kd)} (hv : noView as = true) (h : q a (kdO kd) ⟨sl, cs⟩) : BkT sl as a kd cs q := by
  unfold BkT
  rw [eatAll_noView hv, ite_self]
  exact h
theorem bk_safe {as : List (DV × Kd)} (hs : safeR (a, kd) = true) (hd : cs.all isDraw = true) (h : q a (kdO kd) ⟨sl, cs⟩) : BkT sl as a kd cs q := by
  unfold BkT
  rw [hs, hd]
  exact h
/-! ### tests -/
theorem wt_b (h : WE' (fe st) (fun a _ st1 => ∃ k, a = .bl k ∧ qb k st1) E) : WT (tvB fe st) qb E :=
  W.bind (W.imp h fun a st1 h => by obtain ⟨k, h1, h2⟩ := h; rw [h1]; exact h2)
theorem wt_e' (h : WE' (fe st) (fun a _ st1 => ∃ k, truD a = some k ∧ qb k st1) E) : WT (tvE fe st) qb E :=
  W.bind (W.imp h fun a st1 h => by obtain ⟨k, h1, h2⟩ := h; rw [h1]; exact h2)
theorem wt_and (h : WT (ta st) (fun k st1 => IfK k (WT (tb st1) qb E) (qb false st1)) E) : WT (tvAnd ta tb st) qb E :=
  W.bind (W.imp h fun a st1 h => by cases a <;> exact h)
theorem wt_or (h : WT (ta st) (fun k st1 => IfK k (qb true st1) (WT (tb st1) qb E)) E) : WT (tvOr ta tb st) qb E :=
  W.bind (W.imp h fun a st1 h => by cases a <;> exact h)
theorem wt_not (h : WT (ta st) (fun k st1 => qb (!k) st1) E) : WT (tvNot ta st) qb E :=
  W.bind h
theorem wt_yes (h : qb true st) : WT (tvYes st) qb E := h
/-! ### statements -/
theorem ws_seq (h : WS (f st) ⟨fun st1 => WS (g st1) k E, k.bk, k.ct, k.rt⟩ E) : WS (svSeq f g st) k E :=
  W.bind (W.imp h fun fl st1 h => by cases fl <;> exact h)
theorem ws_expr' (h : WE' (fe st) (fun _ _ st1 => k.nx st1) E) : WS (svExpr fe st) k E :=
  W.bind h
theorem ws_ret' (h : WE' (fe st) k.rt E) : WS (svRet fe st) k E :=
  W.bind h
theorem ws_if' (h : WT (t st) (fun c st1 => IfK c (WS (f st1) k E) (WS (g st1) k E)) E) : WS (svIf t f g st) k E :=
  W.bind (W.imp h fun a st1 h => by cases a <;> exact h)
/-- a name is stored -/
def PutT (i : Nat) (a : DV) (kd : Kd) (st : DS) (n : DS → Prop) : Prop := n (st.put i (a, kd))
theorem ws_set' (h : WE' (fe st) (fun a kd st1 => PutT i a kd st1 k.nx) E) : WS (svSet i fe st) k E :=
  W.bind h
theorem putT_fro {n : DS → Prop} (h : n ⟨sl.set i (some (a, false)), cs⟩) : PutT i a .fro ⟨sl, cs⟩ n := h
theorem putT_view {n : DS → Prop} (h : n ⟨(dropSl sl j).set i (some (a, false)), cs⟩) : PutT i a (.view j) ⟨sl, cs⟩ n := h
theorem putT_flat {n : DS → Prop} (hc : isCont a = false) (h : n ⟨sl.set i (some (a, false)), cs⟩) : PutT i a .new ⟨sl, cs⟩ n := by
  unfold PutT DS.put
  rw [hc]
  exact h
theorem putT_own {n : DS → Prop} (hc : isCont a = true) (hd : cs.all isDraw = true) (h : n ⟨sl.set i (some (a, true)), cs⟩) : PutT i a .new ⟨sl, cs⟩ n := by
  unfold PutT DS.put
  dsimp only
  rw [hc, hd]
  exact h
theorem putT_nk {n : DS → Prop} (h : n ⟨sl.set i (some (a, false)), cs⟩) : PutT i a (nk a .fro) ⟨sl, cs⟩ n := by
  unfold nk
  by_cases hf : flat a = true
  · rw [if_pos hf]
    exact putT_flat (by cases a <;> first | rfl | cases hf) h
  · rw [if_neg hf]
    exact h
/-- a, b = .. -/
theorem ws_then (h : WS (f st) ⟨k.nx, k.nx, k.nx, fun _ _ st1 => k.nx st1⟩ E) : WS (svThen f st) k E :=
  W.bind (W.imp h fun fl st1 h => by cases fl <;> exact h)
def ParT (i : Nat) (a : DV) (kd : Kd) (st : DS) (g : Sv) (n : DS → Prop) (E : EK) : Prop := match kd with
  | .new => WS (g st) ⟨fun st2 => n ⟨st2.sl.set i (some (a, isCont a && st.cs.all isDraw)), st2.cs⟩, fun st2 => n ⟨st2.sl.set i (some (a, isCont a && st.cs.all isDraw)), st2.cs⟩, fun st2 => n ⟨st2.sl.set i (some (a, isCont a && st.cs.all isDraw)), st2.cs⟩, fun _ _ st2 => n ⟨st2.sl.set i (some (a, isCont a && st.cs.all isDraw)), st2.cs⟩⟩ E
  | kd => WS (g (st.eat kd)) ⟨fun st2 => n ⟨st2.sl.set i (some (a, false)), st2.cs⟩, fun st2 => n ⟨st2.sl.set i (some (a, false)), st2.cs⟩, fun st2 => n ⟨st2.sl.set i (some (a, false)), st2.cs⟩, fun _ _ st2 => n ⟨st2.sl.set i (some (a, false)), st2.cs⟩⟩ E
theorem ws_par' (h : WE' (fe st) (fun a kd st1 => ParT i a kd st1 g k.nx E) E) : WS (svPar i fe g st) k E :=
  W.bind (W.imp h fun a st1 h => by
    obtain ⟨d, kd⟩ := a
    have fin : ∀ {o : Out Fl} {bb : Bool}, WS o ⟨fun st2 => k.nx ⟨st2.sl.set i (some (d, bb)), st2.cs⟩, fun st2 => k.nx ⟨st2.sl.set i (some (d, bb)), st2.cs⟩, fun st2 => k.nx ⟨st2.sl.set i (some (d, bb)), st2.cs⟩, fun _ _ st2 => k.nx ⟨st2.sl.set i (some (d, bb)), st2.cs⟩⟩ E → W (o.bind fun _ st2 => .ok .nx ⟨st2.sl.set i (some (d, bb)), st2.cs⟩) k.of E := fun h => W.bind (W.imp h fun fl st2 h => by cases fl <;> exact h)
    cases kd with
    | new =>
      unfold ParT at h
      dsimp only at h ⊢
      cases hb : isCont d && st1.cs.all isDraw <;> (rw [hb] at h; exact fin h)
    | fro => exact fin h
    | view j => exact fin h)
theorem par_new {n : DS → Prop} {b : Bool} (hb : (isCont a && cs.all isDraw) = b) (h : WS (g ⟨sl, cs⟩) ⟨fun st2 => n ⟨st2.sl.set i (some (a, b)), st2.cs⟩, fun st2 => n ⟨st2.sl.set i (some (a, b)), st2.cs⟩, fun st2 => n ⟨st2.sl.set i (some (a, b)), st2.cs⟩, fun _ _ st2 => n ⟨st2.sl.set i (some (a, b)), st2.cs⟩⟩ E) : ParT i a .new ⟨sl, cs⟩ g n E := by
  unfold ParT
  dsimp only
  rw [hb]
  exact h
theorem par_fro {n : DS → Prop} (h : WS (g ⟨sl, cs⟩) ⟨fun st2 => n ⟨st2.sl.set i (some (a, false)), st2.cs⟩, fun st2 => n ⟨st2.sl.set i (some (a, false)), st2.cs⟩, fun st2 => n ⟨st2.sl.set i (some (a, false)), st2.cs⟩, fun _ _ st2 => n ⟨st2.sl.set i (some (a, false)), st2.cs⟩⟩ E) : ParT i a .fro ⟨sl, cs⟩ g n E := h
theorem ws_aug' {n : Int} (e : sl[i]? = some (some (.int n, false))) (h : WE' (fe ⟨sl, cs⟩) (fun a _ st1 => ∃ z, a = .int z ∧ k.nx ⟨st1.sl.set i (some (.int (n + z), false)), st1.cs⟩) E) : WS (svAug i fe ⟨sl, cs⟩) k E := by
  unfold svAug
  rw [show (⟨sl, cs⟩ : DS).sl[i]? = _ from e]
  dsimp only
  refine ws_set' (we_op (we_c (h.mono (fun a kd st1 ⟨z, h1, h2⟩ => ?_) fun _ _ h => h)))
  subst h1
  exact putT_flat rfl h2
theorem ws_asg' {gv : Gv} (h : WE' (fe st) (fun a kd st1 => WG (gv a (st1.eat kd)) k.nx) E) : WS (svAsg fe gv st) k E :=
  W.bind (W.imp h fun a st1 h => by
    dsimp only at h
    cases e2 : gv a.1 (st1.eat a.2) with
    | none => rw [e2] at h; exact h
    | some s => rw [e2] at h; exact h)
theorem ws_app {ds0 : List DV} (e : sl[i]? = some (some (.lst ds0, true))) (h : WE' (fe ⟨sl, cs⟩) (fun a kd st1 => ∃ ds, (st1.eat kd).sl[i]? = some (some (.lst ds, true)) ∧ ds.length < sizeLine ∧ k.nx ⟨(st1.eat kd).sl.set i (some (.lst (ds ++ [a]), true)), (st1.eat kd).cs⟩) E) : WS (svApp i fe ⟨sl, cs⟩) k E := by
  unfold svApp
  rw [show (⟨sl, cs⟩ : DS).sl[i]? = _ from e]
  dsimp only
  cases e2 : fe ⟨sl, cs⟩ with
  | stuck => rw [e2] at h; exact h
  | exc x st1 => rw [e2] at h; exact h
  | ok a st1 =>
    rw [e2] at h
    obtain ⟨ds, h1, h2, h3⟩ := (h : ∃ ds, (st1.eat a.2).sl[i]? = some (some (.lst ds, true)) ∧ _)
    show WS (match (st1.eat a.2).sl[i]? with | some (some (.lst ds, true)) => _ | _ => _) k E
    rw [h1]
    dsimp only
    rw [if_pos h2]
    exact h3
/-- try -/
theorem ws_try' {ca : Nat → Option Bool} {F : DX → List CellC → Prop} (h : match f st with | .ok fl st1 => k.of fl st1 | .exc x st1 => (match ca x.c with | some true => k.nx ⟨(st1.sl.set j (some (.exc x.c x.ns x.vs, false))).set i none, st1.cs⟩ | some false => E x st1.cs | none => False) | .stuck => False) : WS (svTry f ca i j st) k E := by
  unfold svTry
  cases e : f st with
  | stuck => rw [e] at h; exact h
  | ok fl st1 => rw [e] at h; exact h
  | exc x st1 =>
    rw [e] at h
    dsimp only at h ⊢
    cases hc : ca x.c with
    | none => rw [hc] at h; exact h
    | some b => rw [hc] at h; cases b <;> exact h
/-! ### targets -/
theorem wg_name' {n : DS → Prop} (h : n ⟨sl.set i (some (d, false)), cs⟩) : WG (gvName i d ⟨sl, cs⟩) n := h
theorem wg_tup' {n : DS → Prop} {m : Nat} {gg : List DV → DS → Option DS} {ds : List DV} (hl : ds.length = m) (h : WG (gg ds st) n) : WG (gvTup m gg (.tup ds) st) n := by
  unfold gvTup
  dsimp only
  rw [if_pos hl]
  exact h
theorem wg_nil {n : DS → Prop} (h : n st) : WG (gvNil [] st) n := h
theorem wg_cons {n : DS → Prop} {g1 : Gv} {gg : List DV → DS → Option DS} {ds : List DV} (h : WG (g1 d st) fun st1 => WG (gg ds st1) n) : WG (gvCons g1 gg (d :: ds) st) n := by
  unfold gvCons
  dsimp only
  cases e : g1 d st with
  | none => rw [e] at h; exact h
  | some s => rw [e] at h; exact h
/-! ### loops -/
theorem wi_e' (h : WE' (fe st) (fun a kd st1 => ∃ ds, itemsD a = some ds ∧ qv ds (st1.eat kd)) E) : WV (ivE fe st) qv E :=
  W.bind (W.imp h fun a st1 h => by obtain ⟨ds, h1, h2⟩ := h; rw [h1]; exact h2)
theorem wi_r1' (h : WA (ga st) (fun as st1 => ∃ j, as.map (·.1) = [DV.int j] ∧ (-(2 ^ 62) ≤ j ∧ j < 2 ^ 62) ∧ qv (rangeL 0 j.toNat) st1) E) : WV (ivR1 ga st) qv E :=
  W.bind (W.imp h fun as st1 h => by
    obtain ⟨j, h1, h2, h3⟩ := h
    rw [h1]
    dsimp only
    rw [if_pos h2]
    exact h3)
theorem wi_r2' (h : WA (ga st) (fun as st1 => ∃ i j, as.map (·.1) = [DV.int i, DV.int j] ∧ ((-(2 ^ 62) ≤ i ∧ i < 2 ^ 62) ∧ (-(2 ^ 62) ≤ j ∧ j < 2 ^ 62)) ∧ qv (rangeL i (j - i).toNat) st1) E) : WV (ivR2 ga st) qv E :=
  W.bind (W.imp h fun as st1 h => by
    obtain ⟨i, j, h1, h2, h3⟩ := h
    rw [h1]
    dsimp only
    rw [if_pos h2]
    exact h3)
theorem wi_enum' (h : WA (ga st) (fun as st1 => ∃ ds kd, as = [(.lst ds, kd)] ∧ qv (enumL ds) (st1.eat kd)) E) : WV (ivEnum ga st) qv E :=
  W.bind (W.imp h fun as st1 h => by obtain ⟨ds, kd, h1, h2⟩ := h; subst h1; exact h2)
/-- for: by what holds ahead of each turn, of the items that are left -/
theorem wfor {gv : Gv} (I : List DV → DS → Prop) : ∀ (ds : List DV) (st : DS), I ds st → (∀ d r st, I (d :: r) st → WG (gv d st) fun st1 => WS (f st1) ⟨I r, k.nx, I r, k.rt⟩ E) → (∀ st, I [] st → k.nx st) → WS (forGo gv f ds st) k E
  | [], st, hi, _, he => he st hi
  | d :: r, st, hi, hb, he => by
    have h := hb d r st hi
    unfold forGo
    cases e : gv d st with
    | none => rw [e] at h; exact h
    | some st1 =>
      rw [e] at h
      have h : WS (f st1) _ E := h
      show WS ((f st1).bind _) k E
      cases e2 : f st1 with
      | stuck => rw [e2] at h; exact h
      | exc x st2 => rw [e2] at h; exact h
      | ok fl st2 =>
        rw [e2] at h
        cases fl with
        | nx => exact wfor I r st2 h hb he
        | ct => exact wfor I r st2 h hb he
        | bk => exact h
        | rt d kd => exact h
theorem ws_for' {fi : Iv} {gv : Gv} (h : WV (fi st) (fun ds st1 => WS (forGo gv f ds st1) k E) E) : WS (svFor fi gv f st) k E :=
  W.bind h
/-! ### comprehensions -/
def WL (o : Option (List DV × DS)) (q : List DV → DS → Prop) : Prop := match o with | some r => q r.1 r.2 | none => False
theorem we_lc {vs : List Nat} {fi : Iv} {gv : Gv} (h : WV (fi st) (fun ds st1 => ds.length ≤ sizeLine ∧ WL (lcGo vs gv t fe ds [] (st1.dropAll vs)) fun ys st2 => q (.lst ys) .new st2) E) : WE' (evLc vs fi gv t fe st) q E :=
  W.bind (W.imp h fun ds st1 h => by
    rw [if_pos h.1]
    have h := h.2
    revert h
    generalize lcGo vs gv t fe ds [] (st1.dropAll vs) = o
    intro h
    cases o <;> exact h)
/-- one by one: I left made state -/
theorem wlc {vs : List Nat} {gv : Gv} (I : List DV → List DV → DS → Prop) : ∀ (ds acc : List DV) (st : DS), I ds acc st →
    (∀ d r acc st, I (d :: r) acc st → WG (gv d (st.wipe vs)) fun st1 => WT (t st1) (fun c st2 => IfK c (WE' (fe st2) (fun a kd st3 => I r (acc ++ [a]) (st.back (st3.eat kd) vs)) noX) (I r acc (st.back st2 vs))) noX) →
    ∀ {q : List DV → DS → Prop}, (∀ acc st, I [] acc st → q acc st) → WL (lcGo vs gv t fe ds acc st) q
  | [], acc, st, hi, _, q, he => he acc st hi
  | d :: r, acc, st, hi, hb, q, he => by
    have h := hb d r acc st hi
    unfold lcGo
    cases e : gv d (st.wipe vs) with
    | none => rw [e] at h; exact h
    | some st1 =>
      rw [e] at h
      have h : WT (t st1) _ noX := h
      dsimp only
      cases e2 : t st1 with
      | stuck => rw [e2] at h; exact h
      | exc x st2 => rw [e2] at h; exact h
      | ok c st2 =>
        rw [e2] at h
        cases c with
        | false => exact wlc I r acc _ h hb he
        | true =>
          have h : WE' (fe st2) (fun a kd st3 => I r (acc ++ [a]) (st.back (st3.eat kd) vs)) noX := h
          dsimp only
          cases e3 : fe st2 with
          | stuck => rw [e3] at h; exact h
          | exc x st3 => rw [e3] at h; exact h
          | ok a st3 => rw [e3] at h; exact wlc I r (acc ++ [a.1]) _ h hb he
/-! ### a def -/
def RetT (k : Kd) (st : DS) : Kd := match k with | .fro => .fro | .new => .new | .view i => (match st.sl[i]? with | some (some (_, true)) => .new | _ => .fro)
theorem wf_sv {n p : Nat} {sv : Sv} {ds : List DV} {q : DV → Kd → List CellC → Prop} (hl : ds.length = p) (h : WS (sv ⟨startSl n ds, cs⟩) ⟨fun st => q .non .new st.cs, fun _ => False, fun _ => False, fun a kd st => q a (RetT kd st) st.cs⟩ E) : WF' (fnSv n p sv) ds cs q E := by
  unfold WF' fnSv
  rw [if_pos hl]
  show W (outRet (sv ⟨startSl n ds, cs⟩)) (fun a st => q a.1 a.2 st.cs) E
  cases e : sv ⟨startSl n ds, cs⟩ with
  | stuck => rw [e] at h; exact h
  | exc x st1 => rw [e] at h; exact h
  | ok fl st1 => rw [e] at h; cases fl <;> exact h
end
end D

/-! F: plain data: repr, ==; operations' answers. -/
namespace D
open PySem L2 PyProof.Rows
mutual
/-- data without dicts, with ints of at most 36 digits -/
def dOk : DV → Bool
  | .non => true
  | .bl _ => true
  | .int i => decide (i.natAbs < 10 ^ 36)
  | .str s => s.cps.all (· < 0x110000)
  | .lst ds => dOks ds
  | .tup ds => dOks ds
  | _ => false
def dOks : List DV → Bool
  | [] => true
  | d :: ds => dOk d && dOks ds
end
mutual
def dW : DV → Nat
  | .int _ => 128
  | .str s => s.cps.size
  | .lst ds => dWs ds
  | .tup ds => dWs ds
  | _ => 0
def dWs : List DV → Nat
  | [] => 0
  | d :: ds => dW d + 1 + dWs ds
end
mutual
def dDp : DV → Nat
  | .lst ds => dDps ds + 1
  | .tup ds => dDps ds + 1
  | _ => 0
def dDps : List DV → Nat
  | [] => 0
  | d :: ds => max (dDp d) (dDps ds)
end
structure PData (d : DV) (p : PyData) : Prop where
  eq : toP d = some p
  lay : p.canLay0 = true
  shrt : p.leavesShort 40 = true
  sho : p.showable = true
  wt : p.weight ≤ dW d
  dp : p.depth = dDp d
structure PDatas (ds : List DV) (ps : List PyData) : Prop where
  eq : toPs ds = some ps
  lay : PyData.canLayAll0 ps = true
  shrt : PyData.leavesShortAll 40 ps = true
  sho : PyData.showableAll ps = true
  wt : PyData.weightAll ps ≤ dWs ds
  dp : PyData.depthAll ps = dDps ds
theorem log2_lt {n : Nat} (h : n < 10 ^ 36) : n.log2 + 1 ≤ 128 ∧ n.log2 < 1920 := by
  by_cases h0 : n = 0
  · subst h0; decide
  · have : n.log2 < 127 := (Nat.log2_lt h0).mpr (Nat.lt_trans h (by decide))
    omega
mutual
theorem toP_ok : ∀ (d : DV), dOk d = true → ∃ p, PData d p
  | .non, _ => ⟨_, rfl, rfl, rfl, rfl, Nat.le_refl _, rfl⟩
  | .bl b, _ => ⟨_, rfl, rfl, rfl, rfl, Nat.le_refl _, rfl⟩
  | .int i, h => by
    have h' : i.natAbs < 10 ^ 36 := of_decide_eq_true h
    obtain ⟨h1, h2⟩ := log2_lt h'
    refine ⟨.int i, rfl, rfl, ?_, decide_eq_true h2, ?_, rfl⟩
    · have e := int_text_length_le10 (k := 36) (by decide) h'
      refine decide_eq_true ?_
      show (Str.ofString (toString i)).length ≤ 40
      rw [PySem.ofString_length]; omega
    · show (if i == 0 then 0 else i.natAbs.log2 + 1) ≤ 128
      split <;> omega
  | .str s, h => by
    have h' : s.cps.all (· < 0x110000) = true := h
    refine ⟨.str s, rfl, h', ?_, rfl, Nat.le_refl _, rfl⟩
    simp only [PyData.leavesShort, List.all_eq_true, decide_eq_true_eq]
    intro c hc
    have := (Array.all_eq_true_iff_forall_mem.mp h') c (Array.mem_toList_iff.mp hc)
    have h3 : c < 0x110000 := by simpa using this
    exact Nat.lt_trans h3 (by decide)
  | .lst ds, h => by
    obtain ⟨ps, q⟩ := toPs_ok ds h
    exact ⟨.list ps, by simp only [toP, q.eq]; rfl, q.lay, by simpa only [PyData.leavesShort] using q.shrt, by simpa only [PyData.showable] using q.sho, by simpa only [PyData.weight, dW] using q.wt, by simp only [PyData.depth, dDp, q.dp]⟩
  | .tup ds, h => by
    obtain ⟨ps, q⟩ := toPs_ok ds h
    exact ⟨.tuple ps, by simp only [toP, q.eq]; rfl, q.lay, by simpa only [PyData.leavesShort] using q.shrt, by simpa only [PyData.showable] using q.sho, by simpa only [PyData.weight, dW] using q.wt, by simp only [PyData.depth, dDp, q.dp]⟩
theorem toPs_ok : ∀ (ds : List DV), dOks ds = true → ∃ ps, PDatas ds ps
  | [], _ => ⟨[], rfl, rfl, rfl, rfl, Nat.le_refl _, rfl⟩
  | d :: ds, h => by
    have h' : dOk d = true ∧ dOks ds = true := by simpa only [dOks, Bool.and_eq_true] using h
    obtain ⟨p, q⟩ := toP_ok d h'.1
    obtain ⟨ps, r⟩ := toPs_ok ds h'.2
    refine ⟨p :: ps, by simp only [toPs, q.eq, r.eq], ?_, ?_, ?_, ?_, ?_⟩
    · simp only [PyData.canLayAll0, q.lay, r.lay, Bool.and_self]
    · simp only [PyData.leavesShortAll, q.shrt, r.shrt, Bool.and_self]
    · simp only [PyData.showableAll, q.sho, r.sho, Bool.and_self]
    · have h1 := q.wt
      have h2 := r.wt
      simp only [PyData.weightAll, dWs]
      omega
    · simp only [PyData.depthAll, dDps, q.dp, r.dp]
end
/-- what repr answers -/
@[irreducible] def reprS (d : DV) : Str := match toP d with | some p => p.shown | none => ""
theorem repr_ok {d : DV} (h : dOk d = true) (hw : dW d ≤ 300000) (hd : dDp d ≤ 64) : reprD d = some (.str (reprS d), .new) := by
  obtain ⟨p, q⟩ := toP_ok d h
  have h1 := PyData.shown_le 40 (by decide) p q.shrt
  have h2 := q.wt
  have h3 : p.shown.length ≤ sizeLine := by rw [sizeLine_eq]; omega
  have h4 : p.depth ≤ 64 := by rw [q.dp]; exact hd
  rw [reprD_eq (by rw [q.eq]; exact fun z => nomatch z)]
  unfold reprS
  rw [q.eq]
  simp only [q.sho, h3, h4, decide_true, Bool.and_self, if_true]
/-! ### == -/
theorem eqD_refl {a : DV} (ha : dOk a = true) (da : dDp a ≤ 64) : eqD a a = some true := by
  obtain ⟨p, q⟩ := toP_ok a ha
  have s1 : SeqAt.shaped p = true := by
    show (p.canLay0 && decide (p.depth ≤ 64)) = true
    rw [q.lay, q.dp, decide_eq_true da]; rfl
  have e1 : dEqv a a = some true := by
    unfold dEqv
    rw [q.eq]
    simp only [s1, Bool.and_self, if_true]
    rw [SeqAt.eqv_refl p q.lay]
  cases a <;> first
    | exact e1
    | (simp [eqD]; done)
/-! ### lists of ints -/
abbrev iL (xs : List Int) : DV := .lst (xs.map .int)
theorem dOks_ints : ∀ {xs : List Int}, (∀ x ∈ xs, x.natAbs < 10 ^ 36) → dOks (xs.map .int) = true
  | [], _ => rfl
  | x :: xs, h => by
    simp only [List.map_cons, dOks, dOk, Bool.and_eq_true, decide_eq_true_eq]
    exact ⟨h x (by simp), dOks_ints fun y hy => h y (by simp [hy])⟩
theorem dDps_ints : ∀ {xs : List Int}, dDps (xs.map .int) = 0
  | [] => rfl
  | x :: xs => by simp only [List.map_cons, dDps, dDp, dDps_ints, Nat.max_self]
theorem dWs_ints : ∀ {xs : List Int}, dWs (xs.map .int) = 129 * xs.length
  | [] => rfl
  | x :: xs => by simp only [List.map_cons, dWs, dW, dWs_ints, List.length_cons]; omega
/-! ### operations -/
section
variable {p : DV → Kd → Prop} {a : DV} {kd : Kd} {o : Option (DV × Kd)} {i j : Int} {xs ys : List DV} {x y : Str} {ct : CT}
theorem wo (h : o = some (a, kd)) (hp : p a kd) : WO o p := by rw [h]; exact hp
theorem wo_mul (h : (fits64 i || fits64 j) = true) (hp : p (.int (i * j)) .new) : WO (dBin .Mult (.int i) (.int j)) p := wo (by show dMul (.int i) (.int j) = _; simp only [dMul, h, if_true]) hp
theorem wo_div (h : 0 < j ∧ j < 2 ^ 64) (hp : p (.int (i / j)) .new) : WO (dBin .FloorDiv (.int i) (.int j)) p := wo (by show dDiv (.int i) (.int j) = _; simp only [dDiv, h, and_self, if_true]) hp
theorem wo_mod (h : 0 < j) (hp : p (.int (i % j)) .new) : WO (dBin .Mod (.int i) (.int j)) p := wo (by show dMod (.int i) (.int j) = _; simp only [dMod, h, if_true]) hp
theorem wo_pow (h : powOk i j = true) (hp : p (.int (i ^ j.toNat)) .new) : WO (dBin .Pow (.int i) (.int j)) p := wo (by show dPow (.int i) (.int j) = _; simp only [dPow, h, if_true]) hp
theorem wo_addL (h : xs.length + ys.length ≤ sizeLine) (hp : p (.lst (xs ++ ys)) .new) : WO (dBin .Add (.lst xs) (.lst ys)) p := wo (by show dAdd (.lst xs) (.lst ys) = _; simp only [dAdd, h, if_true]) hp
theorem wo_addT (h : xs.length + ys.length ≤ sizeLine) (hp : p (.tup (xs ++ ys)) .fro) : WO (dBin .Add (.tup xs) (.tup ys)) p := wo (by show dAdd (.tup xs) (.tup ys) = _; simp only [dAdd, h, if_true]) hp
theorem wo_addS (h : x.length + y.length ≤ sizeLine) (hp : p (.str (x ++ y)) .new) : WO (dBin .Add (.str x) (.str y)) p := wo (by show dAdd (.str x) (.str y) = _; simp only [dAdd, h, if_true]) hp
theorem wo_mulL (h : -(2 ^ 63) ≤ i ∧ i < 2 ^ 63 ∧ xs.length * i.toNat ≤ sizeLine) (hp : p (.lst (List.replicate i.toNat xs).flatten) .new) : WO (dBin .Mult (.lst xs) (.int i)) p := wo (by show dMul (.lst xs) (.int i) = _; simp only [dMul]; rw [if_pos h]) hp
theorem wo_neR {d : DV} (hd : dOk d = true) (pd : dDp d ≤ 64) (hp : p (.bl false) .new) : WO (dCmp .NotEq d d) p := wo (by show (eqD d d).map _ = _; rw [eqD_refl hd pd]; rfl) hp
theorem wo_repr {d : DV} (hd : dOk d = true) (hw : dW d ≤ 300000) (pd : dDp d ≤ 64) (hp : p (.str (reprS d)) .new) : WO (Blt.run ct .repr [d]) p := wo (by show reprD d = _; exact repr_ok hd hw pd) hp
theorem wo_all {bs : List Bool} (h : xs = bs.map .bl) (hp : p (.bl (bs.all id)) .new) : WO (Blt.run ct .all [.lst xs]) p := wo (by subst h; show allD (.lst _) = _; unfold allD; dsimp only; rw [boolsD_map]; rfl) hp
theorem wo_lenS (h : x.length ≤ sizeLine) (hp : p (.int (x.length : Nat)) .new) : WO (Blt.run ct .len [.str x]) p := wo (by show lenD (.str x) = _; simp only [lenD, h, if_true]) hp
theorem atI_in {α : Type} {xs : List α} {j : Int} (h0 : 0 ≤ j) (h1 : j < xs.length) : ∃ x, atI xs j = some x ∧ xs[j.toNat]? = some x ∧ x ∈ xs := by
  have hj : j.toNat < xs.length := by omega
  refine ⟨xs[j.toNat], ?_, by simp [hj], List.getElem_mem hj⟩
  have := atI_nat (xs := xs) (j := j.toNat) (List.getElem?_eq_getElem hj)
  rw [Int.toNat_of_nonneg h0] at this
  exact this
/-- xs[i], i within -/
theorem wo_ix (h0 : 0 ≤ i) (h1 : i < xs.length) (hp : ∀ d, xs[i.toNat]? = some d → d ∈ xs → p d .fro) : WO (dIx (.lst xs) (.int i)) p := by
  obtain ⟨d, e1, e2, e3⟩ := atI_in h0 h1
  exact wo (by show (ixD (.lst xs) (.int i)).map _ = _; simp only [ixD, e1, Option.map_some]) (hp d e2 e3)
theorem wo_ixS (hl : x.length ≤ sizeLine) (h0 : 0 ≤ i) (h1 : i < x.length) (hp : ∀ c, x.cps.toList[i.toNat]? = some c → c ∈ x.cps.toList → p (.str ⟨#[c]⟩) .fro) : WO (dIx (.str x) (.int i)) p := by
  obtain ⟨c, e1, e2, e3⟩ := atI_in (xs := x.cps.toList) h0 (by simpa [Str.length] using h1)
  exact wo (by show (ixD (.str x) (.int i)).map _ = _; simp only [ixD, hl, if_true, e1, Option.map_some]) (hp c e2 e3)
end
end D

/-! F: the forward rules as a tactic takes them. -/
namespace D
open PySem L2 PyProof.Rows
theorem sl_eq : sizeLine = 16777216 := rfl
def EatT (kd : Kd) (st : DS) (n : DS → Prop) : Prop := n (st.eat kd)
section
variable {q : QE} {qb : Bool → DS → Prop} {qa : List (DV × Kd) → DS → Prop} {qv : List DV → DS → Prop} {qp : Option Int → DS → Prop} {qd : List Key → List DV → DS → Prop} {E : EK} {nx bk ct : DS → Prop} {rt : QE} {st st1 : DS} {sl : List Slot} {cs : List CellC} {fa fb fc fe : Ev} {f g : Sv} {ta tb t : Tv} {ga gb : Ak} {ge : Av'} {d a b : DV} {kd : Kd} {i j : Nat} {o : Option (DV × Kd)} {p : DV → Kd → Prop} {A B : Prop} {n : DS → Prop}
theorem eat_new (h : n st) : EatT .new st n := h
theorem eat_fro (h : n st) : EatT .fro st n := h
theorem eat_view (h : n ⟨dropSl sl j, cs⟩) : EatT (.view j) ⟨sl, cs⟩ n := h
theorem eat_nk (h : n st) : EatT (nk a .fro) st n := by
  unfold EatT nk
  split <;> exact h
theorem eat_nkn (h : n st) : EatT (nk a .new) st n := by
  unfold EatT nk
  split <;> exact h
theorem eat_nkO (h : n st) : EatT (nk a (kdO kd)) st n := by
  unfold EatT nk kdO
  split
  · exact h
  · cases kd <;> exact h
theorem eat_kdO (h : n st) : EatT (kdO kd) st n := by
  unfold EatT kdO
  cases kd <;> exact h
theorem putT_nkF (hf : flat a = true) (h : n ⟨sl.set i (some (a, false)), cs⟩) : PutT i a (nk a kd) ⟨sl, cs⟩ n := by
  unfold nk
  rw [if_pos hf]
  exact putT_flat (by cases a <;> first | rfl | cases hf) h
theorem putT_kdF (hf : flat a = true) (h : n ⟨sl.set i (some (a, false)), cs⟩) : PutT i a (kdO kd) ⟨sl, cs⟩ n := by
  have hc : isCont a = false := by cases a <;> first | rfl | cases hf
  cases kd with
  | new => exact putT_flat hc h
  | fro => exact h
  | view j => exact h
/-- a container that is new -/
theorem putT_nkC (hc : isCont a = true) (hd : cs.all isDraw = true) (h : n ⟨sl.set i (some (a, true)), cs⟩) : PutT i a (nk a .new) ⟨sl, cs⟩ n := by
  have hf : flat a = false := by cases a <;> first | rfl | cases hc
  unfold nk
  rw [if_neg (by rw [hf]; exact Bool.false_ne_true)]
  exact putT_own hc hd h
theorem r_seq (h : WS (f st) ⟨fun st1 => WS (g st1) ⟨nx, bk, ct, rt⟩ E, bk, ct, rt⟩ E) : WS (svSeq f g st) ⟨nx, bk, ct, rt⟩ E := ws_seq h
theorem r_nx (h : nx st) : WS (svNx st) ⟨nx, bk, ct, rt⟩ E := h
theorem r_pass (h : nx st) : WS (svPass st) ⟨nx, bk, ct, rt⟩ E := h
theorem r_break (h : bk st) : WS (svBreak st) ⟨nx, bk, ct, rt⟩ E := h
theorem r_expr (h : WE' (fe st) (fun _ _ st1 => nx st1) E) : WS (svExpr fe st) ⟨nx, bk, ct, rt⟩ E := ws_expr' h
theorem r_ret (h : WE' (fe st) rt E) : WS (svRet fe st) ⟨nx, bk, ct, rt⟩ E := ws_ret' h
theorem r_retN (h : rt .non .new st) : WS (svRetN st) ⟨nx, bk, ct, rt⟩ E := h
theorem r_raise (h : E ⟨i, [], []⟩ cs) : WS (svRaise i ⟨sl, cs⟩) ⟨nx, bk, ct, rt⟩ E := h
theorem r_if (h : WT (t st) (fun c st1 => IfK c (WS (f st1) ⟨nx, bk, ct, rt⟩ E) (WS (g st1) ⟨nx, bk, ct, rt⟩ E)) E) : WS (svIf t f g st) ⟨nx, bk, ct, rt⟩ E := ws_if' h
theorem r_set (h : WE' (fe st) (fun a kd st1 => PutT i a kd st1 nx) E) : WS (svSet i fe st) ⟨nx, bk, ct, rt⟩ E := ws_set' h
theorem r_then (h : WS (f st) ⟨nx, nx, nx, fun _ _ st1 => nx st1⟩ E) : WS (svThen f st) ⟨nx, bk, ct, rt⟩ E := ws_then h
theorem r_par (h : WE' (fe st) (fun a kd st1 => ParT i a kd st1 g nx E) E) : WS (svPar i fe g st) ⟨nx, bk, ct, rt⟩ E := ws_par' h
theorem r_parN {bb : Bool} (hb : (isCont a && cs.all isDraw) = bb) (h : WS (g ⟨sl, cs⟩) ⟨fun st2 => n ⟨st2.sl.set i (some (a, bb)), st2.cs⟩, fun st2 => n ⟨st2.sl.set i (some (a, bb)), st2.cs⟩, fun st2 => n ⟨st2.sl.set i (some (a, bb)), st2.cs⟩, fun _ _ st2 => n ⟨st2.sl.set i (some (a, bb)), st2.cs⟩⟩ E) : ParT i a .new ⟨sl, cs⟩ g n E := par_new hb h
theorem r_parNk (hf : flat a = true) (h : WS (g ⟨sl, cs⟩) ⟨fun st2 => n ⟨st2.sl.set i (some (a, false)), st2.cs⟩, fun st2 => n ⟨st2.sl.set i (some (a, false)), st2.cs⟩, fun st2 => n ⟨st2.sl.set i (some (a, false)), st2.cs⟩, fun _ _ st2 => n ⟨st2.sl.set i (some (a, false)), st2.cs⟩⟩ E) : ParT i a (nk a kd) ⟨sl, cs⟩ g n E := by
  unfold nk
  rw [if_pos hf]
  refine par_new ?_ h
  cases a <;> first | rfl | cases hf
theorem r_parNf (h : WS (g ⟨sl, cs⟩) ⟨fun st2 => n ⟨st2.sl.set i (some (a, false)), st2.cs⟩, fun st2 => n ⟨st2.sl.set i (some (a, false)), st2.cs⟩, fun st2 => n ⟨st2.sl.set i (some (a, false)), st2.cs⟩, fun _ _ st2 => n ⟨st2.sl.set i (some (a, false)), st2.cs⟩⟩ E) : ParT i a (nk a .fro) ⟨sl, cs⟩ g n E := by
  by_cases hf : flat a = true
  · exact r_parNk hf h
  · unfold nk
    rw [if_neg hf]
    exact h
theorem r_aug {m : Int} (e : sl[i]? = some (some (.int m, false))) (h : WE' (fe ⟨sl, cs⟩) (fun a _ st1 => ∃ z, a = .int z ∧ nx ⟨st1.sl.set i (some (.int (m + z), false)), st1.cs⟩) E) : WS (svAug i fe ⟨sl, cs⟩) ⟨nx, bk, ct, rt⟩ E := ws_aug' e h
theorem r_asg {gv : Gv} (h : WE' (fe st) (fun a kd st1 => EatT kd st1 fun st2 => WG (gv a st2) nx) E) : WS (svAsg fe gv st) ⟨nx, bk, ct, rt⟩ E := ws_asg' h
theorem r_app {ds0 : List DV} (e : sl[i]? = some (some (.lst ds0, true))) (h : WE' (fe ⟨sl, cs⟩) (fun a kd st1 => EatT kd st1 fun st2 => ∃ ds, st2.sl[i]? = some (some (.lst ds, true)) ∧ ds.length < sizeLine ∧ nx ⟨st2.sl.set i (some (.lst (ds ++ [a]), true)), st2.cs⟩) E) : WS (svApp i fe ⟨sl, cs⟩) ⟨nx, bk, ct, rt⟩ E := ws_app e h
theorem r_setIx {ds0 : List DV} {fi : Ev} (e : sl[i]? = some (some (.lst ds0, true))) (h : WE' (fe ⟨sl, cs⟩) (fun a kd st1 => EatT kd st1 fun st2 => WE' (fi st2) (fun j _ st3 => ∃ ds, st3.sl[i]? = some (some (.lst ds, true)) ∧ ∃ k, j = .int k ∧ ∃ m, ixN ds.length k = some m ∧ nx ⟨st3.sl.set i (some (.lst (ds.set m a), true)), st3.cs⟩) E) E) : WS (svSetIx i fi fe ⟨sl, cs⟩) ⟨nx, bk, ct, rt⟩ E := by
  unfold svSetIx
  rw [show (⟨sl, cs⟩ : DS).sl[i]? = _ from e]
  dsimp only
  refine W.bind (W.imp h fun a st1 h => ?_)
  unfold EatT WE' at h
  refine W.bind (W.imp h fun j st2 h => ?_)
  obtain ⟨ds, e1, k, e2, m, e3, h⟩ := h
  rw [e1]
  obtain ⟨j, kj⟩ := j
  cases (show j = _ from e2)
  dsimp only
  rw [e3]
  exact h
theorem r_try {l : Nat} {C : CT} (h : WS (f st) ⟨nx, bk, ct, rt⟩ (fun _ _ => False)) : WS (svTry f (catchN C l) i j st) ⟨nx, bk, ct, rt⟩ E := by
  refine ws_try' (F := E) ?_
  cases e : f st with
  | stuck => rw [e] at h; exact h
  | exc x st1 => rw [e] at h; exact (h : False).elim
  | ok fl st1 => rw [e] at h; exact h
theorem r_for {fi : Iv} {gv : Gv} (h : WV (fi st) (fun ds st1 => WS (forGo gv f ds st1) ⟨nx, bk, ct, rt⟩ E) E) : WS (svFor fi gv f st) ⟨nx, bk, ct, rt⟩ E := ws_for' h
theorem rv_cons (h : WE' (fe st) (fun a kd st1 => EatT kd st1 fun st2 => WV (ge st2) (fun ds st3 => qv (a :: ds) st3) E) E) : WV (evCons fe ge st) qv E := wv_cons h
theorem rd_cons {r : Dv'} (h : WE' (fa st) (fun ka _ st1 => WE' (fb st1) (fun v kd st2 => EatT kd st2 fun st3 => WDp (r st3) (fun ks vs st4 => ∃ kk, keyD ka = some kk ∧ (ks.any fun j => decide (j = kk)) = false ∧ qd (kk :: ks) (v :: vs) st4) E) E) E) : WDp (dvCons fa fb r st) qd E := wd_cons h
theorem ri_e (h : WE' (fe st) (fun a kd st1 => EatT kd st1 fun st2 => ∃ ds, itemsD a = some ds ∧ qv ds st2) E) : WV (ivE fe st) qv E := wi_e' h
theorem ri_enum (h : WA (ga st) (fun as st1 => ∃ ds kd, as = [(.lst ds, kd)] ∧ EatT kd st1 (qv (enumL ds))) E) : WV (ivEnum ga st) qv E := wi_enum' h
/-- the caller's slots are as they were -/
theorem bk_p {as : List (DV × Kd)} (hv : noView as = true) (h : q a (kdO kd) ⟨sl, cs⟩) : BkT sl as a kd cs q := bk_plain hv h
theorem bk_s {as : List (DV × Kd)} (hs : safeR (a, kd) = true) (hd : cs.all isDraw = true) (h : q a (kdO kd) ⟨sl, cs⟩) : BkT sl as a kd cs q := bk_safe hs hd h
theorem wf' {m l : Nat} {sv : Sv} {ds : List DV} {q : DV → Kd → List CellC → Prop} (hl : ds.length = l) (h : WS (sv ⟨startSl m ds, cs⟩) ⟨fun st => q .non .new st.cs, fun _ => False, fun _ => False, fun a kd st => q a (RetT kd st) st.cs⟩ E) : WF' (fnSv m l sv) ds cs q E := wf_sv hl h
end
end D

/-! F: one step of a goal told forward. -/
namespace D
open PySem L2 PyProof.Rows
theorem ifk_not {A B : Prop} {a : Bool} (h : IfK a B A) : IfK (!a) A B := by
  cases a <;> exact h
theorem noView_nk {a : DV} {as : List (DV × Kd)} (h : noView as = true) : noView ((a, nk a .fro) :: as) = true := by
  unfold nk
  split <;> exact h
theorem noView_nkn {a : DV} {as : List (DV × Kd)} (h : noView as = true) : noView ((a, nk a .new) :: as) = true := by
  unfold nk
  split <;> exact h
theorem noView_nkO {a : DV} {kd : Kd} {as : List (DV × Kd)} (h : noView as = true) : noView ((a, nk a (kdO kd)) :: as) = true := by
  unfold nk kdO
  split
  · exact h
  · cases kd <;> exact h
/-- a comprehension that leaves all as it is -/
theorem wl_fm {vs : List Nat} {gv : Gv} {t : Tv} {fe : Ev} {q : List DV → DS → Prop} (g : DV → Option DV) (st : DS) : ∀ (ds acc : List DV), (∀ d ∈ ds, WG (gv d (st.wipe vs)) fun st1 => WT (t st1) (fun c st2 => IfK c (WE' (fe st2) (fun a kd st3 => g d = some a ∧ st.back (st3.eat kd) vs = st) noX) (g d = none ∧ st.back st2 vs = st)) noX) → q (acc ++ ds.filterMap g) st → WL (lcGo vs gv t fe ds acc st) q := fun ds acc hb hq =>
  wlc (fun r acc' st' => st' = st ∧ (∀ d ∈ r, WG (gv d (st.wipe vs)) fun st1 => WT (t st1) (fun c st2 => IfK c (WE' (fe st2) (fun a kd st3 => g d = some a ∧ st.back (st3.eat kd) vs = st) noX) (g d = none ∧ st.back st2 vs = st)) noX) ∧ acc' ++ r.filterMap g = acc ++ ds.filterMap g) ds acc st ⟨rfl, hb, rfl⟩
    (fun d r acc' st' ⟨e1, e2, e3⟩ => by
      subst e1
      have hd := e2 d (by simp)
      revert hd
      generalize gv d (st'.wipe vs) = o
      intro hd
      cases o with
      | none => exact hd
      | some st1 =>
        have hd : WT (t st1) _ noX := hd
        show WT (t st1) _ noX
        refine W.imp hd fun c st2 h => ?_
        cases c with
        | false =>
          obtain ⟨h1, h2⟩ := (h : g d = none ∧ _)
          refine ⟨h2, fun x hx => e2 x (by simp [hx]), ?_⟩
          rw [← e3, List.filterMap_cons, h1]
        | true =>
          have h : WE' (fe st2) (fun a kd st3 => g d = some a ∧ st'.back (st3.eat kd) vs = st') noX := h
          refine W.imp h fun a st3 h => ?_
          obtain ⟨h1, h2⟩ := h
          refine ⟨h2, fun x hx => e2 x (by simp [hx]), ?_⟩
          rw [← e3, List.filterMap_cons, h1]
          simp)
    (fun acc' st' ⟨e1, _, e3⟩ => by subst e1; rw [← e3] at hq; simpa using hq)
/-- a comprehension over things told by data, all taken, the state left as it is -/
theorem wl_map {β : Type} {vs : List Nat} {gv : Gv} {t : Tv} {fe : Ev} {q : List DV → DS → Prop} (f g : β → DV) (st : DS) (es : List β) (acc : List DV) (hb : ∀ e ∈ es, WG (gv (f e) (st.wipe vs)) fun st1 => WT (t st1) (fun c st2 => IfK c (WE' (fe st2) (fun a kd st3 => a = g e ∧ st.back (st3.eat kd) vs = st) noX) False) noX) (hq : q (acc ++ es.map g) st) : WL (lcGo vs gv t fe (es.map f) acc st) q :=
  wlc (fun r acc' st' => st' = st ∧ ∃ es' : List β, r = es'.map f ∧ (∀ e ∈ es', WG (gv (f e) (st.wipe vs)) fun st1 => WT (t st1) (fun c st2 => IfK c (WE' (fe st2) (fun a kd st3 => a = g e ∧ st.back (st3.eat kd) vs = st) noX) False) noX) ∧ acc' ++ es'.map g = acc ++ es.map g) (es.map f) acc st ⟨rfl, es, rfl, hb, rfl⟩
    (fun d r acc' st' ⟨e1, es', e2, e3, e4⟩ => by
      subst e1
      cases es' with
      | nil => cases e2
      | cons z es' =>
        injection e2 with e5 e6
        subst e5
        have hd := e3 z (by simp)
        revert hd
        generalize gv (f z) (st'.wipe vs) = o
        intro hd
        cases o with
        | none => exact hd
        | some st1 =>
          have hd : WT (t st1) _ noX := hd
          show WT (t st1) _ noX
          refine W.imp hd fun c st2 h => ?_
          cases c with
          | false => exact (h : False).elim
          | true =>
            have h : WE' (fe st2) (fun a kd st3 => a = g z ∧ st'.back (st3.eat kd) vs = st') noX := h
            refine W.imp h fun a st3 h => ?_
            obtain ⟨h1, h2⟩ := h
            refine ⟨h2, es', e6, fun x hx => e3 x (by simp [hx]), ?_⟩
            rw [← e4, h1]
            simp)
    (fun acc' st' ⟨e1, es', e2, e3, e4⟩ => by
      subst e1
      cases es' with
      | nil => rw [← e4] at hq; simpa using hq
      | cons z es' => cases e2)
/-- a comprehension: what holds of each thing made, and of the state by how many turns are left -/
theorem wl_inv {vs : List Nat} {gv : Gv} {t : Tv} {fe : Ev} {q : List DV → DS → Prop} (J : Nat → DS → Prop) (Q : DV → Prop) (ds : List DV) (st : DS) (h0 : J ds.length st)
    (hb : ∀ d m st, d ∈ ds → J (m + 1) st → WG (gv d (st.wipe vs)) fun st1 => WT (t st1) (fun c st2 => c = true ∧ WE' (fe st2) (fun a kd st3 => EatT kd st3 fun st4 => Q a ∧ J m (st.back st4 vs)) noX) noX)
    (he : ∀ ys st, ys.length = ds.length → (∀ y ∈ ys, Q y) → J 0 st → q ys st) : WL (lcGo vs gv t fe ds [] st) q :=
  wlc (fun r acc st' => J r.length st' ∧ (∀ d ∈ r, d ∈ ds) ∧ (∀ y ∈ acc, Q y) ∧ acc.length + r.length = ds.length) ds [] st ⟨h0, fun _ h => h, fun _ h => by simp at h, by simp⟩
    (fun d r acc st' ⟨e1, e2, e3, e4⟩ => by
      have hd := hb d r.length st' (e2 d (by simp)) e1
      revert hd
      generalize gv d (st'.wipe vs) = o
      intro hd
      cases o with
      | none => exact hd
      | some st1 =>
        have hd : WT (t st1) _ noX := hd
        show WT (t st1) _ noX
        refine W.imp hd fun c st2 h => ?_
        obtain ⟨h1, h2⟩ := h
        subst h1
        refine W.imp h2 fun a st3 h => ?_
        obtain ⟨h1, h2⟩ := h
        refine ⟨h2, fun x hx => e2 x (by simp [hx]), fun y hy => ?_, by simp at e4 ⊢; omega⟩
        rcases List.mem_append.mp hy with hy | hy
        · exact e3 y hy
        · simp at hy; subst hy; exact h1)
    (fun acc st' ⟨e1, _, e3, e4⟩ => he acc st' (by simpa using e4) e3 e1)
/-- a lambda that calls one def -/
theorem we_lamF {C : CT} {L : LamD} {F : Fn} {ga : Ak} {st : DS} {q : QE} {E : EK} (h : WA (ga st.frz) (fun as st1 => noView as = true ∧ WF' F (as.map (·.1)) st1.cs (fun _ _ cs' => WS (L.rest ⟨L.sl1, cs'⟩) ⟨fun st2 => q .non .new ⟨st1.sl, st2.cs⟩, fun _ => False, fun _ => False, fun a _ st2 => q a (nk a .fro) ⟨st1.sl, st2.cs⟩⟩ noX)
    (fun x cs' => catchN C L.kx x.c = some true ∧ WS (L.rest ⟨L.slX x, cs'⟩) ⟨fun st2 => q .non .new ⟨st1.sl, st2.cs⟩, fun _ => False, fun _ => False, fun a _ st2 => q a (nk a .fro) ⟨st1.sl, st2.cs⟩⟩ noX)) noX) : WE' (evLam C L (evN (evFn F ga)) st) q E := by
  have fin : ∀ {o : Out Fl} {sl' : List Slot}, WS o ⟨fun st2 => q .non .new ⟨sl', st2.cs⟩, fun _ => False, fun _ => False, fun a _ st2 => q a (nk a .fro) ⟨sl', st2.cs⟩⟩ noX → WE' (lamBack sl' (outRet o)) q E := fun {o sl'} h => by
    cases o with
    | stuck => exact h
    | exc x st2 => exact (show False from h).elim
    | ok fl st2 => cases fl <;> exact h
  unfold evLam evN evFn
  cases e : ga st.frz with
  | stuck => rw [e] at h; exact h
  | exc x st1 => rw [e] at h; exact (h : False).elim
  | ok as st1 =>
    rw [e] at h
    obtain ⟨h1, h⟩ := (h : noView as = true ∧ _)
    unfold WF' at h
    simp only [Out.bind]
    revert h
    generalize F (as.map (·.1)) ⟨[], st1.cs⟩ = o
    intro h
    cases o with
    | stuck => exact h
    | exc x st2 =>
      obtain ⟨h2, h3⟩ := (h : catchN C L.kx x.c = some true ∧ _)
      show WE' (match catchN C L.kx x.c with | some true => lamBack (eatAll ⟨st1.sl, st2.cs⟩ as).sl (outRet (L.rest ⟨L.slX x, (eatAll ⟨st1.sl, st2.cs⟩ as).cs⟩)) | _ => .stuck) q E
      rw [h2, eatAll_noView h1]
      exact fin h3
    | ok a st2 =>
      obtain ⟨a, kd⟩ := a
      have h : WS _ _ noX := h
      cases kd <;> (simp only [backTo', Out.bind]; first | exact fin h | (rw [eatAll_noView h1, ite_self]; exact fin h) | (rw [eatAll_noView h1]; simp only [ite_self]; exact fin h))
theorem nk_pk {x : DV} : nk x (kdO (nk x .fro)) = nk x .fro := by unfold nk kdO; split <;> rfl
theorem putT_pk {i : Nat} {x : DV} {sl : List Slot} {cs : List CellC} {n : DS → Prop} (h : n ⟨sl.set i (some (x, false)), cs⟩) : PutT i x (nk x (kdO (nk x .fro))) ⟨sl, cs⟩ n := by rw [nk_pk]; exact putT_nk h
theorem next_eqD {d : DrawSt} {n : Nat} {many : Int} {q : DV → Kd → List CellC → Prop} {E : EK} (ok : DrawOk d (n + 1)) (hm : 0 < many) (hm2 : many < 2 ^ 64) (h : ∀ r d' kd, 0 ≤ r → r < many → DrawOk d' n → q (.int r) kd [.draw d']) : WF' F_next [.cel 0, .int many] [.draw d] q E := by
  obtain ⟨r, d', kd, e, r0, r1, ok'⟩ := next_run (k := 0) (cs := [.draw d]) ok rfl hm hm2
  exact WF'.eq e (h r d' kd r0 r1 ok')
theorem fits_r {i j : Int} (h : fits64 j = true) : (fits64 i || fits64 j) = true := by rw [h, Bool.or_true]
theorem fits_l {i j : Int} (h : fits64 i = true) : (fits64 i || fits64 j) = true := by rw [h, Bool.true_or]
theorem and_tt {b : Bool} {B : Prop} (h : b = true) (hB : B) : b = true ∧ B := ⟨h, hB⟩
theorem wo_neSS {s : Str} {p : DV → Kd → Prop} (h : p (.bl false) .new) : WO (dCmp .NotEq (.str s) (.str s)) p := wo (a := .bl false) (kd := .new) (by show dNe (.str s) (.str s) = _; simp [dNe, eqD]) h
theorem wo_eqSS {s : Str} {p : DV → Kd → Prop} (h : p (.bl true) .new) : WO (dCmp .Eq (.str s) (.str s)) p := wo (a := .bl true) (kd := .new) (by show dEq (.str s) (.str s) = _; simp [dEq, eqD]) h
theorem wo_neS {s s' : Str} {p : DV → Kd → Prop} (h : p (.bl (!decide (s = s'))) .new) : WO (dCmp .NotEq (.str s) (.str s')) p := wo (a := .bl (!decide (s = s'))) (kd := .new) (by show dNe (.str s) (.str s') = _; simp only [dNe, eqD, Option.map_some]) h
theorem wo_eqS {s s' : Str} {p : DV → Kd → Prop} (h : p (.bl (decide (s = s'))) .new) : WO (dCmp .Eq (.str s) (.str s')) p := wo (a := .bl (decide (s = s'))) (kd := .new) (by show dEq (.str s) (.str s') = _; simp only [dEq, eqD, Option.map_some]) h
theorem and_ff {b : Bool} {B : Prop} (h : b = false) (hB : B) : b = false ∧ B := ⟨h, hB⟩
theorem and_15 {n : Nat} {B : Prop} (h : n ≤ 15) (hB : B) : n ≤ 15 ∧ B := ⟨h, hB⟩
theorem wf_a0 {F : Fn} {cs : List CellC} {q : DV → Kd → List CellC → Prop} {E : EK} (h : WF' F [] cs q E) : WF' F (List.map (fun x : DV × Kd => x.1) []) cs q E := h
theorem wo_m0 {g : OpN} {p : DV → Kd → Prop} {a : DV} (h : WO (g (a :: [])) p) : WO (g (a :: List.map (fun x => x.1) ([] : List (DV × Kd)))) p := h
theorem wo_a1 {g : OpN} {p : DV → Kd → Prop} {a0 : DV} {k0 : Kd} (h : WO (g [a0]) p) : WO (g (List.map (fun x => x.1) [(a0, k0)])) p := h
theorem wf_a1 {F : Fn} {cs : List CellC} {q : DV → Kd → List CellC → Prop} {E : EK} {a0 : DV} {k0 : Kd} (h : WF' F [a0] cs q E) : WF' F (List.map (fun x => x.1) [(a0, k0)]) cs q E := h
theorem wo_m1 {g : OpN} {p : DV → Kd → Prop} {a : DV} {a0 : DV} {k0 : Kd} (h : WO (g (a :: [a0])) p) : WO (g (a :: List.map (fun x => x.1) [(a0, k0)])) p := h
theorem wo_a2 {g : OpN} {p : DV → Kd → Prop} {a0 a1 : DV} {k0 k1 : Kd} (h : WO (g [a0, a1]) p) : WO (g (List.map (fun x => x.1) [(a0, k0), (a1, k1)])) p := h
theorem wf_a2 {F : Fn} {cs : List CellC} {q : DV → Kd → List CellC → Prop} {E : EK} {a0 a1 : DV} {k0 k1 : Kd} (h : WF' F [a0, a1] cs q E) : WF' F (List.map (fun x => x.1) [(a0, k0), (a1, k1)]) cs q E := h
theorem wo_m2 {g : OpN} {p : DV → Kd → Prop} {a : DV} {a0 a1 : DV} {k0 k1 : Kd} (h : WO (g (a :: [a0, a1])) p) : WO (g (a :: List.map (fun x => x.1) [(a0, k0), (a1, k1)])) p := h
theorem wo_a3 {g : OpN} {p : DV → Kd → Prop} {a0 a1 a2 : DV} {k0 k1 k2 : Kd} (h : WO (g [a0, a1, a2]) p) : WO (g (List.map (fun x => x.1) [(a0, k0), (a1, k1), (a2, k2)])) p := h
theorem wf_a3 {F : Fn} {cs : List CellC} {q : DV → Kd → List CellC → Prop} {E : EK} {a0 a1 a2 : DV} {k0 k1 k2 : Kd} (h : WF' F [a0, a1, a2] cs q E) : WF' F (List.map (fun x => x.1) [(a0, k0), (a1, k1), (a2, k2)]) cs q E := h
theorem wo_m3 {g : OpN} {p : DV → Kd → Prop} {a : DV} {a0 a1 a2 : DV} {k0 k1 k2 : Kd} (h : WO (g (a :: [a0, a1, a2])) p) : WO (g (a :: List.map (fun x => x.1) [(a0, k0), (a1, k1), (a2, k2)])) p := h
theorem wo_a4 {g : OpN} {p : DV → Kd → Prop} {a0 a1 a2 a3 : DV} {k0 k1 k2 k3 : Kd} (h : WO (g [a0, a1, a2, a3]) p) : WO (g (List.map (fun x => x.1) [(a0, k0), (a1, k1), (a2, k2), (a3, k3)])) p := h
theorem wf_a4 {F : Fn} {cs : List CellC} {q : DV → Kd → List CellC → Prop} {E : EK} {a0 a1 a2 a3 : DV} {k0 k1 k2 k3 : Kd} (h : WF' F [a0, a1, a2, a3] cs q E) : WF' F (List.map (fun x => x.1) [(a0, k0), (a1, k1), (a2, k2), (a3, k3)]) cs q E := h
theorem wo_a5 {g : OpN} {p : DV → Kd → Prop} {a0 a1 a2 a3 a4 : DV} {k0 k1 k2 k3 k4 : Kd} (h : WO (g [a0, a1, a2, a3, a4]) p) : WO (g (List.map (fun x => x.1) [(a0, k0), (a1, k1), (a2, k2), (a3, k3), (a4, k4)])) p := h
theorem wf_a5 {F : Fn} {cs : List CellC} {q : DV → Kd → List CellC → Prop} {E : EK} {a0 a1 a2 a3 a4 : DV} {k0 k1 k2 k3 k4 : Kd} (h : WF' F [a0, a1, a2, a3, a4] cs q E) : WF' F (List.map (fun x => x.1) [(a0, k0), (a1, k1), (a2, k2), (a3, k3), (a4, k4)]) cs q E := h
structure RepOk (d : DV) : Prop where
  o : dOk d = true
  w : dW d ≤ 300000
  p : dDp d ≤ 64
theorem wo_rep {d : DV} {ct : CT} {p : DV → Kd → Prop} (h : RepOk d) (hp : p (.str (reprS d)) .new) : WO (Blt.run ct .repr [d]) p := wo_repr h.o h.w h.p hp
theorem RepOk.ints {xs : List Int} (hl : xs.length ≤ 2000) (h : ∀ x ∈ xs, x.natAbs < 10 ^ 36) : RepOk (iL xs) := ⟨dOks_ints h, by show dWs _ ≤ _; rw [dWs_ints]; omega, by show dDps _ + 1 ≤ 64; rw [dDps_ints]; decide⟩
theorem RepOk.bl {b : Bool} : RepOk (.bl b) := ⟨rfl, Nat.zero_le _, Nat.zero_le _⟩
theorem RepOk.int {x : Int} (h : x.natAbs < 10 ^ 36) : RepOk (.int x) := ⟨by simp [dOk, h], by show (128 : Nat) ≤ 300000; decide, by show (0 : Nat) ≤ 64; decide⟩
def FnT (F : Fn) (as : List (DV × Kd)) (st : DS) (q : QE) (E : EK) : Prop := WF' F (as.map (·.1)) st.cs (fun a kd cs' => BkT st.sl as a kd cs' q) E
theorem we_fnT {F : Fn} {ga : Ak} {st : DS} {q : QE} {E : EK} (h : WA (ga st) (fun as st1 => FnT F as st1 q E) E) : WE' (evFn F ga st) q E := we_fn h
theorem fnT0 {F : Fn} {sl : List Slot} {cs : List CellC} {q : QE} {E : EK} (h : WF' F [] cs (fun a kd cs' => BkT sl [] a kd cs' q) E) : FnT F [] ⟨sl, cs⟩ q E := h
theorem fnT1 {F : Fn} {sl : List Slot} {cs : List CellC} {q : QE} {E : EK} {a0 : DV} {k0 : Kd} (h : WF' F [a0] cs (fun a kd cs' => BkT sl [(a0, k0)] a kd cs' q) E) : FnT F [(a0, k0)] ⟨sl, cs⟩ q E := h
theorem fnT2 {F : Fn} {sl : List Slot} {cs : List CellC} {q : QE} {E : EK} {a0 a1 : DV} {k0 k1 : Kd} (h : WF' F [a0, a1] cs (fun a kd cs' => BkT sl [(a0, k0), (a1, k1)] a kd cs' q) E) : FnT F [(a0, k0), (a1, k1)] ⟨sl, cs⟩ q E := h
theorem fnT3 {F : Fn} {sl : List Slot} {cs : List CellC} {q : QE} {E : EK} {a0 a1 a2 : DV} {k0 k1 k2 : Kd} (h : WF' F [a0, a1, a2] cs (fun a kd cs' => BkT sl [(a0, k0), (a1, k1), (a2, k2)] a kd cs' q) E) : FnT F [(a0, k0), (a1, k1), (a2, k2)] ⟨sl, cs⟩ q E := h
theorem fnT4 {F : Fn} {sl : List Slot} {cs : List CellC} {q : QE} {E : EK} {a0 a1 a2 a3 : DV} {k0 k1 k2 k3 : Kd} (h : WF' F [a0, a1, a2, a3] cs (fun a kd cs' => BkT sl [(a0, k0), (a1, k1), (a2, k2), (a3, k3)] a kd cs' q) E) : FnT F [(a0, k0), (a1, k1), (a2, k2), (a3, k3)] ⟨sl, cs⟩ q E := h
theorem fnT5 {F : Fn} {sl : List Slot} {cs : List CellC} {q : QE} {E : EK} {a0 a1 a2 a3 a4 : DV} {k0 k1 k2 k3 k4 : Kd} (h : WF' F [a0, a1, a2, a3, a4] cs (fun a kd cs' => BkT sl [(a0, k0), (a1, k1), (a2, k2), (a3, k3), (a4, k4)] a kd cs' q) E) : FnT F [(a0, k0), (a1, k1), (a2, k2), (a3, k3), (a4, k4)] ⟨sl, cs⟩ q E := h
theorem par_view {i j : Nat} {a : DV} {sl : List Slot} {cs : List CellC} {g : Sv} {n : DS → Prop} {E : EK} (h : WS (g ⟨dropSl sl j, cs⟩) ⟨fun st2 => n ⟨st2.sl.set i (some (a, false)), st2.cs⟩, fun st2 => n ⟨st2.sl.set i (some (a, false)), st2.cs⟩, fun st2 => n ⟨st2.sl.set i (some (a, false)), st2.cs⟩, fun _ _ st2 => n ⟨st2.sl.set i (some (a, false)), st2.cs⟩⟩ E) : ParT i a (.view j) ⟨sl, cs⟩ g n E := h
def NkT (a : DV) (kd : Kd) (st : DS) (q : QE) : Prop := q a (nk a kd) st
section
variable {sl : List Slot} {cs : List CellC} {as : List (DV × Kd)} {a : DV} {q : QE}
theorem bk_pn (hv : noView as = true) (h : q a .new ⟨sl, cs⟩) : BkT sl as a .new cs q := bk_plain hv h
theorem bk_pf (hv : noView as = true) (h : q a .fro ⟨sl, cs⟩) : BkT sl as a .fro cs q := bk_plain hv h
theorem bk_pk (hv : noView as = true) (h : q a (nk a .fro) ⟨sl, cs⟩) : BkT sl as a (nk a .fro) cs q := bk_plain hv (by rw [show kdO (nk a .fro) = nk a .fro from by unfold nk; by_cases hf : flat a = true <;> simp [hf, kdO]]; exact h)
theorem bk_sn (hs : safeR (a, .new) = true) (hd : cs.all isDraw = true) (h : q a .new ⟨sl, cs⟩) : BkT sl as a .new cs q := bk_safe hs hd h
theorem nk_nk {kd : Kd} : nk a (nk a kd) = nk a kd := by unfold nk; split <;> rfl
theorem nk_new : nk a .new = .new := by unfold nk; split <;> rfl
theorem we_nN {fe : Ev} {st : DS} {E : EK} (h : WE' (fe st) (fun a kd st1 => NkT a kd st1 q) E) : WE' (evN fe st) q E := we_n (h.mono (fun a kd st1 h => by unfold NkT at h; exact h) fun _ _ h => h)
theorem nkT_n {st : DS} (h : q a .new st) : NkT a .new st q := by unfold NkT; rw [nk_new]; exact h
theorem nkT_k {st : DS} {kd : Kd} (h : q a (nk a kd) st) : NkT a (nk a kd) st q := by unfold NkT; rw [nk_nk]; exact h
theorem nkT_f {st : DS} {kd : Kd} (hf : flat a = true) (h : q a .new st) : NkT a kd st q := by unfold NkT nk; rw [if_pos hf]; exact h
theorem nkT {st : DS} {kd : Kd} (h : q a (nk a kd) st) : NkT a kd st q := h
end
theorem retT_k {x : DV} {st : DS} : RetT (nk x .fro) st = nk x .fro := by unfold nk; by_cases hf : flat x = true <;> simp [hf, RetT]
def frzL (sl : List Slot) : List Slot := sl.map (Option.map fun (p : DV × Bool) => (p.1, false))
def LamT (C : CT) (L : LamD) (F : Fn) (as : List (DV × Kd)) (st1 : DS) (q : QE) : Prop := noView as = true ∧ WF' F (as.map (·.1)) st1.cs (fun _ _ cs' => WS (L.rest ⟨L.sl1, cs'⟩) ⟨fun st2 => q .non .new ⟨st1.sl, st2.cs⟩, fun _ => False, fun _ => False, fun a _ st2 => q a (nk a .fro) ⟨st1.sl, st2.cs⟩⟩ noX)
    (fun x cs' => catchN C L.kx x.c = some true ∧ WS (L.rest ⟨L.slX x, cs'⟩) ⟨fun st2 => q .non .new ⟨st1.sl, st2.cs⟩, fun _ => False, fun _ => False, fun a _ st2 => q a (nk a .fro) ⟨st1.sl, st2.cs⟩⟩ noX)
theorem lamT_of {C : CT} {L : LamD} {F : Fn} {as : List (DV × Kd)} {st1 : DS} {q : QE} (hv : noView as = true) (h : WF' F (as.map (·.1)) st1.cs (fun _ _ cs' => WS (L.rest ⟨L.sl1, cs'⟩) ⟨fun st2 => q .non .new ⟨st1.sl, st2.cs⟩, fun _ => False, fun _ => False, fun a _ st2 => q a (nk a .fro) ⟨st1.sl, st2.cs⟩⟩ noX)
    (fun x cs' => catchN C L.kx x.c = some true ∧ WS (L.rest ⟨L.slX x, cs'⟩) ⟨fun st2 => q .non .new ⟨st1.sl, st2.cs⟩, fun _ => False, fun _ => False, fun a _ st2 => q a (nk a .fro) ⟨st1.sl, st2.cs⟩⟩ noX)) : LamT C L F as st1 q := ⟨hv, h⟩
theorem we_lamT {C : CT} {L : LamD} {F : Fn} {ga : Ak} {sl sl' : List Slot} {cs : List CellC} {q : QE} {E : EK} (e : frzL sl = sl') (h : WA (ga ⟨sl', cs⟩) (fun as st1 => LamT C L F as st1 q) noX) : WE' (evLam C L (evN (evFn F ga)) ⟨sl, cs⟩) q E :=
  we_lamF (by show WA (ga ⟨frzL sl, cs⟩) _ noX; rw [e]; exact h)
theorem noView_fro {a : DV} {as : List (DV × Kd)} (h : noView as = true) : noView ((a, .fro) :: as) = true := h
theorem noView_new {a : DV} {as : List (DV × Kd)} (h : noView as = true) : noView ((a, .new) :: as) = true := h
theorem begun_eqD {ns : List Int} {q : DV → Kd → List CellC → Prop} {E : EK} (hl : ns.length ≤ 63) (h : ∀ d, DrawOk d (2 ^ 40) → q (.cel 0) .fro [.draw d]) : WF' F_begun [.scr ns] [] q E := by
  have hs : ns.length ≤ sizeLine := Nat.le_trans hl (by decide)
  exact WF'.eq (sl' := []) (by simp [F_begun, hs]) (h _ (begun_ok hl))
theorem kept_of {F : Fn} (h : ∀ ns : List Int, ns.length ≤ 63 → WF' F [.scr ns] [] (fun a _ _ => a = .bl true) noX) : KeptBy F 63 := by
  intro ns hl _
  have := h ns hl
  unfold WF' at this
  revert this
  generalize F [.scr ns] ⟨[], []⟩ = o
  intro this
  cases o with
  | ok a st => obtain ⟨a, kd⟩ := a; cases (this : a = .bl true); exact ⟨kd, st, rfl⟩
  | exc x st => exact (show False from this).elim
  | stuck => exact (show False from this).elim
end D

/-! F: more forward rules: list(range), range with a step, zip, calls by keywords. -/
namespace D
open PySem L2 PyProof.Rows
section
variable {q : QE} {qa : List (DV × Kd) → DS → Prop} {qv : List DV → DS → Prop} {E : EK} {st : DS} {fa fb : Ev} {ga : Ak}
theorem we_lr1 (h : WE' (fa st) (fun a _ st1 => ∃ j, a = .int j ∧ RgOk 0 j ∧ q (.lst (rangeL 0 (j - 0).toNat)) .new st1) E) : WE' (evLR1 fa st) q E :=
  W.bind (W.imp h fun a st1 h => by obtain ⟨j, h1, h2, h3⟩ := h; rw [h1]; dsimp only; rw [if_pos h2]; exact h3)
theorem we_lr2 (h : WE' (fa st) (fun a _ st1 => WE' (fb st1) (fun b _ st2 => ∃ i, a = .int i ∧ ∃ j, b = .int j ∧ RgOk i j ∧ q (.lst (rangeL i (j - i).toNat)) .new st2) E) E) : WE' (evLR2 fa fb st) q E :=
  W.bind (W.imp h fun a st1 h => W.bind (W.imp h fun b st2 h => by obtain ⟨i, h1, j, h2, h3, h4⟩ := h; rw [h1, h2]; dsimp only; rw [if_pos h3]; exact h4))
theorem wa_perm {π : List Nat} (h : WA (ga st) (fun as st1 => ∃ bs, permK π as = some bs ∧ qa bs st1) E) : WA (akPerm π ga st) qa E :=
  W.bind (W.imp h fun as st1 h => by obtain ⟨bs, h1, h2⟩ := h; rw [h1]; exact h2)
theorem wi_r3' (h : WA (ga st) (fun as st1 => ∃ i j c, as.map (·.1) = [DV.int i, DV.int j, DV.int c] ∧ rgOk i j c = true ∧ qv (rangeC i c (Builtin.Range.rangeSize i j c).toNat) st1) E) : WV (ivR3 ga st) qv E :=
  W.bind (W.imp h fun as st1 h => by
    obtain ⟨i, j, c, h1, h2, h3⟩ := h
    rw [h1]
    dsimp only
    rw [if_pos h2]
    exact h3)
theorem wi_zip' (h : WA (ga st) (fun as st1 => ∃ ds kd es ke, as = [(.lst ds, kd), (.lst es, ke)] ∧ qv (zipL ds es) ((st1.eat kd).eat ke)) E) : WV (ivZip ga st) qv E :=
  W.bind (W.imp h fun as st1 h => by obtain ⟨ds, kd, es, ke, h1, h2⟩ := h; subst h1; exact h2)
theorem wi_enumX' (h : WA (ga st) (fun as st1 => ∃ p, as = [p] ∧ ((∃ ds, p.1 = .lst ds ∧ EatT p.2 st1 (qv (enumL ds))) ∨ ∃ ds, p.1 = .tup ds ∧ EatT p.2 st1 (qv (enumL ds)))) E) : WV (ivEnumX ga st) qv E :=
  W.bind (W.imp h fun as st1 h => by
    obtain ⟨⟨d, kd⟩, h1, h2⟩ := h
    subst h1
    rcases h2 with ⟨ds, h3, h4⟩ | ⟨ds, h3, h4⟩
    · cases (h3 : d = _)
      exact h4
    · cases (h3 : d = _)
      exact h4)
end
end D

/-! F: forward rules for dicts, own classes, methods. -/
namespace D
open PySem L2 PyProof.Rows
section
variable {q : QE} {qa : List (DV × Kd) → DS → Prop} {E : EK} {nx bk ct : DS → Prop} {rt : QE} {st : DS} {sl : List Slot} {cs : List CellC} {fa fb fe fi fo : Ev} {ge gk : Ak} {i j n m : Nat} {mn : Str} {C : CT}
/-- what is asked, by names that do not unfold under the tactic -/
def InsT (st : DS) (a : DV) (k : Nat → List Str → Prop) : Prop := ∃ c ns, insOf st a = some (c, ns) ∧ k c ns
theorem insT {st : DS} {a : DV} {k : Nat → List Str → Prop} {c : Nat} {ns : List Str} (h : insOf st a = some (c, ns)) (hk : k c ns) : InsT st a k := ⟨c, ns, h, hk⟩
def MtT (L : MTab DV) (c : Nat) (k : List Nat → List DV → Fn → Prop) : Prop := ∃ π dds F, L c = some (π, dds, F) ∧ k π dds F
theorem mtT {L : MTab DV} {c : Nat} {k : List Nat → List DV → Fn → Prop} {π : List Nat} {dds : List DV} {F : Fn} (h : L c = some (π, dds, F)) (hk : k π dds F) : MtT L c k := ⟨π, dds, F, h, hk⟩
def PtT (L : PTab) (c : Nat) (k : Fn → Prop) : Prop := ∃ F, L c = some F ∧ k F
theorem ptT {L : PTab} {c : Nat} {k : Fn → Prop} {F : Fn} (h : L c = some F) (hk : k F) : PtT L c k := ⟨F, h, hk⟩
def PermT (π : List Nat) (as : List (DV × Kd)) (k : List (DV × Kd) → Prop) : Prop := ∃ zs, permL π as = some zs ∧ k zs
theorem permT {π : List Nat} {as zs : List (DV × Kd)} {k : List (DV × Kd) → Prop} (h : permL π as = some zs) (hk : k zs) : PermT π as k := ⟨zs, h, hk⟩
def LenT (n m : Nat) (as bs : List (DV × Kd)) (P : Prop) : Prop := (as.length = n ∧ bs.length = m) ∧ P
theorem lenT {n m : Nat} {as bs : List (DV × Kd)} {P : Prop} (h1 : as.length = n) (h2 : bs.length = m) (hP : P) : LenT n m as bs P := ⟨⟨h1, h2⟩, hP⟩
def CelT (C : CT) (st : DS) (o : DV) (f : Str) (a : DV) (nx : DS → Prop) : Prop := ∃ k, o = .cel k ∧ ∃ c ns vs, st.cs[k]? = some (.obj (.ins c ns vs)) ∧ ((c, f) ∈ C.fi ∧ ns.length < 1000) ∧ nx ⟨st.sl, st.cs.set k (.obj (.ins c (putFD f a ns vs).1 (putFD f a ns vs).2))⟩
theorem celT {C : CT} {sl : List Slot} {cs cs' : List CellC} {k c : Nat} {f : Str} {a : DV} {nx : DS → Prop} {ns ns' : List Str} {vs vs' : List DV} (h : cs[k]? = some (.obj (.ins c ns vs))) (h1 : (c, f) ∈ C.fi) (h2 : ns.length < 1000) (h3 : putFD f a ns vs = (ns', vs')) (h4 : cs.set k (.obj (.ins c ns' vs')) = cs') (hk : nx ⟨sl, cs'⟩) : CelT C ⟨sl, cs⟩ (.cel k) f a nx := ⟨k, rfl, c, ns, vs, h, ⟨h1, h2⟩, by rw [h3, h4]; exact hk⟩
def DctT (st : DS) (i : Nat) (z a : DV) (nx : DS → Prop) : Prop := ∃ ks ds k, st.sl[i]? = some (some (.dct ks ds, true)) ∧ keyD z = some k ∧ (ks.Nodup ∧ ks.length < sizeLine) ∧ nx ⟨st.sl.set i (some (.dct (putDK k a ks ds).1 (putDK k a ks ds).2, true)), st.cs⟩
theorem dctT {sl : List Slot} {cs : List CellC} {i : Nat} {z a : DV} {nx : DS → Prop} {ks : List Key} {ds : List DV} {k : Key} (h1 : sl[i]? = some (some (.dct ks ds, true))) (h2 : keyD z = some k) (h3 : ks.Nodup) (h4 : ks.length < sizeLine) (hk : nx ⟨sl.set i (some (.dct (putDK k a ks ds).1 (putDK k a ks ds).2, true)), cs⟩) : DctT ⟨sl, cs⟩ i z a nx := ⟨ks, ds, k, h1, h2, ⟨h3, h4⟩, hk⟩
def PopT (st : DS) (i j : Nat) (a : DV) (nx : DS → Prop) : Prop := ∃ ds es z k d, st.sl[i]? = some (some (.lst ds, true)) ∧ st.sl[j]? = some (some (.lst es, true)) ∧ a = .int z ∧ (-(2 ^ 63) ≤ z ∧ z < 2 ^ 63 ∧ ds.length < sizeLine) ∧ seqIndex? z es.length = some k ∧ es[k]? = some d ∧ nx ⟨(st.sl.set j (some (.lst (es.eraseIdx k), true))).set i (some (.lst (ds ++ [d]), true)), st.cs⟩
theorem r_setD {ks0 : List Key} {ds0 : List DV} (e : sl[i]? = some (some (.dct ks0 ds0, true))) (h : WE' (fe ⟨sl, cs⟩) (fun a kd st1 => EatT kd st1 fun st2 => WE' (fi st2) (fun z _ st3 => DctT st3 i z a nx) E) E) :
    WS (svSetD i fi fe ⟨sl, cs⟩) ⟨nx, bk, ct, rt⟩ E := by
  unfold svSetD
  rw [show (⟨sl, cs⟩ : DS).sl[i]? = _ from e]
  exact W.bind (W.imp h fun a st1 h => W.bind (W.imp h fun z st3 h => by
    obtain ⟨ks, ds, k, h1, h2, h3, h4⟩ := h
    rw [h1, h2]
    dsimp only
    rw [if_pos h3]
    exact h4))
theorem r_appPop {ds0 es0 : List DV} (e : sl[i]? = some (some (.lst ds0, true))) (e2 : sl[j]? = some (some (.lst es0, true))) (hij : i ≠ j)
    (h : WE' (fe ⟨sl, cs⟩) (fun a _ st1 => PopT st1 i j a nx) E) :
    WS (svAppPop i j fe ⟨sl, cs⟩) ⟨nx, bk, ct, rt⟩ E := by
  unfold svAppPop
  rw [show (⟨sl, cs⟩ : DS).sl[i]? = _ from e, show (⟨sl, cs⟩ : DS).sl[j]? = _ from e2]
  dsimp only
  rw [if_neg hij]
  exact W.bind (W.imp h fun a st1 h => by
    obtain ⟨ds, es, z, k, d, h1, h2, h3, h4, h5, h6, h7⟩ := h
    rw [h1, h2, h3]
    dsimp only
    rw [if_pos h4, h5]
    dsimp only
    rw [h6]
    exact h7)
theorem wa_arr {π : List Nat} {dds : List DV} (h : WA (ge st) (fun as st1 => WA (gk st1) (fun bs st2 => LenT n m as bs (PermT π (as ++ (bs ++ dds.map fun d => (d, Kd.fro))) fun zs => qa zs st2)) E) E) : WA (akArr π n m dds ge gk st) qa E :=
  W.bind (W.imp h fun as st1 h => W.bind (W.imp h fun bs st2 h => by
    obtain ⟨h1, zs, h2, h3⟩ := h
    rw [if_pos h1, h2]
    exact h3))
theorem wa_arrO {a : DV × Kd} {π : List Nat} {dds : List DV} (h : WA (ge st) (fun as st1 => WA (gk st1) (fun bs st2 => LenT n m as bs (PermT π ((a :: as) ++ (bs ++ dds.map fun d => (d, Kd.fro))) fun zs => qa zs st2)) E) E) : WA (akArrO a π n m dds ge gk st) qa E :=
  W.bind (W.imp h fun as st1 h => W.bind (W.imp h fun bs st2 h => by
    obtain ⟨h1, zs, h2, h3⟩ := h
    rw [if_pos h1, h2]
    exact h3))
/-- behind a def's run, as a caller sees it -/
theorem w_back {F : Fn} {as : List (DV × Kd)} (h : WF' F (as.map (·.1)) cs (fun a kd cs' => BkT sl as a kd cs' q) E) : WE' (backTo' sl as (F (as.map (·.1)) ⟨[], cs⟩)) q E := by
  unfold WF' at h
  revert h
  generalize F (as.map (·.1)) ⟨[], cs⟩ = o
  intro h
  cases o with
  | stuck => exact h
  | exc x st2 => exact (show E x (eatAll ⟨sl, st2.cs⟩ as).cs from by rw [eatAll_cs]; exact h)
  | ok a st2 => obtain ⟨a, kd⟩ := a; cases kd <;> exact h
theorem we_mth {L : MTab DV} (h : WE' (fo st) (fun a kd st1 => InsT st1 a fun c ns => ns.contains mn = false ∧ MtT L c fun π dds F => WA (akArrO (a, kd) π n m dds ge gk st1) (fun as st2 => FnT F as st2 q E) E) E) : WE' (evMth L mn n m fo ge gk st) q E :=
  W.bind (W.imp h fun a st1 h => by
    obtain ⟨c, ns, h1, h2, π, dds, F, h3, h4⟩ := h
    rw [h1]
    dsimp only
    rw [if_neg (by rw [h2]; exact Bool.false_ne_true), h3]
    exact W.bind (W.imp h4 fun as st2 h => w_back h))
theorem we_prp {L : PTab} (h : WE' (fo st) (fun a kd st1 => InsT st1 a fun c ns => PtT L c fun F => FnT F [(a, kd)] st1 q noX) E) : WE' (evPrp L fo st) q E :=
  W.bind (W.imp h fun a st1 h => by
    obtain ⟨a, kd⟩ := a
    obtain ⟨c, ns, h1, F, h3, h4⟩ := h
    rw [h1]
    dsimp only
    rw [h3]
    dsimp only
    have h5 := w_back (as := [(a, kd)]) h4
    revert h5
    show WE' (backTo' st1.sl [(a, kd)] (F [a] ⟨[], st1.cs⟩)) q noX → _
    cases F [a] ⟨[], st1.cs⟩ with
    | ok r st2 => exact id
    | exc x st2 => exact fun h => h.elim
    | stuck => exact fun h => h.elim)
theorem we_get {L : PTab} (h : WE' (fo st) (fun a kd st1 => WE' (fi st1) (fun b kb st2 => InsT st2 a fun c ns => PtT L c fun F => FnT F [(a, kd), (b, kb)] st2 q E) E) E) : WE' (evGet L fo fi st) q E :=
  W.bind (W.imp h fun a st1 h => W.bind (W.imp h fun b st2 h => by
    obtain ⟨a, kd⟩ := a
    obtain ⟨b, kb⟩ := b
    obtain ⟨c, ns, h1, F, h3, h4⟩ := h
    rw [h1]
    dsimp only
    rw [h3]
    exact w_back (as := [(a, kd), (b, kb)]) h4))
theorem we_fldC {f : Str} (h : WE' (fa st) (fun a _ st1 => ∃ d, fldC C f st1 a = some d ∧ q d (nk d .fro) st1) E) : WE' (evFldC C f fa st) q E :=
  W.bind (W.imp h fun a st1 h => by
    obtain ⟨d, h1, h2⟩ := h
    rw [h1]
    exact h2)
theorem r_setF {f : Str} (h : WE' (fe st) (fun a kd st1 => EatT kd st1 fun st2 => WE' (fo st2) (fun o _ st3 => CelT C st3 o f a nx) E) E) :
    WS (svSetF C f fo fe st) ⟨nx, bk, ct, rt⟩ E :=
  W.bind (W.imp h fun a st1 h => W.bind (W.imp h fun o st3 h => by
    obtain ⟨k, h1, c, ns, vs, h2, h3, h4⟩ := h
    rw [h1]
    dsimp only
    rw [h2]
    dsimp only
    rw [if_pos h3]
    exact h4))
/-- __init__: what is made -/
theorem wf_ini {p c : Nat} {sv : Sv} {ds : List DV} {q : DV → Kd → List CellC → Prop} (hl : ds.length + 1 = p) (hd : cs.all isDraw = true)
    (h : WS (sv ⟨startSl n (.cel cs.length :: ds), cs ++ [.obj (.ins c [] [])]⟩) ⟨fun st => ∃ d cs', st.cs = cs' ++ [.obj d] ∧ cs'.length = cs.length ∧ cs'.all isDraw = true ∧ noCel d = true ∧ q d .new cs', fun _ => False, fun _ => False, fun a _ st => a = .non ∧ ∃ d cs', st.cs = cs' ++ [.obj d] ∧ cs'.length = cs.length ∧ cs'.all isDraw = true ∧ noCel d = true ∧ q d .new cs'⟩
      (fun x cs1 => ∃ d cs', cs1 = cs' ++ [d] ∧ cs'.length = cs.length ∧ cs'.all isDraw = true ∧ noCels x.vs = true ∧ E x cs')) : WF' (fnIni n p c sv) ds cs q E := by
  unfold WF' fnIni
  rw [if_pos hl]
  dsimp only
  have key : ∀ {st : DS}, (∃ d cs', st.cs = cs' ++ [.obj d] ∧ cs'.length = cs.length ∧ cs'.all isDraw = true ∧ noCel d = true ∧ q d .new cs') → W (iniBack cs.length st) (fun a st => q a.1 a.2 st.cs) E := fun {st} ⟨d, cs', e, l, dd, nc, hq⟩ => by
    unfold iniBack
    rw [e, ← l]
    rw [if_pos ⟨by simp, by rw [List.take_left' rfl]; exact dd⟩]
    rw [List.getElem?_append_right (Nat.le_refl _), Nat.sub_self]
    show W (if noCel d = true then _ else _) _ _
    rw [if_pos nc, List.take_left' rfl]
    exact hq
  revert h
  generalize sv ⟨startSl n (.cel cs.length :: ds), cs ++ [.obj (.ins c [] [])]⟩ = o
  intro h
  cases o with
  | stuck => exact h
  | exc x st =>
    obtain ⟨d, cs', e, l, dd, nc, hq⟩ := (h : ∃ d cs', st.cs = cs' ++ [d] ∧ _)
    show W (if st.cs.length = cs.length + 1 ∧ (st.cs.take cs.length).all isDraw = true ∧ noCels x.vs = true then .exc x ⟨[], st.cs.take cs.length⟩ else .stuck) _ _
    rw [e, ← l]
    rw [if_pos ⟨by simp, by rw [List.take_left' rfl]; exact dd, nc⟩]
    rw [List.take_left' rfl]
    exact hq
  | ok fl st =>
    cases fl with
    | nx => exact key h
    | bk => exact (h : False).elim
    | ct => exact (h : False).elim
    | rt d kd =>
      obtain ⟨rfl, h⟩ := (h : d = .non ∧ _)
      exact key h
theorem we_key (h : WE' (fe st) (fun a kd st1 => (keyD a).isSome = true ∧ q a kd st1) E) : WE' (evKey fe st) q E :=
  W.bind (W.imp h fun a st1 ⟨h1, h2⟩ => by
    rw [if_pos h1]
    exact h2)
theorem we_lenSc {vs : List Nat} {fv : Iv} {gv : Gv} (h : WV (fv st) (fun ds st1 => ds.length + 1 < scanBound ∧ WL (lcGo vs gv tvYes (evKey fe) ds [] (st1.dropAll vs)) fun ys st2 => q (.int (setL ys).length) .new st2) E) : WE' (evLenSc vs fv gv fe st) q E :=
  W.bind (W.imp h fun ds st1 ⟨h1, h2⟩ => by
    rw [if_pos h1]
    revert h2
    cases lcGo vs gv tvYes (evKey fe) ds [] (st1.dropAll vs) with
    | none => exact fun h => h.elim
    | some r => exact fun h => h)
theorem r_raiseX {c : Nat} {fs : List Str} (h : WA (ge st) (fun as st1 => as.length = fs.length ∧ E ⟨c, fs.reverse, (as.map (·.1)).reverse⟩ st1.cs) E) : WS (svRaiseX c fs ge st) ⟨nx, bk, ct, rt⟩ E :=
  W.bind (W.imp h fun as st1 ⟨h1, h2⟩ => by
    rw [if_pos h1]
    show E _ (eatAll st1 as).cs
    rw [eatAll_cs]
    exact h2)
end
end D

/-! F: the forward rules over words that stay shut. -/
namespace D
open PySem L2 PyProof.Rows
@[irreducible] def XE (o : Out (DV × Kd)) (q : QE) (E : EK) : Prop := WE' o q E
@[irreducible] def XT (o : Out Bool) (q : Bool → DS → Prop) (E : EK) : Prop := WT o q E
@[irreducible] def XA (o : Out (List (DV × Kd))) (q : List (DV × Kd) → DS → Prop) (E : EK) : Prop := WA o q E
@[irreducible] def XV (o : Out (List DV)) (q : List DV → DS → Prop) (E : EK) : Prop := WV o q E
@[irreducible] def XP (o : Out (Option Int)) (q : Option Int → DS → Prop) (E : EK) : Prop := WP o q E
@[irreducible] def XD (o : Out (List Key × List DV)) (q : List Key → List DV → DS → Prop) (E : EK) : Prop := WDp o q E
@[irreducible] def XS (o : Out Fl) (k : KS) (E : EK) : Prop := WS o k E
@[irreducible] def XOp (o : Option (DV × Kd)) (q : DV → Kd → Prop) : Prop := WO o q
@[irreducible] def XF (F : Fn) (ds : List DV) (cs : List CellC) (q : DV → Kd → List CellC → Prop) (E : EK) : Prop := WF' F ds cs q E
@[irreducible] def XG (o : Option DS) (q : DS → Prop) : Prop := WG o q
section
variable {q : QE} {qb : Bool → DS → Prop} {qa : List (DV × Kd) → DS → Prop} {qv : List DV → DS → Prop} {qp : Option Int → DS → Prop} {qd : List Key → List DV → DS → Prop} {E : EK} {k : KS} {st st1 : DS} {sl : List Slot} {cs : List CellC} {fa fb fc fe : Ev} {f g : Sv} {ta tb t : Tv} {ga gb : Ak} {ge : Av'} {d a b : DV} {kd : Kd} {i j : Nat} {o : Option (DV × Kd)} {p : DV → Kd → Prop} {A B : Prop}
theorem XE.mono {o : Out (DV × Kd)} {q' : QE} {E' : EK} (h : XE o q E) (hq : ∀ a kd st, q a kd st → q' a kd st) (hE : ∀ x cs, E x cs → E' x cs) : XE o q' E' := by with_unfolding_all exact WE'.mono h hq hE
theorem XS.mono {o : Out Fl} {k' : KS} {E' : EK} (h : XS o k E) (h1 : ∀ st, k.nx st → k'.nx st) (h2 : ∀ st, k.bk st → k'.bk st) (h3 : ∀ st, k.ct st → k'.ct st) (h4 : ∀ a kd st, k.rt a kd st → k'.rt a kd st) (hE : ∀ x cs, E x cs → E' x cs) : XS o k' E' := by with_unfolding_all exact WS.mono h h1 h2 h3 h4 hE
theorem XF.mono {F : Fn} {ds : List DV} {q q' : DV → Kd → List CellC → Prop} {E' : EK} (h : XF F ds cs q E) (hq : ∀ a kd cs, q a kd cs → q' a kd cs) (hE : ∀ x cs, E x cs → E' x cs) : XF F ds cs q' E' := by with_unfolding_all exact WF'.mono h hq hE
theorem XF.eq {F : Fn} {ds : List DV} {q : DV → Kd → List CellC → Prop} {cs' : List CellC} {sl' : List Slot} (e : F ds ⟨[], cs⟩ = .ok (a, kd) ⟨sl', cs'⟩) (h : q a kd cs') : XF F ds cs q E := by with_unfolding_all exact WF'.eq e h
theorem XF.ex {F : Fn} {ds : List DV} {q : DV → Kd → List CellC → Prop} {x : DX} {cs' : List CellC} {sl' : List Slot} (e : F ds ⟨[], cs⟩ = .exc x ⟨sl', cs'⟩) (h : E x cs') : XF F ds cs q E := by with_unfolding_all exact WF'.ex e h
theorem x_we_c (h : q d .new st) : XE (evC d st) q E := by with_unfolding_all exact we_c h
theorem x_we_var (e : sl[i]? = some (some (d, false))) (h : q d .fro ⟨sl, cs⟩) : XE (evVar i ⟨sl, cs⟩) q E := by with_unfolding_all exact we_var e h
theorem x_we_varO (e : sl[i]? = some (some (d, true))) (h : q d (.view i) ⟨sl, cs⟩) : XE (evVar i ⟨sl, cs⟩) q E := by with_unfolding_all exact we_varO e h
theorem x_we_cls (h : q (.cls i) .fro st) : XE (evCls i st) q E := by with_unfolding_all exact we_cls h
theorem x_we_g (h : q d .fro st) : XE (evG d st) q E := by with_unfolding_all exact we_g h
theorem x_we_op {g : Op2} (h : XE (fa st) (fun a _ st1 => XE (fb st1) (fun b _ st2 => XOp (g a b) fun c kd => q c kd st2) E) E) : XE (evOp g fa fb st) q E := by with_unfolding_all exact we_op h
theorem x_we_call {g : OpN} (h : XA (ga st) (fun as st1 => XOp (g (as.map (·.1))) fun c kd => q c kd st1) E) : XE (evCall g ga st) q E := by with_unfolding_all exact we_call h
theorem x_we_meth {isT : DV → Bool} {g : OpN} (h : XE (fa st) (fun a _ st1 => isT a = true ∧ XA (ga st1) (fun as st2 => XOp (g (a :: as.map (·.1))) fun c kd => q c kd st2) E) E) : XE (evMeth isT g fa ga st) q E := by with_unfolding_all exact we_meth h
theorem x_we_not (h : XE (fa st) (fun a _ st1 => ∃ k, truD a = some k ∧ q (.bl (!k)) .new st1) E) : XE (evNot fa st) q E := by with_unfolding_all exact we_not h
theorem x_we_and (h : XE (fa st) (fun a kd st1 => ∃ k, truD a = some k ∧ IfK k (XE (fb st1) q E) (q a kd st1)) E) : XE (evAnd fa fb st) q E := by with_unfolding_all exact we_and h
theorem x_we_or (h : XE (fa st) (fun a kd st1 => ∃ k, truD a = some k ∧ IfK k (q a kd st1) (XE (fb st1) q E)) E) : XE (evOr fa fb st) q E := by with_unfolding_all exact we_or h
theorem x_we_if (h : XT (t st) (fun k st1 => IfK k (XE (fa st1) q E) (XE (fb st1) q E)) E) : XE (evIf t fa fb st) q E := by with_unfolding_all exact we_if h
theorem x_we_neg (h : XE (fa st) (fun a _ st1 => ∃ i, a = .int i ∧ q (.int (-i)) .new st1) E) : XE (evNeg fa st) q E := by with_unfolding_all exact we_neg h
theorem x_we_chain {g g' : Op2} (h : XE (fa st) (fun a _ st1 => XE (fb st1) (fun b _ st2 => ∃ r, g a b = some (.bl r, .new) ∧ IfK r (XE (fc st2) (fun c _ st3 => XOp (g' b c) fun z kd => q z kd st3) E) (q (.bl false) .new st2)) E) E) : XE (evChain g g' fa fb fc st) q E := by with_unfolding_all exact we_chain h
theorem x_we_rev (h : XE (fa st) (fun a _ st1 => (∃ ds, a = .lst ds ∧ q (.lst ds.reverse) .new st1) ∨ ∃ ds, a = .tup ds ∧ q (.tup ds.reverse) .fro st1) E) : XE (evRev fa st) q E := by with_unfolding_all exact we_rev h
theorem x_we_fld {ct : CT} {n : Str} (h : XE (fa st) (fun a _ st1 => ∃ d, fldD ct n a = some d ∧ q d (nk d .fro) st1) E) : XE (evFld ct n fa st) q E := by with_unfolding_all exact we_fld h
theorem x_wp_none (h : qp none st) : XP (pvNone st) qp E := by with_unfolding_all exact wp_none h
theorem x_wp_some (h : XE (fa st) (fun a _ st1 => ∃ i, a = .int i ∧ qp (some i) st1) E) : XP (pvSome fa st) qp E := by with_unfolding_all exact wp_some h
theorem x_we_sl {lo hi : Pv} (h : XE (fa st) (fun a _ st1 => XP (lo st1) (fun l st2 => XP (hi st2) (fun u st3 => XOp (dSl a l u) fun c kd => q c kd st3) E) E) E) : XE (evSl fa lo hi st) q E := by with_unfolding_all exact we_sl h
theorem x_wv_nil (h : qv [] st) : XV (evNil st) qv E := by with_unfolding_all exact wv_nil h
theorem x_we_lst (h : XV (ge st) (fun ds st1 => ds.length ≤ sizeLine ∧ q (.lst ds) .new st1) E) : XE (evLst ge st) q E := by with_unfolding_all exact we_lst h
theorem x_we_tup (h : XV (ge st) (fun ds st1 => ds.length ≤ sizeLine ∧ q (.tup ds) .new st1) E) : XE (evTup ge st) q E := by with_unfolding_all exact we_tup h
theorem x_wd_nil (h : qd [] [] st) : XD (dvNil st) qd E := by with_unfolding_all exact wd_nil h
theorem x_we_dct {r : Dv'} (h : XD (r st) (fun ks vs st1 => ks.length ≤ 15 ∧ q (.dct ks vs) .new st1) E) : XE (evDct r st) q E := by with_unfolding_all exact we_dct h
theorem x_wa_nil (h : qa [] st) : XA (akNil st) qa E := by with_unfolding_all exact wa_nil h
theorem x_wa_cons (h : XE (fe st) (fun a kd st1 => XA (ga st1) (fun as st2 => qa ((a, kd) :: as) st2) E) E) : XA (akCons fe ga st) qa E := by with_unfolding_all exact wa_cons h
theorem x_wt_b (h : XE (fe st) (fun a _ st1 => ∃ k, a = .bl k ∧ qb k st1) E) : XT (tvB fe st) qb E := by with_unfolding_all exact wt_b h
theorem x_wt_e' (h : XE (fe st) (fun a _ st1 => ∃ k, truD a = some k ∧ qb k st1) E) : XT (tvE fe st) qb E := by with_unfolding_all exact wt_e' h
theorem x_wt_and (h : XT (ta st) (fun k st1 => IfK k (XT (tb st1) qb E) (qb false st1)) E) : XT (tvAnd ta tb st) qb E := by with_unfolding_all exact wt_and h
theorem x_wt_or (h : XT (ta st) (fun k st1 => IfK k (qb true st1) (XT (tb st1) qb E)) E) : XT (tvOr ta tb st) qb E := by with_unfolding_all exact wt_or h
theorem x_wt_not (h : XT (ta st) (fun k st1 => qb (!k) st1) E) : XT (tvNot ta st) qb E := by with_unfolding_all exact wt_not h
theorem x_wt_yes (h : qb true st) : XT (tvYes st) qb E := by with_unfolding_all exact wt_yes h
@[irreducible] def XPar (i : Nat) (a : DV) (kd : Kd) (st : DS) (g : Sv) (n : DS → Prop) (E : EK) : Prop := ParT i a kd st g n E
theorem x_par_fro {n : DS → Prop} (h : XS (g ⟨sl, cs⟩) ⟨fun st2 => n ⟨st2.sl.set i (some (a, false)), st2.cs⟩, fun st2 => n ⟨st2.sl.set i (some (a, false)), st2.cs⟩, fun st2 => n ⟨st2.sl.set i (some (a, false)), st2.cs⟩, fun _ _ st2 => n ⟨st2.sl.set i (some (a, false)), st2.cs⟩⟩ E) : XPar i a .fro ⟨sl, cs⟩ g n E := by with_unfolding_all exact par_fro h
theorem x_wg_name' {n : DS → Prop} (h : n ⟨sl.set i (some (d, false)), cs⟩) : XG (gvName i d ⟨sl, cs⟩) n := by with_unfolding_all exact wg_name' h
theorem x_wg_tup' {n : DS → Prop} {m : Nat} {gg : List DV → DS → Option DS} {ds : List DV} (hl : ds.length = m) (h : XG (gg ds st) n) : XG (gvTup m gg (.tup ds) st) n := by with_unfolding_all exact wg_tup' hl h
theorem x_wg_nil {n : DS → Prop} (h : n st) : XG (gvNil [] st) n := by with_unfolding_all exact wg_nil h
theorem x_wg_cons {n : DS → Prop} {g1 : Gv} {gg : List DV → DS → Option DS} {ds : List DV} (h : XG (g1 d st) fun st1 => XG (gg ds st1) n) : XG (gvCons g1 gg (d :: ds) st) n := by with_unfolding_all exact wg_cons h
theorem x_wi_r1' (h : XA (ga st) (fun as st1 => ∃ j, as.map (·.1) = [DV.int j] ∧ (-(2 ^ 62) ≤ j ∧ j < 2 ^ 62) ∧ qv (rangeL 0 j.toNat) st1) E) : XV (ivR1 ga st) qv E := by with_unfolding_all exact wi_r1' h
theorem x_wi_r2' (h : XA (ga st) (fun as st1 => ∃ i j, as.map (·.1) = [DV.int i, DV.int j] ∧ ((-(2 ^ 62) ≤ i ∧ i < 2 ^ 62) ∧ (-(2 ^ 62) ≤ j ∧ j < 2 ^ 62)) ∧ qv (rangeL i (j - i).toNat) st1) E) : XV (ivR2 ga st) qv E := by with_unfolding_all exact wi_r2' h
theorem x_wfor {gv : Gv} (I : List DV → DS → Prop) : ∀ (ds : List DV) (st : DS), I ds st → (∀ d r st, I (d :: r) st → XG (gv d st) fun st1 => XS (f st1) ⟨I r, k.nx, I r, k.rt⟩ E) → (∀ st, I [] st → k.nx st) → XS (forGo gv f ds st) k E := by with_unfolding_all exact wfor I
@[irreducible] def XL (o : Option (List DV × DS)) (q : List DV → DS → Prop) : Prop := WL o q
theorem x_we_lc {vs : List Nat} {fi : Iv} {gv : Gv} (h : XV (fi st) (fun ds st1 => ds.length ≤ sizeLine ∧ XL (lcGo vs gv t fe ds [] (st1.dropAll vs)) fun ys st2 => q (.lst ys) .new st2) E) : XE (evLc vs fi gv t fe st) q E := by with_unfolding_all exact we_lc h
end
section
variable {p : DV → Kd → Prop} {a : DV} {kd : Kd} {o : Option (DV × Kd)} {i j : Int} {xs ys : List DV} {x y : Str} {ct : CT}
theorem x_wo (h : o = some (a, kd)) (hp : p a kd) : XOp o p := by with_unfolding_all exact wo h hp
theorem x_wo_mul (h : (fits64 i || fits64 j) = true) (hp : p (.int (i * j)) .new) : XOp (dBin .Mult (.int i) (.int j)) p := by with_unfolding_all exact wo_mul h hp
theorem x_wo_div (h : 0 < j ∧ j < 2 ^ 64) (hp : p (.int (i / j)) .new) : XOp (dBin .FloorDiv (.int i) (.int j)) p := by with_unfolding_all exact wo_div h hp
theorem x_wo_mod (h : 0 < j) (hp : p (.int (i % j)) .new) : XOp (dBin .Mod (.int i) (.int j)) p := by with_unfolding_all exact wo_mod h hp
theorem x_wo_pow (h : powOk i j = true) (hp : p (.int (i ^ j.toNat)) .new) : XOp (dBin .Pow (.int i) (.int j)) p := by with_unfolding_all exact wo_pow h hp
theorem x_wo_addL (h : xs.length + ys.length ≤ sizeLine) (hp : p (.lst (xs ++ ys)) .new) : XOp (dBin .Add (.lst xs) (.lst ys)) p := by with_unfolding_all exact wo_addL h hp
theorem x_wo_addT (h : xs.length + ys.length ≤ sizeLine) (hp : p (.tup (xs ++ ys)) .fro) : XOp (dBin .Add (.tup xs) (.tup ys)) p := by with_unfolding_all exact wo_addT h hp
theorem x_wo_addS (h : x.length + y.length ≤ sizeLine) (hp : p (.str (x ++ y)) .new) : XOp (dBin .Add (.str x) (.str y)) p := by with_unfolding_all exact wo_addS h hp
theorem x_wo_mulL (h : -(2 ^ 63) ≤ i ∧ i < 2 ^ 63 ∧ xs.length * i.toNat ≤ sizeLine) (hp : p (.lst (List.replicate i.toNat xs).flatten) .new) : XOp (dBin .Mult (.lst xs) (.int i)) p := by with_unfolding_all exact wo_mulL h hp
theorem x_wo_neR {d : DV} (hd : dOk d = true) (pd : dDp d ≤ 64) (hp : p (.bl false) .new) : XOp (dCmp .NotEq d d) p := by with_unfolding_all exact wo_neR hd pd hp
theorem x_wo_all {bs : List Bool} (h : xs = bs.map .bl) (hp : p (.bl (bs.all id)) .new) : XOp (Blt.run ct .all [.lst xs]) p := by with_unfolding_all exact wo_all h hp
theorem x_wo_lenS (h : x.length ≤ sizeLine) (hp : p (.int (x.length : Nat)) .new) : XOp (Blt.run ct .len [.str x]) p := by with_unfolding_all exact wo_lenS h hp
theorem x_wo_ix (h0 : 0 ≤ i) (h1 : i < xs.length) (hp : ∀ d, xs[i.toNat]? = some d → d ∈ xs → p d .fro) : XOp (dIx (.lst xs) (.int i)) p := by with_unfolding_all exact wo_ix h0 h1 hp
theorem x_wo_ixS (hl : x.length ≤ sizeLine) (h0 : 0 ≤ i) (h1 : i < x.length) (hp : ∀ c, x.cps.toList[i.toNat]? = some c → c ∈ x.cps.toList → p (.str ⟨#[c]⟩) .fro) : XOp (dIx (.str x) (.int i)) p := by with_unfolding_all exact wo_ixS hl h0 h1 hp
end
section
variable {q : QE} {qb : Bool → DS → Prop} {qa : List (DV × Kd) → DS → Prop} {qv : List DV → DS → Prop} {qp : Option Int → DS → Prop} {qd : List Key → List DV → DS → Prop} {E : EK} {nx bk ct : DS → Prop} {rt : QE} {st st1 : DS} {sl : List Slot} {cs : List CellC} {fa fb fc fe : Ev} {f g : Sv} {ta tb t : Tv} {ga gb : Ak} {ge : Av'} {d a b : DV} {kd : Kd} {i j : Nat} {o : Option (DV × Kd)} {p : DV → Kd → Prop} {A B : Prop} {n : DS → Prop}
theorem x_r_seq (h : XS (f st) ⟨fun st1 => XS (g st1) ⟨nx, bk, ct, rt⟩ E, bk, ct, rt⟩ E) : XS (svSeq f g st) ⟨nx, bk, ct, rt⟩ E := by with_unfolding_all exact r_seq h
theorem x_r_nx (h : nx st) : XS (svNx st) ⟨nx, bk, ct, rt⟩ E := by with_unfolding_all exact r_nx h
theorem x_r_pass (h : nx st) : XS (svPass st) ⟨nx, bk, ct, rt⟩ E := by with_unfolding_all exact r_pass h
theorem x_r_break (h : bk st) : XS (svBreak st) ⟨nx, bk, ct, rt⟩ E := by with_unfolding_all exact r_break h
theorem x_r_expr (h : XE (fe st) (fun _ _ st1 => nx st1) E) : XS (svExpr fe st) ⟨nx, bk, ct, rt⟩ E := by with_unfolding_all exact r_expr h
theorem x_r_ret (h : XE (fe st) rt E) : XS (svRet fe st) ⟨nx, bk, ct, rt⟩ E := by with_unfolding_all exact r_ret h
theorem x_r_retN (h : rt .non .new st) : XS (svRetN st) ⟨nx, bk, ct, rt⟩ E := by with_unfolding_all exact r_retN h
theorem x_r_raise (h : E ⟨i, [], []⟩ cs) : XS (svRaise i ⟨sl, cs⟩) ⟨nx, bk, ct, rt⟩ E := by with_unfolding_all exact r_raise h
theorem x_r_if (h : XT (t st) (fun c st1 => IfK c (XS (f st1) ⟨nx, bk, ct, rt⟩ E) (XS (g st1) ⟨nx, bk, ct, rt⟩ E)) E) : XS (svIf t f g st) ⟨nx, bk, ct, rt⟩ E := by with_unfolding_all exact r_if h
theorem x_r_set (h : XE (fe st) (fun a kd st1 => PutT i a kd st1 nx) E) : XS (svSet i fe st) ⟨nx, bk, ct, rt⟩ E := by with_unfolding_all exact r_set h
theorem x_r_then (h : XS (f st) ⟨nx, nx, nx, fun _ _ st1 => nx st1⟩ E) : XS (svThen f st) ⟨nx, bk, ct, rt⟩ E := by with_unfolding_all exact r_then h
theorem x_r_par (h : XE (fe st) (fun a kd st1 => XPar i a kd st1 g nx E) E) : XS (svPar i fe g st) ⟨nx, bk, ct, rt⟩ E := by with_unfolding_all exact r_par h
theorem x_r_parN {bb : Bool} (hb : (isCont a && cs.all isDraw) = bb) (h : XS (g ⟨sl, cs⟩) ⟨fun st2 => n ⟨st2.sl.set i (some (a, bb)), st2.cs⟩, fun st2 => n ⟨st2.sl.set i (some (a, bb)), st2.cs⟩, fun st2 => n ⟨st2.sl.set i (some (a, bb)), st2.cs⟩, fun _ _ st2 => n ⟨st2.sl.set i (some (a, bb)), st2.cs⟩⟩ E) : XPar i a .new ⟨sl, cs⟩ g n E := by with_unfolding_all exact r_parN hb h
theorem x_r_parNk (hf : flat a = true) (h : XS (g ⟨sl, cs⟩) ⟨fun st2 => n ⟨st2.sl.set i (some (a, false)), st2.cs⟩, fun st2 => n ⟨st2.sl.set i (some (a, false)), st2.cs⟩, fun st2 => n ⟨st2.sl.set i (some (a, false)), st2.cs⟩, fun _ _ st2 => n ⟨st2.sl.set i (some (a, false)), st2.cs⟩⟩ E) : XPar i a (nk a kd) ⟨sl, cs⟩ g n E := by with_unfolding_all exact r_parNk hf h
theorem x_r_parNf (h : XS (g ⟨sl, cs⟩) ⟨fun st2 => n ⟨st2.sl.set i (some (a, false)), st2.cs⟩, fun st2 => n ⟨st2.sl.set i (some (a, false)), st2.cs⟩, fun st2 => n ⟨st2.sl.set i (some (a, false)), st2.cs⟩, fun _ _ st2 => n ⟨st2.sl.set i (some (a, false)), st2.cs⟩⟩ E) : XPar i a (nk a .fro) ⟨sl, cs⟩ g n E := by with_unfolding_all exact r_parNf h
theorem x_r_aug {m : Int} (e : sl[i]? = some (some (.int m, false))) (h : XE (fe ⟨sl, cs⟩) (fun a _ st1 => ∃ z, a = .int z ∧ nx ⟨st1.sl.set i (some (.int (m + z), false)), st1.cs⟩) E) : XS (svAug i fe ⟨sl, cs⟩) ⟨nx, bk, ct, rt⟩ E := by with_unfolding_all exact r_aug e h
theorem x_r_asg {gv : Gv} (h : XE (fe st) (fun a kd st1 => EatT kd st1 fun st2 => XG (gv a st2) nx) E) : XS (svAsg fe gv st) ⟨nx, bk, ct, rt⟩ E := by with_unfolding_all exact r_asg h
theorem x_r_app {ds0 : List DV} (e : sl[i]? = some (some (.lst ds0, true))) (h : XE (fe ⟨sl, cs⟩) (fun a kd st1 => EatT kd st1 fun st2 => ∃ ds, st2.sl[i]? = some (some (.lst ds, true)) ∧ ds.length < sizeLine ∧ nx ⟨st2.sl.set i (some (.lst (ds ++ [a]), true)), st2.cs⟩) E) : XS (svApp i fe ⟨sl, cs⟩) ⟨nx, bk, ct, rt⟩ E := by with_unfolding_all exact r_app e h
theorem x_r_setIx {ds0 : List DV} {fi : Ev} (e : sl[i]? = some (some (.lst ds0, true))) (h : XE (fe ⟨sl, cs⟩) (fun a kd st1 => EatT kd st1 fun st2 => XE (fi st2) (fun j _ st3 => ∃ ds, st3.sl[i]? = some (some (.lst ds, true)) ∧ ∃ k, j = .int k ∧ ∃ m, ixN ds.length k = some m ∧ nx ⟨st3.sl.set i (some (.lst (ds.set m a), true)), st3.cs⟩) E) E) : XS (svSetIx i fi fe ⟨sl, cs⟩) ⟨nx, bk, ct, rt⟩ E := by with_unfolding_all exact r_setIx e h
theorem x_r_try {l : Nat} {C : CT} (h : XS (f st) ⟨nx, bk, ct, rt⟩ (fun _ _ => False)) : XS (svTry f (catchN C l) i j st) ⟨nx, bk, ct, rt⟩ E := by with_unfolding_all exact r_try h
theorem x_r_for {fi : Iv} {gv : Gv} (h : XV (fi st) (fun ds st1 => XS (forGo gv f ds st1) ⟨nx, bk, ct, rt⟩ E) E) : XS (svFor fi gv f st) ⟨nx, bk, ct, rt⟩ E := by with_unfolding_all exact r_for h
theorem x_rv_cons (h : XE (fe st) (fun a kd st1 => EatT kd st1 fun st2 => XV (ge st2) (fun ds st3 => qv (a :: ds) st3) E) E) : XV (evCons fe ge st) qv E := by with_unfolding_all exact rv_cons h
theorem x_rd_cons {r : Dv'} (h : XE (fa st) (fun ka _ st1 => XE (fb st1) (fun v kd st2 => EatT kd st2 fun st3 => XD (r st3) (fun ks vs st4 => ∃ kk, keyD ka = some kk ∧ (ks.any fun j => decide (j = kk)) = false ∧ qd (kk :: ks) (v :: vs) st4) E) E) E) : XD (dvCons fa fb r st) qd E := by with_unfolding_all exact rd_cons h
theorem x_ri_e (h : XE (fe st) (fun a kd st1 => EatT kd st1 fun st2 => ∃ ds, itemsD a = some ds ∧ qv ds st2) E) : XV (ivE fe st) qv E := by with_unfolding_all exact ri_e h
theorem x_ri_enum (h : XA (ga st) (fun as st1 => ∃ ds kd, as = [(.lst ds, kd)] ∧ EatT kd st1 (qv (enumL ds))) E) : XV (ivEnum ga st) qv E := by with_unfolding_all exact ri_enum h
theorem x_wf' {m l : Nat} {sv : Sv} {ds : List DV} {q : DV → Kd → List CellC → Prop} (hl : ds.length = l) (h : XS (sv ⟨startSl m ds, cs⟩) ⟨fun st => q .non .new st.cs, fun _ => False, fun _ => False, fun a kd st => q a (RetT kd st) st.cs⟩ E) : XF (fnSv m l sv) ds cs q E := by with_unfolding_all exact wf' hl h
end
theorem x_wl_fm {vs : List Nat} {gv : Gv} {t : Tv} {fe : Ev} {q : List DV → DS → Prop} (g : DV → Option DV) (st : DS) : ∀ (ds acc : List DV), (∀ d ∈ ds, XG (gv d (st.wipe vs)) fun st1 => XT (t st1) (fun c st2 => IfK c (XE (fe st2) (fun a kd st3 => g d = some a ∧ st.back (st3.eat kd) vs = st) noX) (g d = none ∧ st.back st2 vs = st)) noX) → q (acc ++ ds.filterMap g) st → XL (lcGo vs gv t fe ds acc st) q := by with_unfolding_all exact wl_fm g st
theorem x_wl_map {β : Type} {vs : List Nat} {gv : Gv} {t : Tv} {fe : Ev} {q : List DV → DS → Prop} (f g : β → DV) (st : DS) (es : List β) (acc : List DV) (hb : ∀ e ∈ es, XG (gv (f e) (st.wipe vs)) fun st1 => XT (t st1) (fun c st2 => IfK c (XE (fe st2) (fun a kd st3 => a = g e ∧ st.back (st3.eat kd) vs = st) noX) False) noX) (hq : q (acc ++ es.map g) st) : XL (lcGo vs gv t fe (es.map f) acc st) q := by with_unfolding_all exact wl_map f g st es acc hb hq
theorem x_wl_inv {vs : List Nat} {gv : Gv} {t : Tv} {fe : Ev} {q : List DV → DS → Prop} (J : Nat → DS → Prop) (Q : DV → Prop) (ds : List DV) (st : DS) (h0 : J ds.length st)
    (hb : ∀ d m st, d ∈ ds → J (m + 1) st → XG (gv d (st.wipe vs)) fun st1 => XT (t st1) (fun c st2 => c = true ∧ XE (fe st2) (fun a kd st3 => EatT kd st3 fun st4 => Q a ∧ J m (st.back st4 vs)) noX) noX)
    (he : ∀ ys st, ys.length = ds.length → (∀ y ∈ ys, Q y) → J 0 st → q ys st) : XL (lcGo vs gv t fe ds [] st) q := by with_unfolding_all exact wl_inv J Q ds st h0 hb he
theorem x_next_eqD {d : DrawSt} {n : Nat} {many : Int} {q : DV → Kd → List CellC → Prop} {E : EK} (ok : DrawOk d (n + 1)) (hm : 0 < many) (hm2 : many < 2 ^ 64) (h : ∀ r d' kd, 0 ≤ r → r < many → DrawOk d' n → q (.int r) kd [.draw d']) : XF F_next [.cel 0, .int many] [.draw d] q E := by with_unfolding_all exact next_eqD ok hm hm2 h
theorem x_wo_neSS {s : Str} {p : DV → Kd → Prop} (h : p (.bl false) .new) : XOp (dCmp .NotEq (.str s) (.str s)) p := by with_unfolding_all exact wo_neSS h
theorem x_wo_eqSS {s : Str} {p : DV → Kd → Prop} (h : p (.bl true) .new) : XOp (dCmp .Eq (.str s) (.str s)) p := by with_unfolding_all exact wo_eqSS h
theorem x_wo_neS {s s' : Str} {p : DV → Kd → Prop} (h : p (.bl (!decide (s = s'))) .new) : XOp (dCmp .NotEq (.str s) (.str s')) p := by with_unfolding_all exact wo_neS h
theorem x_wo_eqS {s s' : Str} {p : DV → Kd → Prop} (h : p (.bl (decide (s = s'))) .new) : XOp (dCmp .Eq (.str s) (.str s')) p := by with_unfolding_all exact wo_eqS h
theorem x_wf_a0 {F : Fn} {cs : List CellC} {q : DV → Kd → List CellC → Prop} {E : EK} (h : XF F [] cs q E) : XF F (List.map (fun x : DV × Kd => x.1) []) cs q E := by with_unfolding_all exact wf_a0 h
theorem x_wo_m0 {g : OpN} {p : DV → Kd → Prop} {a : DV} (h : XOp (g (a :: [])) p) : XOp (g (a :: List.map (fun x => x.1) ([] : List (DV × Kd)))) p := by with_unfolding_all exact wo_m0 h
theorem x_wo_a1 {g : OpN} {p : DV → Kd → Prop} {a0 : DV} {k0 : Kd} (h : XOp (g [a0]) p) : XOp (g (List.map (fun x => x.1) [(a0, k0)])) p := by with_unfolding_all exact wo_a1 h
theorem x_wf_a1 {F : Fn} {cs : List CellC} {q : DV → Kd → List CellC → Prop} {E : EK} {a0 : DV} {k0 : Kd} (h : XF F [a0] cs q E) : XF F (List.map (fun x => x.1) [(a0, k0)]) cs q E := by with_unfolding_all exact wf_a1 h
theorem x_wo_m1 {g : OpN} {p : DV → Kd → Prop} {a : DV} {a0 : DV} {k0 : Kd} (h : XOp (g (a :: [a0])) p) : XOp (g (a :: List.map (fun x => x.1) [(a0, k0)])) p := by with_unfolding_all exact wo_m1 h
theorem x_wo_a2 {g : OpN} {p : DV → Kd → Prop} {a0 a1 : DV} {k0 k1 : Kd} (h : XOp (g [a0, a1]) p) : XOp (g (List.map (fun x => x.1) [(a0, k0), (a1, k1)])) p := by with_unfolding_all exact wo_a2 h
theorem x_wf_a2 {F : Fn} {cs : List CellC} {q : DV → Kd → List CellC → Prop} {E : EK} {a0 a1 : DV} {k0 k1 : Kd} (h : XF F [a0, a1] cs q E) : XF F (List.map (fun x => x.1) [(a0, k0), (a1, k1)]) cs q E := by with_unfolding_all exact wf_a2 h
theorem x_wo_m2 {g : OpN} {p : DV → Kd → Prop} {a : DV} {a0 a1 : DV} {k0 k1 : Kd} (h : XOp (g (a :: [a0, a1])) p) : XOp (g (a :: List.map (fun x => x.1) [(a0, k0), (a1, k1)])) p := by with_unfolding_all exact wo_m2 h
theorem x_wo_a3 {g : OpN} {p : DV → Kd → Prop} {a0 a1 a2 : DV} {k0 k1 k2 : Kd} (h : XOp (g [a0, a1, a2]) p) : XOp (g (List.map (fun x => x.1) [(a0, k0), (a1, k1), (a2, k2)])) p := by with_unfolding_all exact wo_a3 h
theorem x_wf_a3 {F : Fn} {cs : List CellC} {q : DV → Kd → List CellC → Prop} {E : EK} {a0 a1 a2 : DV} {k0 k1 k2 : Kd} (h : XF F [a0, a1, a2] cs q E) : XF F (List.map (fun x => x.1) [(a0, k0), (a1, k1), (a2, k2)]) cs q E := by with_unfolding_all exact wf_a3 h
theorem x_wo_m3 {g : OpN} {p : DV → Kd → Prop} {a : DV} {a0 a1 a2 : DV} {k0 k1 k2 : Kd} (h : XOp (g (a :: [a0, a1, a2])) p) : XOp (g (a :: List.map (fun x => x.1) [(a0, k0), (a1, k1), (a2, k2)])) p := by with_unfolding_all exact wo_m3 h
theorem x_wo_a4 {g : OpN} {p : DV → Kd → Prop} {a0 a1 a2 a3 : DV} {k0 k1 k2 k3 : Kd} (h : XOp (g [a0, a1, a2, a3]) p) : XOp (g (List.map (fun x => x.1) [(a0, k0), (a1, k1), (a2, k2), (a3, k3)])) p := by with_unfolding_all exact wo_a4 h
theorem x_wf_a4 {F : Fn} {cs : List CellC} {q : DV → Kd → List CellC → Prop} {E : EK} {a0 a1 a2 a3 : DV} {k0 k1 k2 k3 : Kd} (h : XF F [a0, a1, a2, a3] cs q E) : XF F (List.map (fun x => x.1) [(a0, k0), (a1, k1), (a2, k2), (a3, k3)]) cs q E := by with_unfolding_all exact wf_a4 h
theorem x_wo_a5 {g : OpN} {p : DV → Kd → Prop} {a0 a1 a2 a3 a4 : DV} {k0 k1 k2 k3 k4 : Kd} (h : XOp (g [a0, a1, a2, a3, a4]) p) : XOp (g (List.map (fun x => x.1) [(a0, k0), (a1, k1), (a2, k2), (a3, k3), (a4, k4)])) p := by with_unfolding_all exact wo_a5 h
theorem x_wf_a5 {F : Fn} {cs : List CellC} {q : DV → Kd → List CellC → Prop} {E : EK} {a0 a1 a2 a3 a4 : DV} {k0 k1 k2 k3 k4 : Kd} (h : XF F [a0, a1, a2, a3, a4] cs q E) : XF F (List.map (fun x => x.1) [(a0, k0), (a1, k1), (a2, k2), (a3, k3), (a4, k4)]) cs q E := by with_unfolding_all exact wf_a5 h
theorem x_wo_rep {d : DV} {ct : CT} {p : DV → Kd → Prop} (h : RepOk d) (hp : p (.str (reprS d)) .new) : XOp (Blt.run ct .repr [d]) p := by with_unfolding_all exact wo_rep h hp
@[irreducible] def XFn (F : Fn) (as : List (DV × Kd)) (st : DS) (q : QE) (E : EK) : Prop := FnT F as st q E
theorem x_we_fnT {F : Fn} {ga : Ak} {st : DS} {q : QE} {E : EK} (h : XA (ga st) (fun as st1 => XFn F as st1 q E) E) : XE (evFn F ga st) q E := by with_unfolding_all exact we_fnT h
theorem x_fnT0 {F : Fn} {sl : List Slot} {cs : List CellC} {q : QE} {E : EK} (h : XF F [] cs (fun a kd cs' => BkT sl [] a kd cs' q) E) : XFn F [] ⟨sl, cs⟩ q E := by with_unfolding_all exact fnT0 h
theorem x_fnT1 {F : Fn} {sl : List Slot} {cs : List CellC} {q : QE} {E : EK} {a0 : DV} {k0 : Kd} (h : XF F [a0] cs (fun a kd cs' => BkT sl [(a0, k0)] a kd cs' q) E) : XFn F [(a0, k0)] ⟨sl, cs⟩ q E := by with_unfolding_all exact fnT1 h
theorem x_fnT2 {F : Fn} {sl : List Slot} {cs : List CellC} {q : QE} {E : EK} {a0 a1 : DV} {k0 k1 : Kd} (h : XF F [a0, a1] cs (fun a kd cs' => BkT sl [(a0, k0), (a1, k1)] a kd cs' q) E) : XFn F [(a0, k0), (a1, k1)] ⟨sl, cs⟩ q E := by with_unfolding_all exact fnT2 h
theorem x_fnT3 {F : Fn} {sl : List Slot} {cs : List CellC} {q : QE} {E : EK} {a0 a1 a2 : DV} {k0 k1 k2 : Kd} (h : XF F [a0, a1, a2] cs (fun a kd cs' => BkT sl [(a0, k0), (a1, k1), (a2, k2)] a kd cs' q) E) : XFn F [(a0, k0), (a1, k1), (a2, k2)] ⟨sl, cs⟩ q E := by with_unfolding_all exact fnT3 h
theorem x_fnT4 {F : Fn} {sl : List Slot} {cs : List CellC} {q : QE} {E : EK} {a0 a1 a2 a3 : DV} {k0 k1 k2 k3 : Kd} (h : XF F [a0, a1, a2, a3] cs (fun a kd cs' => BkT sl [(a0, k0), (a1, k1), (a2, k2), (a3, k3)] a kd cs' q) E) : XFn F [(a0, k0), (a1, k1), (a2, k2), (a3, k3)] ⟨sl, cs⟩ q E := by with_unfolding_all exact fnT4 h
theorem x_fnT5 {F : Fn} {sl : List Slot} {cs : List CellC} {q : QE} {E : EK} {a0 a1 a2 a3 a4 : DV} {k0 k1 k2 k3 k4 : Kd} (h : XF F [a0, a1, a2, a3, a4] cs (fun a kd cs' => BkT sl [(a0, k0), (a1, k1), (a2, k2), (a3, k3), (a4, k4)] a kd cs' q) E) : XFn F [(a0, k0), (a1, k1), (a2, k2), (a3, k3), (a4, k4)] ⟨sl, cs⟩ q E := by with_unfolding_all exact fnT5 h
theorem x_par_view {i j : Nat} {a : DV} {sl : List Slot} {cs : List CellC} {g : Sv} {n : DS → Prop} {E : EK} (h : XS (g ⟨dropSl sl j, cs⟩) ⟨fun st2 => n ⟨st2.sl.set i (some (a, false)), st2.cs⟩, fun st2 => n ⟨st2.sl.set i (some (a, false)), st2.cs⟩, fun st2 => n ⟨st2.sl.set i (some (a, false)), st2.cs⟩, fun _ _ st2 => n ⟨st2.sl.set i (some (a, false)), st2.cs⟩⟩ E) : XPar i a (.view j) ⟨sl, cs⟩ g n E := by with_unfolding_all exact par_view h
section
variable {sl : List Slot} {cs : List CellC} {as : List (DV × Kd)} {a : DV} {q : QE}
theorem x_we_nN {fe : Ev} {st : DS} {E : EK} (h : XE (fe st) (fun a kd st1 => NkT a kd st1 q) E) : XE (evN fe st) q E := by with_unfolding_all exact we_nN h
end
@[irreducible] def XLam (C : CT) (L : LamD) (F : Fn) (as : List (DV × Kd)) (st1 : DS) (q : QE) : Prop := LamT C L F as st1 q
theorem x_lamT_of {C : CT} {L : LamD} {F : Fn} {as : List (DV × Kd)} {st1 : DS} {q : QE} (hv : noView as = true) (h : XF F (as.map (·.1)) st1.cs (fun _ _ cs' => XS (L.rest ⟨L.sl1, cs'⟩) ⟨fun st2 => q .non .new ⟨st1.sl, st2.cs⟩, fun _ => False, fun _ => False, fun a _ st2 => q a (nk a .fro) ⟨st1.sl, st2.cs⟩⟩ noX)
    (fun x cs' => catchN C L.kx x.c = some true ∧ XS (L.rest ⟨L.slX x, cs'⟩) ⟨fun st2 => q .non .new ⟨st1.sl, st2.cs⟩, fun _ => False, fun _ => False, fun a _ st2 => q a (nk a .fro) ⟨st1.sl, st2.cs⟩⟩ noX)) : XLam C L F as st1 q := by with_unfolding_all exact lamT_of hv h
theorem x_we_lamT {C : CT} {L : LamD} {F : Fn} {ga : Ak} {sl sl' : List Slot} {cs : List CellC} {q : QE} {E : EK} (e : frzL sl = sl') (h : XA (ga ⟨sl', cs⟩) (fun as st1 => XLam C L F as st1 q) noX) : XE (evLam C L (evN (evFn F ga)) ⟨sl, cs⟩) q E := by with_unfolding_all exact we_lamT e h
theorem x_begun_eqD {ns : List Int} {q : DV → Kd → List CellC → Prop} {E : EK} (hl : ns.length ≤ 63) (h : ∀ d, DrawOk d (2 ^ 40) → q (.cel 0) .fro [.draw d]) : XF F_begun [.scr ns] [] q E := by with_unfolding_all exact begun_eqD hl h
theorem x_kept_of {F : Fn} (h : ∀ ns : List Int, ns.length ≤ 63 → XF F [.scr ns] [] (fun a _ _ => a = .bl true) noX) : KeptBy F 63 := by with_unfolding_all exact kept_of h
section
variable {q : QE} {qa : List (DV × Kd) → DS → Prop} {qv : List DV → DS → Prop} {E : EK} {st : DS} {fa fb : Ev} {ga : Ak}
theorem x_we_lr1 (h : XE (fa st) (fun a _ st1 => ∃ j, a = .int j ∧ RgOk 0 j ∧ q (.lst (rangeL 0 (j - 0).toNat)) .new st1) E) : XE (evLR1 fa st) q E := by with_unfolding_all exact we_lr1 h
theorem x_we_lr2 (h : XE (fa st) (fun a _ st1 => XE (fb st1) (fun b _ st2 => ∃ i, a = .int i ∧ ∃ j, b = .int j ∧ RgOk i j ∧ q (.lst (rangeL i (j - i).toNat)) .new st2) E) E) : XE (evLR2 fa fb st) q E := by with_unfolding_all exact we_lr2 h
theorem x_wa_perm {π : List Nat} (h : XA (ga st) (fun as st1 => ∃ bs, permK π as = some bs ∧ qa bs st1) E) : XA (akPerm π ga st) qa E := by with_unfolding_all exact wa_perm h
theorem x_wi_r3' (h : XA (ga st) (fun as st1 => ∃ i j c, as.map (·.1) = [DV.int i, DV.int j, DV.int c] ∧ rgOk i j c = true ∧ qv (rangeC i c (Builtin.Range.rangeSize i j c).toNat) st1) E) : XV (ivR3 ga st) qv E := by with_unfolding_all exact wi_r3' h
theorem x_wi_zip' (h : XA (ga st) (fun as st1 => ∃ ds kd es ke, as = [(.lst ds, kd), (.lst es, ke)] ∧ qv (zipL ds es) ((st1.eat kd).eat ke)) E) : XV (ivZip ga st) qv E := by with_unfolding_all exact wi_zip' h
theorem x_wi_enumX' (h : XA (ga st) (fun as st1 => ∃ p, as = [p] ∧ ((∃ ds, p.1 = .lst ds ∧ EatT p.2 st1 (qv (enumL ds))) ∨ ∃ ds, p.1 = .tup ds ∧ EatT p.2 st1 (qv (enumL ds)))) E) : XV (ivEnumX ga st) qv E := by with_unfolding_all exact wi_enumX' h
end
section
variable {q : QE} {qa : List (DV × Kd) → DS → Prop} {E : EK} {nx bk ct : DS → Prop} {rt : QE} {st : DS} {sl : List Slot} {cs : List CellC} {fa fb fe fi fo : Ev} {ge gk : Ak} {i j n m : Nat} {mn : Str} {C : CT}
theorem x_r_setD {ks0 : List Key} {ds0 : List DV} (e : sl[i]? = some (some (.dct ks0 ds0, true))) (h : XE (fe ⟨sl, cs⟩) (fun a kd st1 => EatT kd st1 fun st2 => XE (fi st2) (fun z _ st3 => DctT st3 i z a nx) E) E) : XS (svSetD i fi fe ⟨sl, cs⟩) ⟨nx, bk, ct, rt⟩ E := by with_unfolding_all exact r_setD e h
theorem x_r_appPop {ds0 es0 : List DV} (e : sl[i]? = some (some (.lst ds0, true))) (e2 : sl[j]? = some (some (.lst es0, true))) (hij : i ≠ j)
    (h : XE (fe ⟨sl, cs⟩) (fun a _ st1 => PopT st1 i j a nx) E) : XS (svAppPop i j fe ⟨sl, cs⟩) ⟨nx, bk, ct, rt⟩ E := by with_unfolding_all exact r_appPop e e2 hij h
theorem x_wa_arr {π : List Nat} {dds : List DV} (h : XA (ge st) (fun as st1 => XA (gk st1) (fun bs st2 => LenT n m as bs (PermT π (as ++ (bs ++ dds.map fun d => (d, Kd.fro))) fun zs => qa zs st2)) E) E) : XA (akArr π n m dds ge gk st) qa E := by with_unfolding_all exact wa_arr h
theorem x_wa_arrO {a : DV × Kd} {π : List Nat} {dds : List DV} (h : XA (ge st) (fun as st1 => XA (gk st1) (fun bs st2 => LenT n m as bs (PermT π ((a :: as) ++ (bs ++ dds.map fun d => (d, Kd.fro))) fun zs => qa zs st2)) E) E) : XA (akArrO a π n m dds ge gk st) qa E := by with_unfolding_all exact wa_arrO h
theorem x_we_mth {L : MTab DV} (h : XE (fo st) (fun a kd st1 => InsT st1 a fun c ns => ns.contains mn = false ∧ MtT L c fun π dds F => XA (akArrO (a, kd) π n m dds ge gk st1) (fun as st2 => XFn F as st2 q E) E) E) : XE (evMth L mn n m fo ge gk st) q E := by with_unfolding_all exact we_mth h
theorem x_we_prp {L : PTab} (h : XE (fo st) (fun a kd st1 => InsT st1 a fun c ns => PtT L c fun F => XFn F [(a, kd)] st1 q noX) E) : XE (evPrp L fo st) q E := by with_unfolding_all exact we_prp h
theorem x_we_get {L : PTab} (h : XE (fo st) (fun a kd st1 => XE (fi st1) (fun b kb st2 => InsT st2 a fun c ns => PtT L c fun F => XFn F [(a, kd), (b, kb)] st2 q E) E) E) : XE (evGet L fo fi st) q E := by with_unfolding_all exact we_get h
theorem x_we_fldC {f : Str} (h : XE (fa st) (fun a _ st1 => ∃ d, fldC C f st1 a = some d ∧ q d (nk d .fro) st1) E) : XE (evFldC C f fa st) q E := by with_unfolding_all exact we_fldC h
theorem x_r_setF {f : Str} (h : XE (fe st) (fun a kd st1 => EatT kd st1 fun st2 => XE (fo st2) (fun o _ st3 => CelT C st3 o f a nx) E) E) : XS (svSetF C f fo fe st) ⟨nx, bk, ct, rt⟩ E := by with_unfolding_all exact r_setF h
theorem x_wf_ini {p c : Nat} {sv : Sv} {ds : List DV} {q : DV → Kd → List CellC → Prop} (hl : ds.length + 1 = p) (hd : cs.all isDraw = true)
    (h : XS (sv ⟨startSl n (.cel cs.length :: ds), cs ++ [.obj (.ins c [] [])]⟩) ⟨fun st => ∃ d cs', st.cs = cs' ++ [.obj d] ∧ cs'.length = cs.length ∧ cs'.all isDraw = true ∧ noCel d = true ∧ q d .new cs', fun _ => False, fun _ => False, fun a _ st => a = .non ∧ ∃ d cs', st.cs = cs' ++ [.obj d] ∧ cs'.length = cs.length ∧ cs'.all isDraw = true ∧ noCel d = true ∧ q d .new cs'⟩
      (fun x cs1 => ∃ d cs', cs1 = cs' ++ [d] ∧ cs'.length = cs.length ∧ cs'.all isDraw = true ∧ noCels x.vs = true ∧ E x cs')) : XF (fnIni n p c sv) ds cs q E := by with_unfolding_all exact wf_ini hl hd h
theorem x_we_key (h : XE (fe st) (fun a kd st1 => (keyD a).isSome = true ∧ q a kd st1) E) : XE (evKey fe st) q E := by with_unfolding_all exact we_key h
theorem x_we_lenSc {vs : List Nat} {fv : Iv} {gv : Gv} (h : XV (fv st) (fun ds st1 => ds.length + 1 < scanBound ∧ XL (lcGo vs gv tvYes (evKey fe) ds [] (st1.dropAll vs)) fun ys st2 => q (.int (setL ys).length) .new st2) E) : XE (evLenSc vs fv gv fe st) q E := by with_unfolding_all exact we_lenSc h
theorem x_r_raiseX {c : Nat} {fs : List Str} (h : XA (ge st) (fun as st1 => as.length = fs.length ∧ E ⟨c, fs.reverse, (as.map (·.1)).reverse⟩ st1.cs) E) : XS (svRaiseX c fs ge st) ⟨nx, bk, ct, rt⟩ E := by with_unfolding_all exact r_raiseX h
end
end D
open PySem L2 PyProof.Rows D
local macro_rules | `(tactic| walk_at "wx1") => `(tactic| first
  | ((with_reducible guard_target =~ XE _ _ _); (first
    | with_reducible refine x_we_c ?_
    | with_reducible refine x_we_var (by with_unfolding_all rfl) ?_
    | with_reducible refine x_we_varO (by with_unfolding_all rfl) ?_
    | with_reducible refine x_we_nN ?_
    | with_reducible refine x_we_fnT ?_
    | with_reducible refine x_we_lamT (by simp only [frzL, startSl, List.map_cons, List.map_nil, List.append_nil, List.nil_append, List.cons_append, List.set_cons_zero, List.set_cons_succ, Option.map_some, Option.map_none, List.replicate_succ, List.replicate_zero, Nat.reduceSub, List.length_cons, List.length_nil] <;> rfl) ?_
    | with_reducible refine x_we_call ?_
    | with_reducible refine x_we_op ?_
    | with_reducible refine x_we_not ?_
    | with_reducible refine x_we_and ?_
    | with_reducible refine x_we_or ?_
    | with_reducible refine x_we_if ?_
    | with_reducible refine x_we_chain ?_
    | with_reducible refine x_we_meth ?_
    | with_reducible refine x_we_neg ?_
    | with_reducible refine x_we_lst ?_
    | with_reducible refine x_we_tup ?_
    | with_reducible refine x_we_dct ?_
    | with_reducible refine x_we_cls ?_
    | with_reducible refine x_we_g ?_
    | with_reducible refine x_we_sl ?_
    | with_reducible refine x_we_rev ?_
    | with_reducible refine x_we_fld ?_
    | with_reducible refine x_we_lr1 ?_
    | with_reducible refine x_we_lr2 ?_
    | with_reducible refine x_we_mth ?_
    | with_reducible refine x_we_prp ?_
    | with_reducible refine x_we_get ?_
    | with_reducible refine x_we_lenSc ?_
    | with_reducible refine x_we_key ?_
    | with_reducible refine x_we_fldC ?_))
  | ((with_reducible guard_target =~ XA _ _ _); (first
    | with_reducible refine x_wa_cons ?_
    | with_reducible refine x_wa_nil ?_
    | with_reducible refine x_wa_perm ?_
    | with_reducible refine x_wa_arr ?_
    | with_reducible refine x_wa_arrO ?_))
  | ((with_reducible guard_target =~ XS _ _ _); (first
    | with_reducible refine x_r_seq ?_
    | with_reducible refine x_r_nx ?_
    | with_reducible refine x_r_set ?_
    | with_reducible refine x_r_if ?_
    | with_reducible refine x_r_ret ?_
    | with_reducible refine x_r_retN ?_
    | with_reducible refine x_r_expr ?_
    | with_reducible refine x_r_raise ?_
    | with_reducible refine x_r_raiseX ?_
    | with_reducible refine x_r_then ?_
    | with_reducible refine x_r_par ?_
    | with_reducible refine x_r_asg ?_
    | with_reducible refine x_r_for ?_
    | with_reducible refine x_r_try ?_
    | with_reducible refine x_r_aug (by with_unfolding_all rfl) ?_
    | with_reducible refine x_r_app (by with_unfolding_all rfl) ?_
    | with_reducible refine x_r_setIx (by with_unfolding_all rfl) ?_
    | with_reducible refine x_r_setD (by with_unfolding_all rfl) ?_
    | with_reducible refine x_r_appPop (by with_unfolding_all rfl) (by with_unfolding_all rfl) (by decide) ?_
    | with_reducible refine x_r_setF ?_
    | with_reducible refine x_r_pass ?_
    | with_reducible refine x_r_break ?_))
  | ((with_reducible guard_target =~ XV _ _ _); (first
    | with_reducible refine x_rv_cons ?_
    | with_reducible refine x_wv_nil ?_
    | with_reducible refine x_ri_e ?_
    | with_reducible refine x_wi_r1' ?_
    | with_reducible refine x_wi_r2' ?_
    | with_reducible refine x_ri_enum ?_
    | with_reducible refine x_wi_r3' ?_
    | with_reducible refine x_wi_zip' ?_
    | with_reducible refine x_wi_enumX' ?_))
  | ((with_reducible guard_target =~ XT _ _ _); (first
    | with_reducible refine x_wt_b ?_
    | with_reducible refine x_wt_e' ?_
    | with_reducible refine x_wt_and ?_
    | with_reducible refine x_wt_or ?_
    | with_reducible refine x_wt_not ?_
    | with_reducible refine x_wt_yes ?_))
  | ((with_reducible guard_target =~ XOp _ _); (first
    | with_reducible refine x_wo_m0 ?_
    | with_reducible refine x_wo_a1 ?_
    | with_reducible refine x_wo_m1 ?_
    | with_reducible refine x_wo_a2 ?_
    | with_reducible refine x_wo_m2 ?_
    | with_reducible refine x_wo_a3 ?_
    | with_reducible refine x_wo_m3 ?_
    | with_reducible refine x_wo_a4 ?_
    | with_reducible refine x_wo_a5 ?_
    | with_reducible refine x_wo_div ⟨by decide, by decide⟩ ?_
    | with_reducible refine x_wo_mod (by decide) ?_
    | with_reducible refine x_wo_pow (by decide) ?_
    | with_reducible refine x_wo_neSS ?_
    | with_reducible refine x_wo_eqSS ?_
    | with_reducible refine x_wo_neS ?_
    | with_reducible refine x_wo_eqS ?_
    | with_reducible refine x_wo_addL (by first | decide | omega | (simp only [sl_eq, List.length_append, List.length_cons, List.length_nil, List.length_map, List.length_replicate, Int.toNat_natCast]; omega) | (simp [sl_eq]; omega)) ?_
    | with_reducible refine x_wo_addL ?_ ?_
    | with_reducible refine x_wo_mul (fits_r (by decide)) ?_
    | with_reducible refine x_wo_mul (fits_l (by decide)) ?_
    | with_reducible refine x_wo_addT (by first | decide | omega | (simp only [sl_eq, List.length_append, List.length_cons, List.length_nil, List.length_map, List.length_replicate, Int.toNat_natCast]; omega)) ?_
    | with_reducible refine x_wo_addT ?_ ?_
    | with_reducible refine x_wo_addS ?_ ?_
    | with_reducible refine x_wo_mulL (by first | decide | omega | (simp only [sl_eq, List.length_append, List.length_cons, List.length_nil, List.length_map, List.length_replicate, Int.toNat_natCast]; omega) | (simp [sl_eq]; omega)) ?_
    | with_reducible refine x_wo_mulL ?_ ?_
    | with_reducible refine x_wo_rep ?_ ?_
    | with_reducible refine x_wo (by with_unfolding_all rfl) ?_))
  | ((with_reducible guard_target =~ XFn _ _ _ _ _); (first
    | with_reducible refine x_fnT0 ?_
    | with_reducible refine x_fnT1 ?_
    | with_reducible refine x_fnT2 ?_
    | with_reducible refine x_fnT3 ?_
    | with_reducible refine x_fnT4 ?_
    | with_reducible refine x_fnT5 ?_))
  | ((with_reducible guard_target =~ NkT _ _ _ _); (first
    | with_reducible refine nkT_n ?_
    | with_reducible refine nkT_k ?_
    | with_reducible refine nkT_f (by with_unfolding_all rfl) ?_
    | with_reducible refine nkT ?_))
  | ((with_reducible guard_target =~ EatT _ _ _); (first
    | with_reducible refine eat_new ?_
    | with_reducible refine eat_fro ?_
    | with_reducible refine eat_view ?_
    | with_reducible refine eat_nk ?_
    | with_reducible refine eat_nkn ?_
    | with_reducible refine eat_nkO ?_
    | with_reducible refine eat_kdO ?_))
  | ((with_reducible guard_target =~ PutT _ _ _ _ _); (first
    | with_reducible refine putT_fro ?_
    | with_reducible refine putT_view ?_
    | with_reducible refine putT_nk ?_
    | with_reducible refine putT_pk ?_
    | with_reducible refine putT_flat (by with_unfolding_all rfl) ?_
    | with_reducible refine putT_own (by with_unfolding_all rfl) (by with_unfolding_all rfl) ?_
    | with_reducible refine putT_nkF (by with_unfolding_all rfl) ?_
    | with_reducible refine putT_nkC (by with_unfolding_all rfl) (by with_unfolding_all rfl) ?_
    | with_reducible refine putT_kdF (by with_unfolding_all rfl) ?_))
  | ((with_reducible guard_target =~ BkT _ _ _ _ _ _); (first
    | with_reducible refine bk_pn rfl ?_
    | with_reducible refine bk_pf rfl ?_
    | with_reducible refine bk_pk rfl ?_
    | with_reducible refine bk_pn (by walk_at "nv") ?_
    | with_reducible refine bk_pf (by walk_at "nv") ?_
    | with_reducible refine bk_pk (by walk_at "nv") ?_
    | with_reducible refine bk_sn (by with_unfolding_all rfl) (by with_unfolding_all rfl) ?_
    | with_reducible refine bk_p rfl ?_
    | with_reducible refine bk_p (by walk_at "nv") ?_
    | with_reducible refine bk_s (by with_unfolding_all rfl) (by with_unfolding_all rfl) ?_))
  | ((with_reducible guard_target =~ IfK _ _ _); (first
    | with_reducible refine IfK.yes ?_
    | with_reducible refine IfK.no ?_
    | with_reducible refine IfK.to (by first | rfl | decide) ?_
    | with_reducible refine IfK.fo (by first | rfl | decide) ?_
    | with_reducible refine ifk_not ?_))
  | ((with_reducible guard_target =~ XD _ _ _); (first
    | with_reducible refine x_rd_cons ?_
    | with_reducible refine x_wd_nil ?_))
  | ((with_reducible guard_target =~ XP _ _ _); (first
    | with_reducible refine x_wp_none ?_
    | with_reducible refine x_wp_some ?_))
  | ((with_reducible guard_target =~ XPar _ _ _ _ _ _ _); (first
    | with_reducible refine x_r_parNf ?_
    | with_reducible refine x_par_fro ?_
    | with_reducible refine x_par_view ?_
    | with_reducible refine x_r_parN (by with_unfolding_all rfl) ?_
    | with_reducible refine x_r_parNk (by with_unfolding_all rfl) ?_))
  | ((with_reducible guard_target =~ XG _ _); (first
    | with_reducible refine x_wg_name' ?_
    | with_reducible refine x_wg_tup' (by with_unfolding_all rfl) ?_
    | with_reducible refine x_wg_cons ?_
    | with_reducible refine x_wg_nil ?_))
  | ((with_reducible guard_target =~ XF _ _ _ _ _); (first
    | with_reducible refine x_wf_a0 ?_
    | with_reducible refine x_wf_a1 ?_
    | with_reducible refine x_wf_a2 ?_
    | with_reducible refine x_wf_a3 ?_
    | with_reducible refine x_wf_a4 ?_
    | with_reducible refine x_wf_a5 ?_))
  | ((with_reducible guard_target =~ RepOk _); assumption)
  | with_reducible refine ⟨_, by with_unfolding_all rfl, ?_⟩
  | with_reducible refine Or.inl ⟨_, rfl, ?_⟩
  | with_reducible refine Or.inr ⟨_, rfl, ?_⟩
  | with_reducible refine ⟨(show List.length _ ≤ sizeLine from by first | decide | omega | (simp only [sl_eq, List.length_append, List.length_cons, List.length_nil, List.length_map, List.length_replicate, Int.toNat_natCast]; omega) | (simp [sl_eq]; omega)), ?_⟩
  | with_reducible refine ⟨(show List.length _ < sizeLine from by first | decide | omega | (simp only [sl_eq, List.length_append, List.length_cons, List.length_nil, List.length_map, List.length_replicate, Int.toNat_natCast]; omega) | (simp [sl_eq]; omega)), ?_⟩
  | with_reducible refine ⟨(show RgOk _ _ from by first | decide | (refine RgOk.of_le ?_ ?_ ?_ ?_ <;> omega)), ?_⟩
  | with_reducible refine and_tt (by with_unfolding_all rfl) ?_
  | with_reducible refine and_ff (by with_unfolding_all rfl) ?_
  | with_reducible refine insT (by with_unfolding_all rfl) ?_
  | with_reducible refine mtT (by with_unfolding_all rfl) ?_
  | with_reducible refine ptT (by with_unfolding_all rfl) ?_
  | with_reducible refine permT (by with_unfolding_all rfl) ?_
  | with_reducible refine lenT (by with_unfolding_all rfl) (by with_unfolding_all rfl) ?_
  | with_reducible refine celT (by with_unfolding_all rfl) (by decide) (by decide) (by with_unfolding_all rfl) (by with_unfolding_all rfl) ?_
  | with_reducible refine dctT (by with_unfolding_all rfl) (by with_unfolding_all rfl) (by assumption) (by assumption) ?_
  | with_reducible refine and_15 (by decide) ?_
  | fail)
local macro_rules | `(tactic| walk_at "wx") => `(tactic| repeat' walk_at "wx1")
local macro_rules | `(tactic| walk_at "nv") => `(tactic| first
  | rfl
  | (with_reducible refine noView_fro ?_; walk_at "nv")
  | (with_reducible refine noView_new ?_; walk_at "nv")
  | (with_reducible refine noView_nk ?_; walk_at "nv")
  | (with_reducible refine noView_nkn ?_; walk_at "nv")
  | (with_reducible refine noView_nkO ?_; walk_at "nv"))

/-! F: calls whose answer holds no list of numbers that was handed in. -/
namespace D
open PySem L2 PyProof.Rows
section
variable {F : Fn} {ga : Ak} {st : DS} {q : QE} {E : EK}
end
theorem ws_appT' {fo fe : Ev} {k : KS} {st : DS} {E : EK} (h : WE' (fo st) (fun a kd st1 => ∃ ds, a = .lst ds ∧ kd = .new ∧ WE' (fe st1) (fun _ _ st2 => ds.length < sizeLine ∧ st2.cs.all isDraw = true ∧ k.nx st2) E) E) : WS (svAppT fo fe st) k E :=
  W.bind (W.imp h fun a st1 h => by
    obtain ⟨d, kd⟩ := a
    obtain ⟨ds, rfl, rfl, h⟩ := (h : ∃ ds, d = .lst ds ∧ kd = .new ∧ _)
    exact W.bind (W.imp h fun b st2 h => by
      rw [if_pos ⟨h.1, h.2.1⟩]
      exact h.2.2))
theorem x_appT {fo fe : Ev} {k : KS} {st : DS} {E : EK} (h : XE (fo st) (fun a kd st1 => ∃ ds, a = .lst ds ∧ kd = .new ∧ XE (fe st1) (fun _ _ st2 => ds.length < sizeLine ∧ st2.cs.all isDraw = true ∧ k.nx st2) E) E) : XS (svAppT fo fe st) k E := by with_unfolding_all exact ws_appT' h
end D

/-! the law's text -/
namespace Law
open PySem L2 PyProof.Rows D
def topS (i : Nat) : Stmt := PySem.Challenge.pw_endlist_k63_bytes_as_texts.main.body.getD i (.Pass ⟨0, 0, 0, 0⟩)
/-- the own classes -/
def CL : CT := ⟨[20], [0, 1, 3, 4, 5, 6, 9, 17], fun a b => a == b || b == 0, [0, 1, 3, 4, 5, 6, 9], [(20, "name"), (20, "own_data"), (20, "time"), (20, "comment"), (20, "own_check")], [(17, "row")]⟩
abbrev s_NoText_init : Stmt := inClass (topS 9) 0
abbrev N_NoText_init : List Str := ["self", "row"]
theorem sc_NoText_init : FnScope N_NoText_init ["self", "row"] (defScope s_NoText_init) := ⟨rfl, rfl, rfl, by decide +kernel, rfl, by decide +kernel, by decide +kernel⟩
abbrev s_is_number : Stmt := topS 12
abbrev N_is_number : List Str := ["thing", "low", "high"]
theorem sc_is_number : FnScope N_is_number ["thing", "low", "high"] (defScope s_is_number) := ⟨rfl, rfl, rfl, by decide +kernel, rfl, by decide +kernel, by decide +kernel⟩
abbrev s_is_bytes : Stmt := topS 13
abbrev N_is_bytes : List Str := ["thing", "one"]
theorem sc_is_bytes : FnScope N_is_bytes ["thing"] (defScope s_is_bytes) := ⟨rfl, rfl, rfl, by decide +kernel, rfl, by decide +kernel, by decide +kernel⟩
abbrev s_need_bytes : Stmt := topS 14
abbrev N_need_bytes : List Str := ["thing"]
theorem sc_need_bytes : FnScope N_need_bytes ["thing"] (defScope s_need_bytes) := ⟨rfl, rfl, rfl, by decide +kernel, rfl, by decide +kernel, by decide +kernel⟩
abbrev s_forward : Stmt := topS 18
abbrev N_forward : List Str := ["crc", "some", "one"]
theorem sc_forward : FnScope N_forward ["crc", "some"] (defScope s_forward) := ⟨rfl, rfl, rfl, by decide +kernel, rfl, by decide +kernel, by decide +kernel⟩
abbrev s_check : Stmt := topS 19
abbrev N_check : List Str := ["data"]
theorem sc_check : FnScope N_check ["data"] (defScope s_check) := ⟨rfl, rfl, rfl, by decide +kernel, rfl, by decide +kernel, by decide +kernel⟩
abbrev s_is_printable : Stmt := topS 27
abbrev N_is_printable : List Str := ["number"]
theorem sc_is_printable : FnScope N_is_printable ["number"] (defScope s_is_printable) := ⟨rfl, rfl, rfl, by decide +kernel, rfl, by decide +kernel, by decide +kernel⟩
abbrev s_is_text : Stmt := topS 28
abbrev N_is_text : List Str := ["thing", "sign"]
theorem sc_is_text : FnScope N_is_text ["thing"] (defScope s_is_text) := ⟨rfl, rfl, rfl, by decide +kernel, rfl, by decide +kernel, by decide +kernel⟩
abbrev s_is_name : Stmt := topS 29
abbrev N_is_name : List Str := ["thing"]
theorem sc_is_name : FnScope N_is_name ["thing"] (defScope s_is_name) := ⟨rfl, rfl, rfl, by decide +kernel, rfl, by decide +kernel, by decide +kernel⟩
abbrev s_is_comment : Stmt := topS 30
abbrev N_is_comment : List Str := ["thing"]
theorem sc_is_comment : FnScope N_is_comment ["thing"] (defScope s_is_comment) := ⟨rfl, rfl, rfl, by decide +kernel, rfl, by decide +kernel, by decide +kernel⟩
abbrev s_days_in : Stmt := topS 35
abbrev N_days_in : List Str := ["year", "month", "leap"]
theorem sc_days_in : FnScope N_days_in ["year", "month"] (defScope s_days_in) := ⟨rfl, rfl, rfl, by decide +kernel, rfl, by decide +kernel, by decide +kernel⟩
abbrev s_is_time : Stmt := topS 36
abbrev N_is_time : List Str := ["thing", "year", "month", "day", "hour", "minute", "second"]
theorem sc_is_time : FnScope N_is_time ["thing"] (defScope s_is_time) := ⟨rfl, rfl, rfl, by decide +kernel, rfl, by decide +kernel, by decide +kernel⟩
abbrev s_Entry_init : Stmt := inClass (topS 40) 0
abbrev N_Entry_init : List Str := ["self", "name", "data", "time", "comment"]
theorem sc_Entry_init : FnScope N_Entry_init ["self", "name", "data", "time", "comment"] (defScope s_Entry_init) := ⟨rfl, rfl, rfl, by decide +kernel, rfl, by decide +kernel, by decide +kernel⟩
abbrev s_bytes_text : Stmt := topS 43
abbrev N_bytes_text : List Str := ["some", "one"]
theorem sc_bytes_text : FnScope N_bytes_text ["some"] (defScope s_bytes_text) := ⟨rfl, rfl, rfl, by decide +kernel, rfl, by decide +kernel, by decide +kernel⟩
abbrev s_bytes_in : Stmt := topS 44
abbrev N_bytes_in : List Str := ["text", "sign", "at"]
theorem sc_bytes_in : FnScope N_bytes_in ["text"] (defScope s_bytes_in) := ⟨rfl, rfl, rfl, by decide +kernel, rfl, by decide +kernel, by decide +kernel⟩
abbrev s_read_bytes : Stmt := topS 45
abbrev N_read_bytes : List Str := ["text", "found"]
theorem sc_read_bytes : FnScope N_read_bytes ["text"] (defScope s_read_bytes) := ⟨rfl, rfl, rfl, by decide +kernel, rfl, by decide +kernel, by decide +kernel⟩
abbrev s_l_begun : Stmt := topS 47
abbrev N_l_begun : List Str := ["_law_script", "_law_great", "_law_lump"]
theorem sc_l_begun : FnScope N_l_begun ["_law_script"] (defScope s_l_begun) := ⟨rfl, rfl, rfl, by decide +kernel, rfl, by decide +kernel, by decide +kernel⟩
abbrev s_l_next : Stmt := topS 48
abbrev N_l_next : List Str := ["_law_draw", "_law_many", "_law_found", "_law_turn", "_law_lump", "_law_mixed"]
theorem sc_l_next : FnScope N_l_next ["_law_draw", "_law_many"] (defScope s_l_next) := ⟨rfl, rfl, rfl, by decide +kernel, rfl, by decide +kernel, by decide +kernel⟩
abbrev s_l_pick : Stmt := topS 49
abbrev N_l_pick : List Str := ["_law_draw", "_law_several"]
theorem sc_l_pick : FnScope N_l_pick ["_law_draw", "_law_several"] (defScope s_l_pick) := ⟨rfl, rfl, rfl, by decide +kernel, rfl, by decide +kernel, by decide +kernel⟩
abbrev s_l_some : Stmt := topS 50
abbrev N_l_some : List Str := ["_law_draw", "_law_many", "_law_plain", "_law_signs", "_law_ways", "_law_k", "_law_way"]
theorem sc_l_some : FnScope N_l_some ["_law_draw", "_law_many", "_law_plain"] (defScope s_l_some) := ⟨rfl, rfl, rfl, by decide +kernel, rfl, by decide +kernel, by decide +kernel⟩
abbrev s_l_hex : Stmt := topS 51
abbrev N_l_hex : List Str := ["_law_several", "_law_digits", "_law_byte"]
theorem sc_l_hex : FnScope N_l_hex ["_law_several"] (defScope s_l_hex) := ⟨rfl, rfl, rfl, by decide +kernel, rfl, by decide +kernel, by decide +kernel⟩
abbrev s_l_how : Stmt := topS 52
abbrev N_l_how : List Str := ["_law_work", "_law_caught", "e", "_law_marks"]
theorem sc_l_how : FnScope N_l_how ["_law_work"] (defScope s_l_how) := ⟨rfl, rfl, rfl, by decide +kernel, rfl, by decide +kernel, by decide +kernel⟩
abbrev s_l_due : Stmt := topS 53
abbrev N_l_due : List Str := ["_law_page", "_law_digits", "_law_sign", "_law_pairs", "_law_k", "_law_pair"]
theorem sc_l_due : FnScope N_l_due ["_law_page"] (defScope s_l_due) := ⟨rfl, rfl, rfl, by decide +kernel, rfl, by decide +kernel, by decide +kernel⟩
abbrev s_l_bent : Stmt := topS 54
abbrev N_l_bent : List Str := ["_law_draw", "_law_page", "_law_way", "_law_spot", "_law_sign"]
theorem sc_l_bent : FnScope N_l_bent ["_law_draw", "_law_page"] (defScope s_l_bent) := ⟨rfl, rfl, rfl, by decide +kernel, rfl, by decide +kernel, by decide +kernel⟩
abbrev s_law : Stmt := topS 55
abbrev N_law : List Str := ["_law_script", "_law_draw", "_law_turn", "_law_several", "_law_page", "_law_bent_here", "_law_again", "_law_due_here", "_law_odd", "_law_lot", "_law_bad"]
theorem sc_law : FnScope N_law ["_law_script"] (defScope s_law) := ⟨rfl, rfl, rfl, by decide +kernel, rfl, by decide +kernel, by decide +kernel⟩
def k_EARLIEST : List DV := [.int 1980, .int 1, .int 1, .int 0, .int 0, .int 0]
def k_FIRST_TIME : List DV := [.int 1980, .int 1, .int 1, .int 0, .int 0, .int 0]
def k_MONTHS : List DV := [.int 31, .int 28, .int 31, .int 30, .int 31, .int 30, .int 31, .int 31, .int 30, .int 31, .int 30, .int 31]
def k_STEPS : List DV := [.int 0, .int 498536548, .int 997073096, .int 651767980, .int 1994146192, .int 1802195444, .int 1303535960, .int 1342533948, .int 3988292384, .int 4027552580, .int 3604390888, .int 3412177804, .int 2607071920, .int 2262029012, .int 2685067896, .int 3183342108]
/-- what the top has written -/
abbrev _root_.D.Dt.a_NoText_init (d : Dt) : Addr := d.a 0
abbrev _root_.D.Dt.fd_NoText_init (d : Dt) : FuncData := d.f 0
abbrev _root_.D.Dt.a_is_number (d : Dt) : Addr := d.a 1
abbrev _root_.D.Dt.fd_is_number (d : Dt) : FuncData := d.f 1
abbrev _root_.D.Dt.a_is_bytes (d : Dt) : Addr := d.a 2
abbrev _root_.D.Dt.fd_is_bytes (d : Dt) : FuncData := d.f 2
abbrev _root_.D.Dt.a_need_bytes (d : Dt) : Addr := d.a 3
abbrev _root_.D.Dt.fd_need_bytes (d : Dt) : FuncData := d.f 3
abbrev _root_.D.Dt.a_forward (d : Dt) : Addr := d.a 4
abbrev _root_.D.Dt.fd_forward (d : Dt) : FuncData := d.f 4
abbrev _root_.D.Dt.a_check (d : Dt) : Addr := d.a 5
abbrev _root_.D.Dt.fd_check (d : Dt) : FuncData := d.f 5
abbrev _root_.D.Dt.a_is_printable (d : Dt) : Addr := d.a 6
abbrev _root_.D.Dt.fd_is_printable (d : Dt) : FuncData := d.f 6
abbrev _root_.D.Dt.a_is_text (d : Dt) : Addr := d.a 7
abbrev _root_.D.Dt.fd_is_text (d : Dt) : FuncData := d.f 7
abbrev _root_.D.Dt.a_is_name (d : Dt) : Addr := d.a 8
abbrev _root_.D.Dt.fd_is_name (d : Dt) : FuncData := d.f 8
abbrev _root_.D.Dt.a_is_comment (d : Dt) : Addr := d.a 9
abbrev _root_.D.Dt.fd_is_comment (d : Dt) : FuncData := d.f 9
abbrev _root_.D.Dt.a_days_in (d : Dt) : Addr := d.a 10
abbrev _root_.D.Dt.fd_days_in (d : Dt) : FuncData := d.f 10
abbrev _root_.D.Dt.a_is_time (d : Dt) : Addr := d.a 11
abbrev _root_.D.Dt.fd_is_time (d : Dt) : FuncData := d.f 11
abbrev _root_.D.Dt.a_Entry_init (d : Dt) : Addr := d.a 12
abbrev _root_.D.Dt.fd_Entry_init (d : Dt) : FuncData := d.f 12
abbrev _root_.D.Dt.a_bytes_text (d : Dt) : Addr := d.a 13
abbrev _root_.D.Dt.fd_bytes_text (d : Dt) : FuncData := d.f 13
abbrev _root_.D.Dt.a_bytes_in (d : Dt) : Addr := d.a 14
abbrev _root_.D.Dt.fd_bytes_in (d : Dt) : FuncData := d.f 14
abbrev _root_.D.Dt.a_read_bytes (d : Dt) : Addr := d.a 15
abbrev _root_.D.Dt.fd_read_bytes (d : Dt) : FuncData := d.f 15
abbrev _root_.D.Dt.a_l_begun (d : Dt) : Addr := d.a 16
abbrev _root_.D.Dt.fd_l_begun (d : Dt) : FuncData := d.f 16
abbrev _root_.D.Dt.a_l_next (d : Dt) : Addr := d.a 17
abbrev _root_.D.Dt.fd_l_next (d : Dt) : FuncData := d.f 17
abbrev _root_.D.Dt.a_l_pick (d : Dt) : Addr := d.a 18
abbrev _root_.D.Dt.fd_l_pick (d : Dt) : FuncData := d.f 18
abbrev _root_.D.Dt.a_l_some (d : Dt) : Addr := d.a 19
abbrev _root_.D.Dt.fd_l_some (d : Dt) : FuncData := d.f 19
abbrev _root_.D.Dt.a_l_hex (d : Dt) : Addr := d.a 20
abbrev _root_.D.Dt.fd_l_hex (d : Dt) : FuncData := d.f 20
abbrev _root_.D.Dt.a_l_how (d : Dt) : Addr := d.a 21
abbrev _root_.D.Dt.fd_l_how (d : Dt) : FuncData := d.f 21
abbrev _root_.D.Dt.a_l_due (d : Dt) : Addr := d.a 22
abbrev _root_.D.Dt.fd_l_due (d : Dt) : FuncData := d.f 22
abbrev _root_.D.Dt.a_l_bent (d : Dt) : Addr := d.a 23
abbrev _root_.D.Dt.fd_l_bent (d : Dt) : FuncData := d.f 23
abbrev _root_.D.Dt.a_law (d : Dt) : Addr := d.a 24
abbrev _root_.D.Dt.fd_law (d : Dt) : FuncData := d.f 24
abbrev _root_.D.Dt.co_law (d : Dt) : Addr := d.a 25
abbrev _root_.D.Dt.ta_law (d : Dt) : Addr := d.a 26
structure G0 (K : PySem.W.Frag) (mg : Str → Option Value) (base : Heap) (d : Dt) : Prop where
  kc : KitC ⟨K, d.cls, d.T⟩ CL
  m_ArchiveError : mg "ArchiveError" = some (.ref (d.cls 0))
  m_NoBytes : mg "NoBytes" = some (.ref (d.cls 1))
  m_NoTime : mg "NoTime" = some (.ref (d.cls 3))
  m_NoName : mg "NoName" = some (.ref (d.cls 4))
  m_NoComment : mg "NoComment" = some (.ref (d.cls 5))
  m_NoData : mg "NoData" = some (.ref (d.cls 6))
  m_NoFile : mg "NoFile" = some (.ref (d.cls 9))
  m_NoText : mg "NoText" = some (.ref (d.cls 17))
  m_Entry : mg "Entry" = some (.ref (d.cls 20))
  c_EARLIEST : ∃ a, mg "EARLIEST" = some (.ref a) ∧ tupIn K a = some k_EARLIEST
  c_FIRST_SIGN : ∃ t, mg "FIRST_SIGN" = some (.int 32 t)
  c_FIRST_TIME : ∃ a, mg "FIRST_TIME" = some (.ref a) ∧ tupIn K a = some k_FIRST_TIME
  c_GREATEST_BYTE : ∃ t, mg "GREATEST_BYTE" = some (.int 255 t)
  c_GREATEST_CHECK : ∃ t, mg "GREATEST_CHECK" = some (.int 4294967295 t)
  c_HEX : ∃ t, mg "HEX" = some (.str "0123456789abcdef" t)
  c_LAST_SIGN : ∃ t, mg "LAST_SIGN" = some (.int 126 t)
  c_LATEST_YEAR : ∃ t, mg "LATEST_YEAR" = some (.int 2107 t)
  c_LONGEST_COMMENT : ∃ t, mg "LONGEST_COMMENT" = some (.int 40 t)
  c_LONGEST_NAME : ∃ t, mg "LONGEST_NAME" = some (.int 24 t)
  c_MONTHS : ∃ a, mg "MONTHS" = some (.ref a) ∧ tupIn K a = some k_MONTHS
  c_MOST_DATA : ∃ t, mg "MOST_DATA" = some (.int 1500 t)
  c_PERCENT : ∃ t, mg "PERCENT" = some (.int 37 t)
  c_STEPS : ∃ a, mg "STEPS" = some (.ref a) ∧ tupIn K a = some k_STEPS
  z_ValueError : mg "ValueError" = none
  z_abs : mg "abs" = none
  z_all : mg "all" = none
  z_bool : mg "bool" = none
  z_int : mg "int" = none
  z_isinstance : mg "isinstance" = none
structure G1 (K : PySem.W.Frag) (mg : Str → Option Value) (base : Heap) (d : Dt) : Prop where
  z_len : mg "len" = none
  z_list : mg "list" = none
  z_max : mg "max" = none
  z_min : mg "min" = none
  z_ord : mg "ord" = none
  z_range : mg "range" = none
  z_repr : mg "repr" = none
  z_str : mg "str" = none
  z_tuple : mg "tuple" = none
  F_NoText_init : Fun K "__init__" "NoText.__init__" s_NoText_init d.a_NoText_init d.fd_NoText_init
  b_NoText_init : Binds K d.fd_NoText_init ["self", "row"] []
  F_is_number : Fun K "is_number" "is_number" s_is_number d.a_is_number d.fd_is_number
  b_is_number : Binds K d.fd_is_number ["thing", "low", "high"] []
  m_is_number : mg "is_number" = some (.ref d.a_is_number)
  F_is_bytes : Fun K "is_bytes" "is_bytes" s_is_bytes d.a_is_bytes d.fd_is_bytes
  b_is_bytes : Binds K d.fd_is_bytes ["thing"] []
  m_is_bytes : mg "is_bytes" = some (.ref d.a_is_bytes)
  F_need_bytes : Fun K "need_bytes" "need_bytes" s_need_bytes d.a_need_bytes d.fd_need_bytes
  b_need_bytes : Binds K d.fd_need_bytes ["thing"] []
  m_need_bytes : mg "need_bytes" = some (.ref d.a_need_bytes)
  F_forward : Fun K "forward" "forward" s_forward d.a_forward d.fd_forward
  b_forward : Binds K d.fd_forward ["crc", "some"] []
  m_forward : mg "forward" = some (.ref d.a_forward)
  F_check : Fun K "check" "check" s_check d.a_check d.fd_check
  b_check : Binds K d.fd_check ["data"] []
  m_check : mg "check" = some (.ref d.a_check)
  F_is_printable : Fun K "is_printable" "is_printable" s_is_printable d.a_is_printable d.fd_is_printable
  b_is_printable : Binds K d.fd_is_printable ["number"] []
  m_is_printable : mg "is_printable" = some (.ref d.a_is_printable)
  F_is_text : Fun K "is_text" "is_text" s_is_text d.a_is_text d.fd_is_text
structure G2 (K : PySem.W.Frag) (mg : Str → Option Value) (base : Heap) (d : Dt) : Prop where
  b_is_text : Binds K d.fd_is_text ["thing"] []
  m_is_text : mg "is_text" = some (.ref d.a_is_text)
  F_is_name : Fun K "is_name" "is_name" s_is_name d.a_is_name d.fd_is_name
  b_is_name : Binds K d.fd_is_name ["thing"] []
  m_is_name : mg "is_name" = some (.ref d.a_is_name)
  F_is_comment : Fun K "is_comment" "is_comment" s_is_comment d.a_is_comment d.fd_is_comment
  b_is_comment : Binds K d.fd_is_comment ["thing"] []
  m_is_comment : mg "is_comment" = some (.ref d.a_is_comment)
  F_days_in : Fun K "days_in" "days_in" s_days_in d.a_days_in d.fd_days_in
  b_days_in : Binds K d.fd_days_in ["year", "month"] []
  m_days_in : mg "days_in" = some (.ref d.a_days_in)
  F_is_time : Fun K "is_time" "is_time" s_is_time d.a_is_time d.fd_is_time
  b_is_time : Binds K d.fd_is_time ["thing"] []
  m_is_time : mg "is_time" = some (.ref d.a_is_time)
  F_Entry_init : FunY K "__init__" "Entry.__init__" s_Entry_init d.a_Entry_init d.fd_Entry_init
  F_bytes_text : Fun K "bytes_text" "bytes_text" s_bytes_text d.a_bytes_text d.fd_bytes_text
  b_bytes_text : Binds K d.fd_bytes_text ["some"] []
  m_bytes_text : mg "bytes_text" = some (.ref d.a_bytes_text)
  F_bytes_in : Fun K "bytes_in" "bytes_in" s_bytes_in d.a_bytes_in d.fd_bytes_in
  b_bytes_in : Binds K d.fd_bytes_in ["text"] []
  m_bytes_in : mg "bytes_in" = some (.ref d.a_bytes_in)
  F_read_bytes : Fun K "read_bytes" "read_bytes" s_read_bytes d.a_read_bytes d.fd_read_bytes
  b_read_bytes : Binds K d.fd_read_bytes ["text"] []
  m_read_bytes : mg "read_bytes" = some (.ref d.a_read_bytes)
  F_l_begun : Fun K "_law_begun" "_law_begun" s_l_begun d.a_l_begun d.fd_l_begun
  b_l_begun : Binds K d.fd_l_begun ["_law_script"] []
  m_l_begun : mg "_law_begun" = some (.ref d.a_l_begun)
  F_l_next : Fun K "_law_next" "_law_next" s_l_next d.a_l_next d.fd_l_next
  b_l_next : Binds K d.fd_l_next ["_law_draw", "_law_many"] []
  m_l_next : mg "_law_next" = some (.ref d.a_l_next)
structure G3 (K : PySem.W.Frag) (mg : Str → Option Value) (base : Heap) (d : Dt) : Prop where
  F_l_pick : Fun K "_law_pick" "_law_pick" s_l_pick d.a_l_pick d.fd_l_pick
  b_l_pick : Binds K d.fd_l_pick ["_law_draw", "_law_several"] []
  m_l_pick : mg "_law_pick" = some (.ref d.a_l_pick)
  F_l_some : Fun K "_law_some" "_law_some" s_l_some d.a_l_some d.fd_l_some
  b_l_some : Binds K d.fd_l_some ["_law_draw", "_law_many", "_law_plain"] []
  m_l_some : mg "_law_some" = some (.ref d.a_l_some)
  F_l_hex : Fun K "_law_hex" "_law_hex" s_l_hex d.a_l_hex d.fd_l_hex
  b_l_hex : Binds K d.fd_l_hex ["_law_several"] []
  m_l_hex : mg "_law_hex" = some (.ref d.a_l_hex)
  F_l_how : Fun K "_law_how" "_law_how" s_l_how d.a_l_how d.fd_l_how
  b_l_how : Binds K d.fd_l_how ["_law_work"] []
  m_l_how : mg "_law_how" = some (.ref d.a_l_how)
  F_l_due : Fun K "_law_due" "_law_due" s_l_due d.a_l_due d.fd_l_due
  b_l_due : Binds K d.fd_l_due ["_law_page"] []
  m_l_due : mg "_law_due" = some (.ref d.a_l_due)
  F_l_bent : Fun K "_law_bent" "_law_bent" s_l_bent d.a_l_bent d.fd_l_bent
  b_l_bent : Binds K d.fd_l_bent ["_law_draw", "_law_page"] []
  m_l_bent : mg "_law_bent" = some (.ref d.a_l_bent)
  F_law : Fun K "law" "law" s_law d.a_law d.fd_law
  b_law : Binds K d.fd_law ["_law_script"] []
  m_law : mg "law" = some (.ref d.a_law)
  m_check_checks : mg "check_checks" = some (.ref d.a_check)
  bn_Entry_init_1 : BnD ⟨K, d.cls, d.T⟩ K d.fd_Entry_init ["self", "name", "data", "time", "comment"] 3 [] (0 :: List.map (· + 1) [0, 1, 2, 3]) [.tup k_FIRST_TIME, .str ""]
  cl_Entry : Cls K (d.cls 20)
  mk_Entry : Mk K (d.cls 20) d.a_Entry_init
  ox_NoText : OexC K (d.cls 17)
  ax_NoText : PySem.W.findIn K (.ref (d.cls 17)) "__init__" = some (some (.ref d.a_NoText_init))
  tx_NoText : PySem.W.typeIn K (.ref d.a_NoText_init) = some (.type "function")
  rd_AE : ClX.CRead K (d.cls 0) (.type "type")
  vv_AE : PySem.W.findCls K (.ref (d.cls 0)) (.type "type") "__init__" = some (.val (.builtin "ValueError.__init__"))
structure G4 (K : PySem.W.Frag) (mg : Str → Option Value) (base : Heap) (d : Dt) : Prop where
  kb_bytes_text_0 : KwB K d.fd_bytes_text ["some"] ["some"] [0]
  kb_read_bytes_0 : KwB K d.fd_read_bytes ["text"] ["text"] [0]
  tb_law : LamX.TabB base mg d.co_law d.ta_law
  cd_law : d.fd_law.code = .ref d.co_law
  tm_law : (d.ta_law, ("law.<locals>.<lambda>" : Str)) ∈ d.T
  tu_law : ∀ p ∈ d.T, p.1 = d.ta_law → p.2 = ("law.<locals>.<lambda>" : Str)
structure Gl (K : PySem.W.Frag) (mg : Str → Option Value) (base : Heap) where
  d : Dt
  q0 : G0 K mg base d
  q1 : G1 K mg base d
  q2 : G2 K mg base d
  q3 : G3 K mg base d
  q4 : G4 K mg base d
section
variable {K : PySem.W.Frag} {mg : Str → Option Value} {base : Heap}
abbrev Gl.cls (g : Gl K mg base) : Nat → Addr := g.d.cls
abbrev Gl.T (g : Gl K mg base) : List (Addr × Str) := g.d.T
abbrev Gl.a_NoText_init (g : Gl K mg base) : Addr := g.d.a_NoText_init
abbrev Gl.fd_NoText_init (g : Gl K mg base) : FuncData := g.d.fd_NoText_init
abbrev Gl.a_is_number (g : Gl K mg base) : Addr := g.d.a_is_number
abbrev Gl.fd_is_number (g : Gl K mg base) : FuncData := g.d.fd_is_number
abbrev Gl.a_is_bytes (g : Gl K mg base) : Addr := g.d.a_is_bytes
abbrev Gl.fd_is_bytes (g : Gl K mg base) : FuncData := g.d.fd_is_bytes
abbrev Gl.a_need_bytes (g : Gl K mg base) : Addr := g.d.a_need_bytes
abbrev Gl.fd_need_bytes (g : Gl K mg base) : FuncData := g.d.fd_need_bytes
abbrev Gl.a_forward (g : Gl K mg base) : Addr := g.d.a_forward
abbrev Gl.fd_forward (g : Gl K mg base) : FuncData := g.d.fd_forward
abbrev Gl.a_check (g : Gl K mg base) : Addr := g.d.a_check
abbrev Gl.fd_check (g : Gl K mg base) : FuncData := g.d.fd_check
abbrev Gl.a_is_printable (g : Gl K mg base) : Addr := g.d.a_is_printable
abbrev Gl.fd_is_printable (g : Gl K mg base) : FuncData := g.d.fd_is_printable
abbrev Gl.a_is_text (g : Gl K mg base) : Addr := g.d.a_is_text
abbrev Gl.fd_is_text (g : Gl K mg base) : FuncData := g.d.fd_is_text
abbrev Gl.a_is_name (g : Gl K mg base) : Addr := g.d.a_is_name
abbrev Gl.fd_is_name (g : Gl K mg base) : FuncData := g.d.fd_is_name
abbrev Gl.a_is_comment (g : Gl K mg base) : Addr := g.d.a_is_comment
abbrev Gl.fd_is_comment (g : Gl K mg base) : FuncData := g.d.fd_is_comment
abbrev Gl.a_days_in (g : Gl K mg base) : Addr := g.d.a_days_in
abbrev Gl.fd_days_in (g : Gl K mg base) : FuncData := g.d.fd_days_in
abbrev Gl.a_is_time (g : Gl K mg base) : Addr := g.d.a_is_time
abbrev Gl.fd_is_time (g : Gl K mg base) : FuncData := g.d.fd_is_time
abbrev Gl.a_Entry_init (g : Gl K mg base) : Addr := g.d.a_Entry_init
abbrev Gl.fd_Entry_init (g : Gl K mg base) : FuncData := g.d.fd_Entry_init
abbrev Gl.a_bytes_text (g : Gl K mg base) : Addr := g.d.a_bytes_text
abbrev Gl.fd_bytes_text (g : Gl K mg base) : FuncData := g.d.fd_bytes_text
abbrev Gl.a_bytes_in (g : Gl K mg base) : Addr := g.d.a_bytes_in
abbrev Gl.fd_bytes_in (g : Gl K mg base) : FuncData := g.d.fd_bytes_in
abbrev Gl.a_read_bytes (g : Gl K mg base) : Addr := g.d.a_read_bytes
abbrev Gl.fd_read_bytes (g : Gl K mg base) : FuncData := g.d.fd_read_bytes
abbrev Gl.a_l_begun (g : Gl K mg base) : Addr := g.d.a_l_begun
abbrev Gl.fd_l_begun (g : Gl K mg base) : FuncData := g.d.fd_l_begun
abbrev Gl.a_l_next (g : Gl K mg base) : Addr := g.d.a_l_next
abbrev Gl.fd_l_next (g : Gl K mg base) : FuncData := g.d.fd_l_next
abbrev Gl.a_l_pick (g : Gl K mg base) : Addr := g.d.a_l_pick
abbrev Gl.fd_l_pick (g : Gl K mg base) : FuncData := g.d.fd_l_pick
abbrev Gl.a_l_some (g : Gl K mg base) : Addr := g.d.a_l_some
abbrev Gl.fd_l_some (g : Gl K mg base) : FuncData := g.d.fd_l_some
abbrev Gl.a_l_hex (g : Gl K mg base) : Addr := g.d.a_l_hex
abbrev Gl.fd_l_hex (g : Gl K mg base) : FuncData := g.d.fd_l_hex
abbrev Gl.a_l_how (g : Gl K mg base) : Addr := g.d.a_l_how
abbrev Gl.fd_l_how (g : Gl K mg base) : FuncData := g.d.fd_l_how
abbrev Gl.a_l_due (g : Gl K mg base) : Addr := g.d.a_l_due
abbrev Gl.fd_l_due (g : Gl K mg base) : FuncData := g.d.fd_l_due
abbrev Gl.a_l_bent (g : Gl K mg base) : Addr := g.d.a_l_bent
abbrev Gl.fd_l_bent (g : Gl K mg base) : FuncData := g.d.fd_l_bent
abbrev Gl.a_law (g : Gl K mg base) : Addr := g.d.a_law
abbrev Gl.fd_law (g : Gl K mg base) : FuncData := g.d.fd_law
abbrev Gl.co_law (g : Gl K mg base) : Addr := g.d.co_law
abbrev Gl.ta_law (g : Gl K mg base) : Addr := g.d.ta_law
theorem Gl.kc (g : Gl K mg base) : KitC ⟨K, g.cls, g.T⟩ CL := g.q0.kc
theorem Gl.m_ArchiveError (g : Gl K mg base) : mg "ArchiveError" = some (.ref (g.cls 0)) := g.q0.m_ArchiveError
theorem Gl.m_NoBytes (g : Gl K mg base) : mg "NoBytes" = some (.ref (g.cls 1)) := g.q0.m_NoBytes
theorem Gl.m_NoTime (g : Gl K mg base) : mg "NoTime" = some (.ref (g.cls 3)) := g.q0.m_NoTime
theorem Gl.m_NoName (g : Gl K mg base) : mg "NoName" = some (.ref (g.cls 4)) := g.q0.m_NoName
theorem Gl.m_NoComment (g : Gl K mg base) : mg "NoComment" = some (.ref (g.cls 5)) := g.q0.m_NoComment
theorem Gl.m_NoData (g : Gl K mg base) : mg "NoData" = some (.ref (g.cls 6)) := g.q0.m_NoData
theorem Gl.m_NoFile (g : Gl K mg base) : mg "NoFile" = some (.ref (g.cls 9)) := g.q0.m_NoFile
theorem Gl.m_NoText (g : Gl K mg base) : mg "NoText" = some (.ref (g.cls 17)) := g.q0.m_NoText
theorem Gl.m_Entry (g : Gl K mg base) : mg "Entry" = some (.ref (g.cls 20)) := g.q0.m_Entry
theorem Gl.c_EARLIEST (g : Gl K mg base) : ∃ a, mg "EARLIEST" = some (.ref a) ∧ tupIn K a = some k_EARLIEST := g.q0.c_EARLIEST
theorem Gl.c_FIRST_SIGN (g : Gl K mg base) : ∃ t, mg "FIRST_SIGN" = some (.int 32 t) := g.q0.c_FIRST_SIGN
theorem Gl.c_FIRST_TIME (g : Gl K mg base) : ∃ a, mg "FIRST_TIME" = some (.ref a) ∧ tupIn K a = some k_FIRST_TIME := g.q0.c_FIRST_TIME
theorem Gl.c_GREATEST_BYTE (g : Gl K mg base) : ∃ t, mg "GREATEST_BYTE" = some (.int 255 t) := g.q0.c_GREATEST_BYTE
theorem Gl.c_GREATEST_CHECK (g : Gl K mg base) : ∃ t, mg "GREATEST_CHECK" = some (.int 4294967295 t) := g.q0.c_GREATEST_CHECK
theorem Gl.c_HEX (g : Gl K mg base) : ∃ t, mg "HEX" = some (.str "0123456789abcdef" t) := g.q0.c_HEX
theorem Gl.c_LAST_SIGN (g : Gl K mg base) : ∃ t, mg "LAST_SIGN" = some (.int 126 t) := g.q0.c_LAST_SIGN
theorem Gl.c_LATEST_YEAR (g : Gl K mg base) : ∃ t, mg "LATEST_YEAR" = some (.int 2107 t) := g.q0.c_LATEST_YEAR
theorem Gl.c_LONGEST_COMMENT (g : Gl K mg base) : ∃ t, mg "LONGEST_COMMENT" = some (.int 40 t) := g.q0.c_LONGEST_COMMENT
theorem Gl.c_LONGEST_NAME (g : Gl K mg base) : ∃ t, mg "LONGEST_NAME" = some (.int 24 t) := g.q0.c_LONGEST_NAME
theorem Gl.c_MONTHS (g : Gl K mg base) : ∃ a, mg "MONTHS" = some (.ref a) ∧ tupIn K a = some k_MONTHS := g.q0.c_MONTHS
theorem Gl.c_MOST_DATA (g : Gl K mg base) : ∃ t, mg "MOST_DATA" = some (.int 1500 t) := g.q0.c_MOST_DATA
theorem Gl.c_PERCENT (g : Gl K mg base) : ∃ t, mg "PERCENT" = some (.int 37 t) := g.q0.c_PERCENT
theorem Gl.c_STEPS (g : Gl K mg base) : ∃ a, mg "STEPS" = some (.ref a) ∧ tupIn K a = some k_STEPS := g.q0.c_STEPS
theorem Gl.z_ValueError (g : Gl K mg base) : mg "ValueError" = none := g.q0.z_ValueError
theorem Gl.z_abs (g : Gl K mg base) : mg "abs" = none := g.q0.z_abs
theorem Gl.z_all (g : Gl K mg base) : mg "all" = none := g.q0.z_all
theorem Gl.z_bool (g : Gl K mg base) : mg "bool" = none := g.q0.z_bool
theorem Gl.z_int (g : Gl K mg base) : mg "int" = none := g.q0.z_int
theorem Gl.z_isinstance (g : Gl K mg base) : mg "isinstance" = none := g.q0.z_isinstance
theorem Gl.z_len (g : Gl K mg base) : mg "len" = none := g.q1.z_len
theorem Gl.z_list (g : Gl K mg base) : mg "list" = none := g.q1.z_list
theorem Gl.z_max (g : Gl K mg base) : mg "max" = none := g.q1.z_max
theorem Gl.z_min (g : Gl K mg base) : mg "min" = none := g.q1.z_min
theorem Gl.z_ord (g : Gl K mg base) : mg "ord" = none := g.q1.z_ord
theorem Gl.z_range (g : Gl K mg base) : mg "range" = none := g.q1.z_range
theorem Gl.z_repr (g : Gl K mg base) : mg "repr" = none := g.q1.z_repr
theorem Gl.z_str (g : Gl K mg base) : mg "str" = none := g.q1.z_str
theorem Gl.z_tuple (g : Gl K mg base) : mg "tuple" = none := g.q1.z_tuple
theorem Gl.F_NoText_init (g : Gl K mg base) : Fun K "__init__" "NoText.__init__" s_NoText_init g.a_NoText_init g.fd_NoText_init := g.q1.F_NoText_init
theorem Gl.b_NoText_init (g : Gl K mg base) : Binds K g.fd_NoText_init ["self", "row"] [] := g.q1.b_NoText_init
theorem Gl.F_is_number (g : Gl K mg base) : Fun K "is_number" "is_number" s_is_number g.a_is_number g.fd_is_number := g.q1.F_is_number
theorem Gl.b_is_number (g : Gl K mg base) : Binds K g.fd_is_number ["thing", "low", "high"] [] := g.q1.b_is_number
theorem Gl.m_is_number (g : Gl K mg base) : mg "is_number" = some (.ref g.a_is_number) := g.q1.m_is_number
theorem Gl.F_is_bytes (g : Gl K mg base) : Fun K "is_bytes" "is_bytes" s_is_bytes g.a_is_bytes g.fd_is_bytes := g.q1.F_is_bytes
theorem Gl.b_is_bytes (g : Gl K mg base) : Binds K g.fd_is_bytes ["thing"] [] := g.q1.b_is_bytes
theorem Gl.m_is_bytes (g : Gl K mg base) : mg "is_bytes" = some (.ref g.a_is_bytes) := g.q1.m_is_bytes
theorem Gl.F_need_bytes (g : Gl K mg base) : Fun K "need_bytes" "need_bytes" s_need_bytes g.a_need_bytes g.fd_need_bytes := g.q1.F_need_bytes
theorem Gl.b_need_bytes (g : Gl K mg base) : Binds K g.fd_need_bytes ["thing"] [] := g.q1.b_need_bytes
theorem Gl.m_need_bytes (g : Gl K mg base) : mg "need_bytes" = some (.ref g.a_need_bytes) := g.q1.m_need_bytes
theorem Gl.F_forward (g : Gl K mg base) : Fun K "forward" "forward" s_forward g.a_forward g.fd_forward := g.q1.F_forward
theorem Gl.b_forward (g : Gl K mg base) : Binds K g.fd_forward ["crc", "some"] [] := g.q1.b_forward
theorem Gl.m_forward (g : Gl K mg base) : mg "forward" = some (.ref g.a_forward) := g.q1.m_forward
theorem Gl.F_check (g : Gl K mg base) : Fun K "check" "check" s_check g.a_check g.fd_check := g.q1.F_check
theorem Gl.b_check (g : Gl K mg base) : Binds K g.fd_check ["data"] [] := g.q1.b_check
theorem Gl.m_check (g : Gl K mg base) : mg "check" = some (.ref g.a_check) := g.q1.m_check
theorem Gl.F_is_printable (g : Gl K mg base) : Fun K "is_printable" "is_printable" s_is_printable g.a_is_printable g.fd_is_printable := g.q1.F_is_printable
theorem Gl.b_is_printable (g : Gl K mg base) : Binds K g.fd_is_printable ["number"] [] := g.q1.b_is_printable
theorem Gl.m_is_printable (g : Gl K mg base) : mg "is_printable" = some (.ref g.a_is_printable) := g.q1.m_is_printable
theorem Gl.F_is_text (g : Gl K mg base) : Fun K "is_text" "is_text" s_is_text g.a_is_text g.fd_is_text := g.q1.F_is_text
theorem Gl.b_is_text (g : Gl K mg base) : Binds K g.fd_is_text ["thing"] [] := g.q2.b_is_text
theorem Gl.m_is_text (g : Gl K mg base) : mg "is_text" = some (.ref g.a_is_text) := g.q2.m_is_text
theorem Gl.F_is_name (g : Gl K mg base) : Fun K "is_name" "is_name" s_is_name g.a_is_name g.fd_is_name := g.q2.F_is_name
theorem Gl.b_is_name (g : Gl K mg base) : Binds K g.fd_is_name ["thing"] [] := g.q2.b_is_name
theorem Gl.m_is_name (g : Gl K mg base) : mg "is_name" = some (.ref g.a_is_name) := g.q2.m_is_name
theorem Gl.F_is_comment (g : Gl K mg base) : Fun K "is_comment" "is_comment" s_is_comment g.a_is_comment g.fd_is_comment := g.q2.F_is_comment
theorem Gl.b_is_comment (g : Gl K mg base) : Binds K g.fd_is_comment ["thing"] [] := g.q2.b_is_comment
theorem Gl.m_is_comment (g : Gl K mg base) : mg "is_comment" = some (.ref g.a_is_comment) := g.q2.m_is_comment
theorem Gl.F_days_in (g : Gl K mg base) : Fun K "days_in" "days_in" s_days_in g.a_days_in g.fd_days_in := g.q2.F_days_in
theorem Gl.b_days_in (g : Gl K mg base) : Binds K g.fd_days_in ["year", "month"] [] := g.q2.b_days_in
theorem Gl.m_days_in (g : Gl K mg base) : mg "days_in" = some (.ref g.a_days_in) := g.q2.m_days_in
theorem Gl.F_is_time (g : Gl K mg base) : Fun K "is_time" "is_time" s_is_time g.a_is_time g.fd_is_time := g.q2.F_is_time
theorem Gl.b_is_time (g : Gl K mg base) : Binds K g.fd_is_time ["thing"] [] := g.q2.b_is_time
theorem Gl.m_is_time (g : Gl K mg base) : mg "is_time" = some (.ref g.a_is_time) := g.q2.m_is_time
theorem Gl.F_Entry_init (g : Gl K mg base) : FunY K "__init__" "Entry.__init__" s_Entry_init g.a_Entry_init g.fd_Entry_init := g.q2.F_Entry_init
theorem Gl.F_bytes_text (g : Gl K mg base) : Fun K "bytes_text" "bytes_text" s_bytes_text g.a_bytes_text g.fd_bytes_text := g.q2.F_bytes_text
theorem Gl.b_bytes_text (g : Gl K mg base) : Binds K g.fd_bytes_text ["some"] [] := g.q2.b_bytes_text
theorem Gl.m_bytes_text (g : Gl K mg base) : mg "bytes_text" = some (.ref g.a_bytes_text) := g.q2.m_bytes_text
theorem Gl.F_bytes_in (g : Gl K mg base) : Fun K "bytes_in" "bytes_in" s_bytes_in g.a_bytes_in g.fd_bytes_in := g.q2.F_bytes_in
theorem Gl.b_bytes_in (g : Gl K mg base) : Binds K g.fd_bytes_in ["text"] [] := g.q2.b_bytes_in
theorem Gl.m_bytes_in (g : Gl K mg base) : mg "bytes_in" = some (.ref g.a_bytes_in) := g.q2.m_bytes_in
theorem Gl.F_read_bytes (g : Gl K mg base) : Fun K "read_bytes" "read_bytes" s_read_bytes g.a_read_bytes g.fd_read_bytes := g.q2.F_read_bytes
theorem Gl.b_read_bytes (g : Gl K mg base) : Binds K g.fd_read_bytes ["text"] [] := g.q2.b_read_bytes
theorem Gl.m_read_bytes (g : Gl K mg base) : mg "read_bytes" = some (.ref g.a_read_bytes) := g.q2.m_read_bytes
theorem Gl.F_l_begun (g : Gl K mg base) : Fun K "_law_begun" "_law_begun" s_l_begun g.a_l_begun g.fd_l_begun := g.q2.F_l_begun
theorem Gl.b_l_begun (g : Gl K mg base) : Binds K g.fd_l_begun ["_law_script"] [] := g.q2.b_l_begun
theorem Gl.m_l_begun (g : Gl K mg base) : mg "_law_begun" = some (.ref g.a_l_begun) := g.q2.m_l_begun
theorem Gl.F_l_next (g : Gl K mg base) : Fun K "_law_next" "_law_next" s_l_next g.a_l_next g.fd_l_next := g.q2.F_l_next
theorem Gl.b_l_next (g : Gl K mg base) : Binds K g.fd_l_next ["_law_draw", "_law_many"] [] := g.q2.b_l_next
theorem Gl.m_l_next (g : Gl K mg base) : mg "_law_next" = some (.ref g.a_l_next) := g.q2.m_l_next
theorem Gl.F_l_pick (g : Gl K mg base) : Fun K "_law_pick" "_law_pick" s_l_pick g.a_l_pick g.fd_l_pick := g.q3.F_l_pick
theorem Gl.b_l_pick (g : Gl K mg base) : Binds K g.fd_l_pick ["_law_draw", "_law_several"] [] := g.q3.b_l_pick
theorem Gl.m_l_pick (g : Gl K mg base) : mg "_law_pick" = some (.ref g.a_l_pick) := g.q3.m_l_pick
theorem Gl.F_l_some (g : Gl K mg base) : Fun K "_law_some" "_law_some" s_l_some g.a_l_some g.fd_l_some := g.q3.F_l_some
theorem Gl.b_l_some (g : Gl K mg base) : Binds K g.fd_l_some ["_law_draw", "_law_many", "_law_plain"] [] := g.q3.b_l_some
theorem Gl.m_l_some (g : Gl K mg base) : mg "_law_some" = some (.ref g.a_l_some) := g.q3.m_l_some
theorem Gl.F_l_hex (g : Gl K mg base) : Fun K "_law_hex" "_law_hex" s_l_hex g.a_l_hex g.fd_l_hex := g.q3.F_l_hex
theorem Gl.b_l_hex (g : Gl K mg base) : Binds K g.fd_l_hex ["_law_several"] [] := g.q3.b_l_hex
theorem Gl.m_l_hex (g : Gl K mg base) : mg "_law_hex" = some (.ref g.a_l_hex) := g.q3.m_l_hex
theorem Gl.F_l_how (g : Gl K mg base) : Fun K "_law_how" "_law_how" s_l_how g.a_l_how g.fd_l_how := g.q3.F_l_how
theorem Gl.b_l_how (g : Gl K mg base) : Binds K g.fd_l_how ["_law_work"] [] := g.q3.b_l_how
theorem Gl.m_l_how (g : Gl K mg base) : mg "_law_how" = some (.ref g.a_l_how) := g.q3.m_l_how
theorem Gl.F_l_due (g : Gl K mg base) : Fun K "_law_due" "_law_due" s_l_due g.a_l_due g.fd_l_due := g.q3.F_l_due
theorem Gl.b_l_due (g : Gl K mg base) : Binds K g.fd_l_due ["_law_page"] [] := g.q3.b_l_due
theorem Gl.m_l_due (g : Gl K mg base) : mg "_law_due" = some (.ref g.a_l_due) := g.q3.m_l_due
theorem Gl.F_l_bent (g : Gl K mg base) : Fun K "_law_bent" "_law_bent" s_l_bent g.a_l_bent g.fd_l_bent := g.q3.F_l_bent
theorem Gl.b_l_bent (g : Gl K mg base) : Binds K g.fd_l_bent ["_law_draw", "_law_page"] [] := g.q3.b_l_bent
theorem Gl.m_l_bent (g : Gl K mg base) : mg "_law_bent" = some (.ref g.a_l_bent) := g.q3.m_l_bent
theorem Gl.F_law (g : Gl K mg base) : Fun K "law" "law" s_law g.a_law g.fd_law := g.q3.F_law
theorem Gl.b_law (g : Gl K mg base) : Binds K g.fd_law ["_law_script"] [] := g.q3.b_law
theorem Gl.m_law (g : Gl K mg base) : mg "law" = some (.ref g.a_law) := g.q3.m_law
theorem Gl.m_check_checks (g : Gl K mg base) : mg "check_checks" = some (.ref g.a_check) := g.q3.m_check_checks
theorem Gl.bn_Entry_init_1 (g : Gl K mg base) : BnD ⟨K, g.cls, g.T⟩ K g.fd_Entry_init ["self", "name", "data", "time", "comment"] 3 [] (0 :: List.map (· + 1) [0, 1, 2, 3]) [.tup k_FIRST_TIME, .str ""] := g.q3.bn_Entry_init_1
theorem Gl.cl_Entry (g : Gl K mg base) : Cls K (g.cls 20) := g.q3.cl_Entry
theorem Gl.mk_Entry (g : Gl K mg base) : Mk K (g.cls 20) g.a_Entry_init := g.q3.mk_Entry
theorem Gl.ox_NoText (g : Gl K mg base) : OexC K (g.cls 17) := g.q3.ox_NoText
theorem Gl.ax_NoText (g : Gl K mg base) : PySem.W.findIn K (.ref (g.cls 17)) "__init__" = some (some (.ref g.a_NoText_init)) := g.q3.ax_NoText
theorem Gl.tx_NoText (g : Gl K mg base) : PySem.W.typeIn K (.ref g.a_NoText_init) = some (.type "function") := g.q3.tx_NoText
theorem Gl.rd_AE (g : Gl K mg base) : ClX.CRead K (g.cls 0) (.type "type") := g.q3.rd_AE
theorem Gl.vv_AE (g : Gl K mg base) : PySem.W.findCls K (.ref (g.cls 0)) (.type "type") "__init__" = some (.val (.builtin "ValueError.__init__")) := g.q3.vv_AE
theorem Gl.kb_bytes_text_0 (g : Gl K mg base) : KwB K g.fd_bytes_text ["some"] ["some"] [0] := g.q4.kb_bytes_text_0
theorem Gl.kb_read_bytes_0 (g : Gl K mg base) : KwB K g.fd_read_bytes ["text"] ["text"] [0] := g.q4.kb_read_bytes_0
theorem Gl.tb_law (g : Gl K mg base) : LamX.TabB base mg g.co_law g.ta_law := g.q4.tb_law
theorem Gl.cd_law (g : Gl K mg base) : g.fd_law.code = .ref g.co_law := g.q4.cd_law
theorem Gl.tm_law (g : Gl K mg base) : (g.ta_law, ("law.<locals>.<lambda>" : Str)) ∈ g.T := g.q4.tm_law
theorem Gl.tu_law (g : Gl K mg base) : ∀ p ∈ g.T, p.1 = g.ta_law → p.2 = ("law.<locals>.<lambda>" : Str) := g.q4.tu_law
end
section
variable {P : Program} {w : World} {K : PySem.W.Frag} {mg : Str → Option Value} {base : Heap}
abbrev Gl.C (g : Gl K mg base) : RC := ⟨K, g.cls, g.T⟩
theorem xk_NoText (g : Gl K mg base) : XK1 P w K mg base 1 (g.cls 17) ["row"] :=
  xk_of1 (g.kc.nx (17, "row") (by decide)).2 g.F_NoText_init sc_NoText_init rfl g.ox_NoText g.ax_NoText g.tx_NoText g.b_NoText_init fun cdv A outer s H E => pss_cons (ps_expr (pe_aini rfl g.m_ArchiveError g.rd_AE g.vv_AE (pa_cons (pv 0) (pa_cons pe_str pa_nil)))) (pss_one (ps_ost (pv 0) (pv 1)))
def sv_is_number : Sv := svRet (evAnd (evCall (Blt.run CL .isinstance) (akCons (evVar 0) (akCons (evC (.ty "int")) (akNil)))) (evAnd (evNot (evCall (Blt.run CL .isinstance) (akCons (evVar 0) (akCons (evC (.ty "bool")) (akNil))))) (evChain (dCmp .LtE) (dCmp .LtE) (evVar 1) (evVar 0) (evVar 2))))
def F_is_number : Fn := fnSv 3 3 sv_is_number
theorem ok_is_number (g : Gl K mg base) : FnG P w K mg base 1 g.a_is_number g.fd_is_number ["thing", "low", "high"] (SpF g.C F_is_number) :=
  Fun.okG (C := g.C) (N := N_is_number) (sv := sv_is_number) g.F_is_number sc_is_number fun cdv A outer s H E hcd hr hg O =>
    have fx := fx_of (C := g.C) hr hg
    pssd_one (ws_ret (w_and fx (w_blt fx g.kc .isinstance g.z_isinstance (w_k (w_var 0) (w_k (w_ty "int" rfl g.z_int) (pkd_nil)))) (w_and fx (w_not fx (w_blt fx g.kc .isinstance g.z_isinstance (w_k (w_var 0) (w_k (w_ty "bool" rfl g.z_bool) (pkd_nil))))) (pd_one (w_chain fx .LtE .LtE (w_var 1) (w_var 0) (w_var 2))))))
def e_is_bytes_1 : Ev := evLc [1] (ivE (evVar 0)) (gvName 1) (tvYes) (evN (evFn F_is_number (akCons (evVar 1) (akCons (evC (.int 0)) (akCons (evC (.int 255)) (akNil))))))
def sv_is_bytes : Sv := svRet (evAnd (evCall (Blt.run CL .isinstance) (akCons (evVar 0) (akCons (evTup (evCons (evC (.ty "list")) (evCons (evC (.ty "tuple")) (evNil)))) (akNil)))) (evCall (Blt.run CL .all) (akCons (e_is_bytes_1) (akNil))))
def F_is_bytes : Fn := fnSv 2 1 sv_is_bytes
theorem ok_is_bytes (g : Gl K mg base) : FnG P w K mg base 2 g.a_is_bytes g.fd_is_bytes ["thing"] (SpF g.C F_is_bytes) :=
  Fun.okG (C := g.C) (N := N_is_bytes) (sv := sv_is_bytes) g.F_is_bytes sc_is_bytes fun cdv A outer s H E hcd hr hg O =>
    have fx := fx_of (C := g.C) hr hg
    pssd_one (ws_ret (w_and fx (w_blt fx g.kc .isinstance g.z_isinstance (w_k (w_var 0) (w_k (pd_tup (w_a (w_ty "list" rfl g.z_list) (w_a (w_ty "tuple" rfl g.z_tuple) (w_a0)))) (pkd_nil)))) (pd_one (w_blt fx g.kc .all g.z_all (w_k (w_lc [("one", 1)] fx sc_is_bytes.nd (wi_e fx (w_var 0)) (blk_of (by kernel_rfl)) (fun _ _ _ _ _ fx => wg_name 1 sc_is_bytes.nd) (fun _ _ _ _ _ fx => w_t0) (fun _ _ _ _ _ fx _ _ => w_fn fx (ok_is_number g) g.m_is_number g.F_is_number.kp g.b_is_number (w_k (w_var 1) (w_k (w_int) (w_k (w_gint g.c_GREATEST_BYTE) (pkd_nil)))))) (pkd_nil))))))
def sv_need_bytes : Sv := svIf (tvNot (tvE (evN (evFn F_is_bytes (akCons (evVar 0) (akNil)))))) (svRaise 1) (svNx)
def F_need_bytes : Fn := fnSv 1 1 sv_need_bytes
theorem ok_need_bytes (g : Gl K mg base) : FnG P w K mg base 3 g.a_need_bytes g.fd_need_bytes ["thing"] (SpF g.C F_need_bytes) :=
  Fun.okG (C := g.C) (N := N_need_bytes) (sv := sv_need_bytes) g.F_need_bytes sc_need_bytes fun cdv A outer s H E hcd hr hg O =>
    have fx := fx_of (C := g.C) hr hg
    pssd_one (ws_if (ptd_not (wt_e fx (w_fn fx (ok_is_bytes g) g.m_is_bytes g.F_is_bytes.kp g.b_is_bytes (w_k (w_var 0) (pkd_nil))))) (pssd_one (ws_raise fx g.kc 1 g.m_NoBytes)) (pssd_nil))
def u1_forward_2 : Sv := svSet 0 (evOp (dBin .BitXor) (evOp (dBin .RShift) (evVar 0) (evC (.int 4))) (evN (evOp dIx (evG (.tup k_STEPS)) (evOp (dBin .BitAnd) (evVar 0) (evC (.int 15))))))
def u1_forward_1 : Sv := svSeq (svSet 0 (evOp (dBin .BitXor) (evOp (dBin .RShift) (evVar 0) (evC (.int 4))) (evN (evOp dIx (evG (.tup k_STEPS)) (evOp (dBin .BitAnd) (evVar 0) (evC (.int 15))))))) (u1_forward_2)
def b_forward_3 : Sv := svSeq (svSet 0 (evOp (dBin .BitXor) (evVar 0) (evVar 2))) (u1_forward_1)
def sv_forward : Sv := svSeq (svFor (ivE (evVar 1)) (gvName 2) (b_forward_3)) (svRet (evVar 0))
def F_forward : Fn := fnSv 3 2 sv_forward
theorem ok_forward (g : Gl K mg base) : FnG P w K mg base 1 g.a_forward g.fd_forward ["crc", "some"] (SpF g.C F_forward) :=
  Fun.okG (C := g.C) (N := N_forward) (sv := sv_forward) g.F_forward sc_forward fun cdv A outer s H E hcd hr hg O =>
    have fx := fx_of (C := g.C) hr hg
    pssd_cons (ws_for fx pas_of (wi_e fx (w_var 1)) (wg_name 2 sc_forward.nd) (f := b_forward_3) (pssd_cons (ws_set 0 sc_forward.nd (w_bin fx .BitXor (w_var 0) (w_var 2))) (pssd_cons (ws_set 0 sc_forward.nd (w_bin fx .BitXor (w_bin fx .RShift (w_var 0) (w_int)) (w_ix fx (w_gtup g.c_STEPS) (w_bin fx .BitAnd (w_var 0) (w_int))))) (pssd_one (ws_set 0 sc_forward.nd (w_bin fx .BitXor (w_bin fx .RShift (w_var 0) (w_int)) (w_ix fx (w_gtup g.c_STEPS) (w_bin fx .BitAnd (w_var 0) (w_int))))))))) (pssd_one (ws_ret (w_var 0)))
def sv_check : Sv := svSeq (svExpr (evN (evFn F_need_bytes (akCons (evVar 0) (akNil))))) (svRet (evOp (dBin .BitXor) (evN (evFn F_forward (akCons (evC (.int 4294967295)) (akCons (evVar 0) (akNil))))) (evC (.int 4294967295))))
def F_check : Fn := fnSv 1 1 sv_check
theorem ok_check (g : Gl K mg base) : FnG P w K mg base 4 g.a_check g.fd_check ["data"] (SpF g.C F_check) :=
  Fun.okG (C := g.C) (N := N_check) (sv := sv_check) g.F_check sc_check fun cdv A outer s H E hcd hr hg O =>
    have fx := fx_of (C := g.C) hr hg
    pssd_cons (ws_expr (w_fn fx (ok_need_bytes g) g.m_need_bytes g.F_need_bytes.kp g.b_need_bytes (w_k (w_var 0) (pkd_nil)))) (pssd_one (ws_ret (w_bin fx .BitXor (w_fn fx (ok_forward g) g.m_forward g.F_forward.kp g.b_forward (w_k (w_gint g.c_GREATEST_CHECK) (w_k (w_var 0) (pkd_nil)))) (w_gint g.c_GREATEST_CHECK))))
def sv_is_printable : Sv := svRet (evAnd (evChain (dCmp .LtE) (dCmp .LtE) (evC (.int 32)) (evVar 0) (evC (.int 126))) (evOp (dCmp .NotEq) (evVar 0) (evC (.int 37))))
def F_is_printable : Fn := fnSv 1 1 sv_is_printable
theorem ok_is_printable (g : Gl K mg base) : FnG P w K mg base 1 g.a_is_printable g.fd_is_printable ["number"] (SpF g.C F_is_printable) :=
  Fun.okG (C := g.C) (N := N_is_printable) (sv := sv_is_printable) g.F_is_printable sc_is_printable fun cdv A outer s H E hcd hr hg O =>
    have fx := fx_of (C := g.C) hr hg
    pssd_one (ws_ret (w_and fx (w_chain fx .LtE .LtE (w_gint g.c_FIRST_SIGN) (w_var 0) (w_gint g.c_LAST_SIGN)) (pd_one (w_cmp fx .NotEq (w_var 0) (w_gint g.c_PERCENT)))))
def e_is_text_1 : Ev := evLc [1] (ivE (evVar 0)) (gvName 1) (tvYes) (evN (evFn F_is_printable (akCons (evCall (Blt.run CL .ord) (akCons (evVar 1) (akNil))) (akNil))))
def sv_is_text : Sv := svRet (evAnd (evCall (Blt.run CL .isinstance) (akCons (evVar 0) (akCons (evC (.ty "str")) (akNil)))) (evCall (Blt.run CL .all) (akCons (e_is_text_1) (akNil))))
def F_is_text : Fn := fnSv 2 1 sv_is_text
theorem ok_is_text (g : Gl K mg base) : FnG P w K mg base 2 g.a_is_text g.fd_is_text ["thing"] (SpF g.C F_is_text) :=
  Fun.okG (C := g.C) (N := N_is_text) (sv := sv_is_text) g.F_is_text sc_is_text fun cdv A outer s H E hcd hr hg O =>
    have fx := fx_of (C := g.C) hr hg
    pssd_one (ws_ret (w_and fx (w_blt fx g.kc .isinstance g.z_isinstance (w_k (w_var 0) (w_k (w_ty "str" rfl g.z_str) (pkd_nil)))) (pd_one (w_blt fx g.kc .all g.z_all (w_k (w_lc [("sign", 1)] fx sc_is_text.nd (wi_e fx (w_var 0)) (blk_of (by kernel_rfl)) (fun _ _ _ _ _ fx => wg_name 1 sc_is_text.nd) (fun _ _ _ _ _ fx => w_t0) (fun _ _ _ _ _ fx _ _ => w_fn fx (ok_is_printable g) g.m_is_printable g.F_is_printable.kp g.b_is_printable (w_k (w_blt fx g.kc .ord g.z_ord (w_k (w_var 1) (pkd_nil))) (pkd_nil)))) (pkd_nil))))))
def sv_is_name : Sv := svRet (evAnd (evN (evFn F_is_text (akCons (evVar 0) (akNil)))) (evChain (dCmp .LtE) (dCmp .LtE) (evC (.int 1)) (evCall (Blt.run CL .len) (akCons (evVar 0) (akNil))) (evC (.int 24))))
def F_is_name : Fn := fnSv 1 1 sv_is_name
theorem ok_is_name (g : Gl K mg base) : FnG P w K mg base 3 g.a_is_name g.fd_is_name ["thing"] (SpF g.C F_is_name) :=
  Fun.okG (C := g.C) (N := N_is_name) (sv := sv_is_name) g.F_is_name sc_is_name fun cdv A outer s H E hcd hr hg O =>
    have fx := fx_of (C := g.C) hr hg
    pssd_one (ws_ret (w_and fx (w_fn fx (ok_is_text g) g.m_is_text g.F_is_text.kp g.b_is_text (w_k (w_var 0) (pkd_nil))) (pd_one (w_chain fx .LtE .LtE (w_int) (w_blt fx g.kc .len g.z_len (w_k (w_var 0) (pkd_nil))) (w_gint g.c_LONGEST_NAME)))))
def sv_is_comment : Sv := svRet (evAnd (evN (evFn F_is_text (akCons (evVar 0) (akNil)))) (evOp (dCmp .LtE) (evCall (Blt.run CL .len) (akCons (evVar 0) (akNil))) (evC (.int 40))))
def F_is_comment : Fn := fnSv 1 1 sv_is_comment
theorem ok_is_comment (g : Gl K mg base) : FnG P w K mg base 3 g.a_is_comment g.fd_is_comment ["thing"] (SpF g.C F_is_comment) :=
  Fun.okG (C := g.C) (N := N_is_comment) (sv := sv_is_comment) g.F_is_comment sc_is_comment fun cdv A outer s H E hcd hr hg O =>
    have fx := fx_of (C := g.C) hr hg
    pssd_one (ws_ret (w_and fx (w_fn fx (ok_is_text g) g.m_is_text g.F_is_text.kp g.b_is_text (w_k (w_var 0) (pkd_nil))) (pd_one (w_cmp fx .LtE (w_blt fx g.kc .len g.z_len (w_k (w_var 0) (pkd_nil))) (w_gint g.c_LONGEST_COMMENT)))))
def sv_days_in : Sv := svSeq (svSet 2 (evAnd (evOp (dCmp .Eq) (evOp (dBin .Mod) (evVar 0) (evC (.int 4))) (evC (.int 0))) (evOr (evOp (dCmp .NotEq) (evOp (dBin .Mod) (evVar 0) (evC (.int 100))) (evC (.int 0))) (evOp (dCmp .Eq) (evOp (dBin .Mod) (evVar 0) (evC (.int 400))) (evC (.int 0)))))) (svRet (evOp (dBin .Add) (evN (evOp dIx (evG (.tup k_MONTHS)) (evOp (dBin .Sub) (evVar 1) (evC (.int 1))))) (evCall (Blt.run CL .int) (akCons (evAnd (evOp (dCmp .Eq) (evVar 1) (evC (.int 2))) (evVar 2)) (akNil)))))
def F_days_in : Fn := fnSv 3 2 sv_days_in
theorem ok_days_in (g : Gl K mg base) : FnG P w K mg base 1 g.a_days_in g.fd_days_in ["year", "month"] (SpF g.C F_days_in) :=
  Fun.okG (C := g.C) (N := N_days_in) (sv := sv_days_in) g.F_days_in sc_days_in fun cdv A outer s H E hcd hr hg O =>
    have fx := fx_of (C := g.C) hr hg
    pssd_cons (ws_set 2 sc_days_in.nd (w_and fx (w_cmp fx .Eq (w_bin fx .Mod (w_var 0) (w_int)) (w_int)) (pd_one (w_or fx (w_cmp fx .NotEq (w_bin fx .Mod (w_var 0) (w_int)) (w_int)) (pd_one (w_cmp fx .Eq (w_bin fx .Mod (w_var 0) (w_int)) (w_int))))))) (pssd_one (ws_ret (w_bin fx .Add (w_ix fx (w_gtup g.c_MONTHS) (w_bin fx .Sub (w_var 1) (w_int))) (w_blt fx g.kc .int g.z_int (w_k (w_and fx (w_cmp fx .Eq (w_var 1) (w_int)) (pd_one (w_var 2))) (pkd_nil))))))
def t_is_time_4 : Sv := svRet (evAnd (evN (evFn F_is_number (akCons (evVar 5) (akCons (evC (.int 0)) (akCons (evC (.int 59)) (akNil)))))) (evAnd (evN (evFn F_is_number (akCons (evVar 6) (akCons (evC (.int 0)) (akCons (evC (.int 59)) (akNil)))))) (evOp (dCmp .Eq) (evOp (dBin .Mod) (evVar 6) (evC (.int 2))) (evC (.int 0)))))
def t_is_time_3 : Sv := svSeq (svIf (tvOr (tvNot (tvE (evN (evFn F_is_number (akCons (evVar 3) (akCons (evC (.int 1)) (akCons (evN (evFn F_days_in (akCons (evVar 1) (akCons (evVar 2) (akNil))))) (akNil)))))))) (tvNot (tvE (evN (evFn F_is_number (akCons (evVar 4) (akCons (evC (.int 0)) (akCons (evC (.int 23)) (akNil))))))))) (svRet (evC (.bl false))) (svNx)) (t_is_time_4)
def t_is_time_2 : Sv := svSeq (svIf (tvOr (tvNot (tvE (evN (evFn F_is_number (akCons (evVar 1) (akCons (evN (evOp dIx (evG (.tup k_EARLIEST)) (evC (.int 0)))) (akCons (evC (.int 2107)) (akNil)))))))) (tvNot (tvE (evN (evFn F_is_number (akCons (evVar 2) (akCons (evC (.int 1)) (akCons (evC (.int 12)) (akNil))))))))) (svRet (evC (.bl false))) (svNx)) (t_is_time_3)
def t_is_time_1 : Sv := svSeq (svAsg (evVar 0) (gvTup 6 (gvCons (gvName 1) (gvCons (gvName 2) (gvCons (gvName 3) (gvCons (gvName 4) (gvCons (gvName 5) (gvCons (gvName 6) (gvNil))))))))) (t_is_time_2)
def sv_is_time : Sv := svSeq (svIf (tvOr (tvNot (tvE (evCall (Blt.run CL .isinstance) (akCons (evVar 0) (akCons (evC (.ty "tuple")) (akNil)))))) (tvB (evOp (dCmp .NotEq) (evCall (Blt.run CL .len) (akCons (evVar 0) (akNil))) (evC (.int 6))))) (svRet (evC (.bl false))) (svNx)) (t_is_time_1)
def F_is_time : Fn := fnSv 7 1 sv_is_time
theorem ok_is_time (g : Gl K mg base) : FnG P w K mg base 2 g.a_is_time g.fd_is_time ["thing"] (SpF g.C F_is_time) :=
  Fun.okG (C := g.C) (N := N_is_time) (sv := sv_is_time) g.F_is_time sc_is_time fun cdv A outer s H E hcd hr hg O =>
    have fx := fx_of (C := g.C) hr hg
    pssd_cons (ws_if (PWD.pt (pwd_or (ptd_not (wt_e fx (w_blt fx g.kc .isinstance g.z_isinstance (w_k (w_var 0) (w_k (w_ty "tuple" rfl g.z_tuple) (pkd_nil)))))) (pwd_or1 (wt_cmp fx .NotEq (w_blt fx g.kc .len g.z_len (w_k (w_var 0) (pkd_nil))) (w_int))))) (pssd_one (ws_ret (w_bool))) (pssd_nil)) (pssd_cons (ws_asg (w_var 0) (wg_tup fx (n := 6) (wg_n (wg_name 1 sc_is_time.nd) (wg_n (wg_name 2 sc_is_time.nd) (wg_n (wg_name 3 sc_is_time.nd) (wg_n (wg_name 4 sc_is_time.nd) (wg_n (wg_name 5 sc_is_time.nd) (wg_n (wg_name 6 sc_is_time.nd) (wg_n0))))))))) (pssd_cons (ws_if (PWD.pt (pwd_or (ptd_not (wt_e fx (w_fn fx (ok_is_number g) g.m_is_number g.F_is_number.kp g.b_is_number (w_k (w_var 1) (w_k (w_ix fx (w_gtup g.c_EARLIEST) (w_int)) (w_k (w_gint g.c_LATEST_YEAR) (pkd_nil))))))) (pwd_or1 (ptd_not (wt_e fx (w_fn fx (ok_is_number g) g.m_is_number g.F_is_number.kp g.b_is_number (w_k (w_var 2) (w_k (w_int) (w_k (w_int) (pkd_nil)))))))))) (pssd_one (ws_ret (w_bool))) (pssd_nil)) (pssd_cons (ws_if (PWD.pt (pwd_or (ptd_not (wt_e fx (w_fn fx (ok_is_number g) g.m_is_number g.F_is_number.kp g.b_is_number (w_k (w_var 3) (w_k (w_int) (w_k (w_fn fx (ok_days_in g) g.m_days_in g.F_days_in.kp g.b_days_in (w_k (w_var 1) (w_k (w_var 2) (pkd_nil)))) (pkd_nil))))))) (pwd_or1 (ptd_not (wt_e fx (w_fn fx (ok_is_number g) g.m_is_number g.F_is_number.kp g.b_is_number (w_k (w_var 4) (w_k (w_int) (w_k (w_int) (pkd_nil)))))))))) (pssd_one (ws_ret (w_bool))) (pssd_nil)) (pssd_one (ws_ret (w_and fx (w_fn fx (ok_is_number g) g.m_is_number g.F_is_number.kp g.b_is_number (w_k (w_var 5) (w_k (w_int) (w_k (w_int) (pkd_nil))))) (w_and fx (w_fn fx (ok_is_number g) g.m_is_number g.F_is_number.kp g.b_is_number (w_k (w_var 6) (w_k (w_int) (w_k (w_int) (pkd_nil))))) (pd_one (w_cmp fx .Eq (w_bin fx .Mod (w_var 6) (w_int)) (w_int))))))))))
def t_Entry_init_8 : Sv := svSetF CL "own_check" (evVar 0) (evN (evFn F_check (akCons (evFldC CL "own_data" (evVar 0)) (akNil))))
def t_Entry_init_7 : Sv := svSeq (svSetF CL "comment" (evVar 0) (evVar 4)) (t_Entry_init_8)
def t_Entry_init_6 : Sv := svSeq (svSetF CL "time" (evVar 0) (evVar 3)) (t_Entry_init_7)
def t_Entry_init_5 : Sv := svSeq (svSetF CL "own_data" (evVar 0) (evCall (Blt.run CL .list) (akCons (evVar 2) (akNil)))) (t_Entry_init_6)
def t_Entry_init_4 : Sv := svSeq (svSetF CL "name" (evVar 0) (evVar 1)) (t_Entry_init_5)
def t_Entry_init_3 : Sv := svSeq (svIf (tvNot (tvE (evN (evFn F_is_comment (akCons (evVar 4) (akNil)))))) (svRaise 5) (svNx)) (t_Entry_init_4)
def t_Entry_init_2 : Sv := svSeq (svIf (tvNot (tvE (evN (evFn F_is_time (akCons (evVar 3) (akNil)))))) (svRaise 3) (svNx)) (t_Entry_init_3)
def t_Entry_init_1 : Sv := svSeq (svIf (tvOr (tvNot (tvE (evN (evFn F_is_bytes (akCons (evVar 2) (akNil)))))) (tvB (evOp (dCmp .Gt) (evCall (Blt.run CL .len) (akCons (evVar 2) (akNil))) (evC (.int 1500))))) (svRaise 6) (svNx)) (t_Entry_init_2)
def sv_Entry_init : Sv := svSeq (svIf (tvNot (tvE (evN (evFn F_is_name (akCons (evVar 1) (akNil)))))) (svRaise 4) (svNx)) (t_Entry_init_1)
def F_Entry_init : Fn := fnIni 5 5 20 sv_Entry_init
theorem ok_Entry_init (g : Gl K mg base) : FnG P w K mg base 5 g.a_Entry_init g.fd_Entry_init ["self", "name", "data", "time", "comment"] (SpI g.C 20 F_Entry_init) :=
  FunY.okI (C := g.C) (N := N_Entry_init) (sv := sv_Entry_init) g.F_Entry_init sc_Entry_init fun cdv A outer s H E hcd hr hg O H0 =>
    have fx := fx_of (C := g.C) hr hg
    pssd_cons (ws_if (ptd_not (wt_e fx (w_fn fx (ok_is_name g) g.m_is_name g.F_is_name.kp g.b_is_name (w_k (w_var 1) (pkd_nil))))) (pssd_one (ws_raise fx g.kc 4 g.m_NoName)) (pssd_nil)) (pssd_cons (ws_if (PWD.pt (pwd_or (ptd_not (wt_e fx (w_fn fx (ok_is_bytes g) g.m_is_bytes g.F_is_bytes.kp g.b_is_bytes (w_k (w_var 2) (pkd_nil))))) (pwd_or1 (wt_cmp fx .Gt (w_blt fx g.kc .len g.z_len (w_k (w_var 2) (pkd_nil))) (w_gint g.c_MOST_DATA))))) (pssd_one (ws_raise fx g.kc 6 g.m_NoData)) (pssd_nil)) (pssd_cons (ws_if (ptd_not (wt_e fx (w_fn fx (ok_is_time g) g.m_is_time g.F_is_time.kp g.b_is_time (w_k (w_var 3) (pkd_nil))))) (pssd_one (ws_raise fx g.kc 3 g.m_NoTime)) (pssd_nil)) (pssd_cons (ws_if (ptd_not (wt_e fx (w_fn fx (ok_is_comment g) g.m_is_comment g.F_is_comment.kp g.b_is_comment (w_k (w_var 4) (pkd_nil))))) (pssd_one (ws_raise fx g.kc 5 g.m_NoComment)) (pssd_nil)) (pssd_cons (psd_setF fx.K g.kc (w_var 0) (w_var 1) rfl) (pssd_cons (psd_setF fx.K g.kc (w_var 0) (w_blt fx g.kc .list g.z_list (w_k (w_var 2) (pkd_nil))) rfl) (pssd_cons (psd_setF fx.K g.kc (w_var 0) (w_var 3) rfl) (pssd_cons (psd_setF fx.K g.kc (w_var 0) (w_var 4) rfl) (pssd_one (psd_setF fx.K g.kc (w_var 0) (w_fn fx (ok_check g) g.m_check_checks g.F_check.kp g.b_check (w_k (pd_fldC fx.K g.kc (w_var 0) rfl) (pkd_nil))) rfl)))))))))
def e_bytes_text_1 : Ev := evLc [1] (ivE (evVar 0)) (gvName 1) (tvYes) (evOp (dBin .Add) (evN (evOp dIx (evC (.str "0123456789abcdef")) (evOp (dBin .FloorDiv) (evVar 1) (evC (.int 16))))) (evN (evOp dIx (evC (.str "0123456789abcdef")) (evOp (dBin .BitAnd) (evVar 1) (evC (.int 15))))))
def sv_bytes_text : Sv := svSeq (svIf (tvNot (tvE (evN (evFn F_is_bytes (akCons (evVar 0) (akNil)))))) (svRaise 1) (svNx)) (svRet (evMeth isStrD mJoin (evC (.str "")) (akCons (e_bytes_text_1) (akNil))))
def F_bytes_text : Fn := fnSv 2 1 sv_bytes_text
theorem ok_bytes_text (g : Gl K mg base) : FnG P w K mg base 3 g.a_bytes_text g.fd_bytes_text ["some"] (SpF g.C F_bytes_text) :=
  Fun.okG (C := g.C) (N := N_bytes_text) (sv := sv_bytes_text) g.F_bytes_text sc_bytes_text fun cdv A outer s H E hcd hr hg O =>
    have fx := fx_of (C := g.C) hr hg
    pssd_cons (ws_if (ptd_not (wt_e fx (w_fn fx (ok_is_bytes g) g.m_is_bytes g.F_is_bytes.kp g.b_is_bytes (w_k (w_var 0) (pkd_nil))))) (pssd_one (ws_raise fx g.kc 1 g.m_NoBytes)) (pssd_nil)) (pssd_one (ws_ret (w_join fx (w_str) (w_k (w_lc [("one", 1)] fx sc_bytes_text.nd (wi_e fx (w_var 0)) (blk_of (by kernel_rfl)) (fun _ _ _ _ _ fx => wg_name 1 sc_bytes_text.nd) (fun _ _ _ _ _ fx => w_t0) (fun _ _ _ _ _ fx _ _ => w_bin fx .Add (w_ix fx (w_gstr g.c_HEX) (w_bin fx .FloorDiv (w_var 1) (w_int))) (w_ix fx (w_gstr g.c_HEX) (w_bin fx .BitAnd (w_var 1) (w_int))))) (pkd_nil)))))
def e_bytes_in_1 : Ev := evLc [1] (ivE (evVar 0)) (gvName 1) (tvB (evOp (dCmp .NotIn) (evVar 1) (evC (.str "0123456789abcdef")))) (evVar 1)
def e_bytes_in_2 : Ev := evLc [2] (ivR3 (akCons (evC (.int 0)) (akCons (evCall (Blt.run CL .len) (akCons (evVar 0) (akNil))) (akCons (evC (.int 2)) (akNil))))) (gvName 2) (tvYes) (evOp (dBin .Add) (evOp (dBin .Mult) (evMeth isStrD mSindex (evC (.str "0123456789abcdef")) (akCons (evN (evOp dIx (evVar 0) (evVar 2))) (akNil))) (evC (.int 16))) (evMeth isStrD mSindex (evC (.str "0123456789abcdef")) (akCons (evN (evOp dIx (evVar 0) (evOp (dBin .Add) (evVar 2) (evC (.int 1))))) (akNil))))
def sv_bytes_in : Sv := svSeq (svIf (tvOr (tvB (evOp (dCmp .Eq) (evOp (dBin .BitAnd) (evCall (Blt.run CL .len) (akCons (evVar 0) (akNil))) (evC (.int 1))) (evC (.int 1)))) (tvB (evOp (dCmp .NotEq) (e_bytes_in_1) (evLst (evNil))))) (svRet (evC .non)) (svNx)) (svRet (e_bytes_in_2))
def F_bytes_in : Fn := fnSv 3 1 sv_bytes_in
theorem ok_bytes_in (g : Gl K mg base) : FnG P w K mg base 1 g.a_bytes_in g.fd_bytes_in ["text"] (SpF g.C F_bytes_in) :=
  Fun.okG (C := g.C) (N := N_bytes_in) (sv := sv_bytes_in) g.F_bytes_in sc_bytes_in fun cdv A outer s H E hcd hr hg O =>
    have fx := fx_of (C := g.C) hr hg
    pssd_cons (ws_if (PWD.pt (pwd_or (wt_cmp fx .Eq (w_bin fx .BitAnd (w_blt fx g.kc .len g.z_len (w_k (w_var 0) (pkd_nil))) (w_int)) (w_int)) (pwd_or1 (wt_cmp fx .NotEq (w_lc [("sign", 1)] fx sc_bytes_in.nd (wi_e fx (w_var 0)) (blk_of (by kernel_rfl)) (fun _ _ _ _ _ fx => wg_name 1 sc_bytes_in.nd) (fun _ _ _ _ _ fx => w_t1 fun _ _ => wt_cmp fx .NotIn (w_var 1) (w_gstr g.c_HEX)) (fun _ _ _ _ _ fx _ _ => w_var 1)) (pd_lst (w_a0)))))) (pssd_one (ws_ret (w_none))) (pssd_nil)) (pssd_one (ws_ret (w_lc [("at", 2)] fx sc_bytes_in.nd (w_r3 g.z_range (w_k (w_int) (w_k (w_blt fx g.kc .len g.z_len (w_k (w_var 0) (pkd_nil))) (w_k (w_int) (pkd_nil))))) (blk_of (by kernel_rfl)) (fun _ _ _ _ _ fx => wg_name 2 sc_bytes_in.nd) (fun _ _ _ _ _ fx => w_t0) (fun _ _ _ _ _ fx _ _ => w_bin fx .Add (w_bin fx .Mult (w_sindex fx (w_gstr g.c_HEX) (w_k (w_ix fx (w_var 0) (w_var 2)) (pkd_nil))) (w_int)) (w_sindex fx (w_gstr g.c_HEX) (w_k (w_ix fx (w_var 0) (w_bin fx .Add (w_var 2) (w_int))) (pkd_nil)))))))
def t_read_bytes_2 : Sv := svRet (evVar 1)
def t_read_bytes_1 : Sv := svSeq (svIf (tvB (evOp (dCmp .Is) (evVar 1) (evC .non))) (svRaiseX 17 ["row"] (akCons (evC (.int 0)) (akNil))) (svNx)) (t_read_bytes_2)
def sv_read_bytes : Sv := svSeq (svSet 1 (evIf (tvE (evCall (Blt.run CL .isinstance) (akCons (evVar 0) (akCons (evC (.ty "str")) (akNil))))) (evN (evFn F_bytes_in (akCons (evVar 0) (akNil)))) (evC .non))) (t_read_bytes_1)
def F_read_bytes : Fn := fnSv 2 1 sv_read_bytes
theorem ok_read_bytes (g : Gl K mg base) : FnG P w K mg base 3 g.a_read_bytes g.fd_read_bytes ["text"] (SpF g.C F_read_bytes) :=
  Fun.okG (C := g.C) (N := N_read_bytes) (sv := sv_read_bytes) g.F_read_bytes sc_read_bytes fun cdv A outer s H E hcd hr hg O =>
    have fx := fx_of (C := g.C) hr hg
    pssd_cons (ws_set 1 sc_read_bytes.nd (w_ifExp (wt_e fx (w_blt fx g.kc .isinstance g.z_isinstance (w_k (w_var 0) (w_k (w_ty "str" rfl g.z_str) (pkd_nil))))) (w_fn fx (ok_bytes_in g) g.m_bytes_in g.F_bytes_in.kp g.b_bytes_in (w_k (w_var 0) (pkd_nil))) (w_none))) (pssd_cons (ws_if (wt_cmp fx .Is (w_var 1) (w_none)) (pssd_one (ws_raiseX fx 17 ((xk_NoText g).mono (by decide)) g.m_NoText (w_k (w_int) (pkd_nil)))) (pssd_nil)) (pssd_one (ws_ret (w_var 1))))
abbrev F_l_begun : Fn := D.F_begun
theorem ok_l_begun (g : Gl K mg base) : FnG P w K mg base 1 g.a_l_begun g.fd_l_begun ["_law_script"] (SpF g.C F_l_begun) :=
  Fun.okBegun (C := g.C) g.F_l_begun sc_l_begun fun cdv A outer s H E hr hg =>
    have fx := fx_of (C := g.C) hr hg
    ⟨_, _, _, _, _, _, _, _, _, _, _, rfl, fun _ _ => ws_setLc 1 [("_law_lump", 2)] fx sc_l_begun.nd (wi_e fx (w_var 0)) (blk_of (by kernel_rfl)) (fun _ _ _ _ _ fx => wg_name 2 sc_l_begun.nd) (fun _ _ _ _ _ fx => w_t1 fun _ _ => wt_cmp fx .GtE (w_blt fx g.kc .abs g.z_abs (w_k (w_var 2) (pkd_nil))) (w_bin fx .Pow (w_int) (w_int))) (fun _ _ _ _ _ fx _ _ => w_bin fx .FloorDiv (w_blt fx g.kc .abs g.z_abs (w_k (w_var 2) (pkd_nil))) (w_bin fx .Pow (w_int) (w_int))) (sw_true rfl rfl rfl rfl), pe_str, pe_str, pe_str, pe_str, pe_int, pv 1, fun _ _ => w_lc [("_law_lump", 2)] fx sc_l_begun.nd (wi_e fx (w_var 0)) (blk_of (by kernel_rfl)) (fun _ _ _ _ _ fx => wg_name 2 sc_l_begun.nd) (fun _ _ _ _ _ fx => w_t0) (fun _ _ _ _ _ fx _ _ => w_bin fx .Mod (w_blt fx g.kc .abs g.z_abs (w_k (w_var 2) (pkd_nil))) (w_bin fx .Pow (w_int) (w_int))), pe_int⟩
def sv_l_next : Sv := svSeq (svWhile (tvAnd (tvB (evOp (dCmp .Eq) (evCI 0 .digits) (evC (.int 0)))) (tvNE 0 .great)) (svPop0 0) 100) (svSeq (svIf (tvB (evOp (dCmp .Gt) (evCI 0 .digits) (evC (.int 0)))) (svSeq (svSet 2 (evOp (dBin .Mod) (evCI 0 .digits) (evVar 1))) (svSeq (svCSet 0 .digits (evOp (dBin .FloorDiv) (evCI 0 .digits) (evVar 1))) (svRet (evVar 2)))) (svNx)) (svSeq (svCAug 0 .turn (evC (.int 1))) (svSeq (svSet 3 (evCI 0 .turn)) (svSeq (svSet 4 (evC (.int 0))) (svSeq (svIf (tvNE 0 .lumps) (svSet 4 (evCIx 0 .lumps (evOp (dBin .Mod) (evVar 3) (evCLen 0 .lumps)))) (svNx)) (svSeq (svSet 5 (evOp (dBin .Mod) (evOp (dBin .Pow) (evOp (dBin .Add) (evOp (dBin .Mod) (evVar 4) (evC (.int 2147483629))) (evOp (dBin .Mult) (evC (.int 40009)) (evVar 3))) (evC (.int 3))) (evC (.int 2147483647)))) (svRet (evOp (dBin .Mod) (evOp (dBin .FloorDiv) (evOp (dBin .Mod) (evOp (dBin .Pow) (evOp (dBin .Add) (evVar 5) (evOp (dBin .Mult) (evC (.int 104729)) (evVar 3))) (evC (.int 5))) (evC (.int 2147483629))) (evC (.int 11))) (evVar 1)))))))))
def F_l_next : Fn := fnSv 6 2 sv_l_next
theorem ok_l_next (g : Gl K mg base) : FnG P w K mg base 1 g.a_l_next g.fd_l_next ["_law_draw", "_law_many"] (SpF g.C F_l_next) :=
  Fun.okG (C := g.C) (N := N_l_next) (sv := sv_l_next) g.F_l_next sc_l_next fun cdv A outer s H E hcd hr hg O =>
    have fx := fx_of (C := g.C) hr hg
    pssd_cons (ws_while 100 pas_of (PWD.pt (pwd_and (wt_cmp fx .Eq (pd_ci fx.hu .digits (pv 0) (fun _ _ => rfl)) (w_int)) (pwd_and1 (ptd_ne fx.K fx.hu .great (pv 0) (fun _ _ => rfl) rfl)))) (pssd_one (psd_pop0 fx.K fx.hu (pv 0) (pv 0) (fun _ _ => rfl) rfl rfl rfl rfl rfl rfl))) (pssd_cons (ws_if (wt_cmp fx .Gt (pd_ci fx.hu .digits (pv 0) (fun _ _ => rfl)) (w_int)) (pssd_cons (ws_set 2 sc_l_next.nd (w_bin fx .Mod (pd_ci fx.hu .digits (pv 0) (fun _ _ => rfl)) (w_var 1))) (pssd_cons (psd_cset fx.hu .digits (pv 0) (w_bin fx .FloorDiv (pd_ci fx.hu .digits (pv 0) (fun _ _ => rfl)) (w_var 1)) rfl) (pssd_one (ws_ret (w_var 2))))) (pssd_nil)) (pssd_cons (psd_caug fx.hu .turn (pv 0) (w_int) (by intros; rfl)) (pssd_cons (ws_set 3 sc_l_next.nd (pd_ci fx.hu .turn (pv 0) (fun _ _ => rfl))) (pssd_cons (ws_set 4 sc_l_next.nd (w_int)) (pssd_cons (ws_if (ptd_ne fx.K fx.hu .lumps (pv 0) (fun _ _ => rfl) rfl) (pssd_one (ws_set 4 sc_l_next.nd (pd_cix fx.K fx.hu .lumps (pv 0) (fun _ _ => rfl) (w_bin fx .Mod (w_var 3) (pd_clen fx.hu .lumps rfl g.z_len (pv 0) (fun _ _ => rfl) rfl rfl)) (fun _ _ => rfl)))) (pssd_nil)) (pssd_cons (ws_set 5 sc_l_next.nd (w_bin fx .Mod (w_bin fx .Pow (w_bin fx .Add (w_bin fx .Mod (w_var 4) (w_int)) (w_bin fx .Mult (w_int) (w_var 3))) (w_int)) (w_int))) (pssd_one (ws_ret (w_bin fx .Mod (w_bin fx .FloorDiv (w_bin fx .Mod (w_bin fx .Pow (w_bin fx .Add (w_var 5) (w_bin fx .Mult (w_int) (w_var 3))) (w_int)) (w_int)) (w_int)) (w_var 1))))))))))
def sv_l_pick : Sv := svRet (evN (evOp dIx (evVar 1) (evN (evFn F_l_next (akCons (evVar 0) (akCons (evCall (Blt.run CL .len) (akCons (evVar 1) (akNil))) (akNil)))))))
def F_l_pick : Fn := fnSv 2 2 sv_l_pick
theorem ok_l_pick (g : Gl K mg base) : FnG P w K mg base 2 g.a_l_pick g.fd_l_pick ["_law_draw", "_law_several"] (SpF g.C F_l_pick) :=
  Fun.okG (C := g.C) (N := N_l_pick) (sv := sv_l_pick) g.F_l_pick sc_l_pick fun cdv A outer s H E hcd hr hg O =>
    have fx := fx_of (C := g.C) hr hg
    pssd_one (ws_ret (w_ix fx (w_var 1) (w_fn fx (ok_l_next g) g.m_l_next g.F_l_next.kp g.b_l_next (w_k (w_var 0) (w_k (w_blt fx g.kc .len g.z_len (w_k (w_var 1) (pkd_nil))) (pkd_nil))))))
def e_l_some_1 : Ev := evLc [5] (ivR1 (akCons (evN (evFn F_l_next (akCons (evVar 0) (akCons (evOp (dBin .Add) (evVar 1) (evC (.int 1))) (akNil))))) (akNil))) (gvName 5) (tvYes) (evN (evFn F_l_next (akCons (evVar 0) (akCons (evC (.int 2)) (akNil)))))
def e_l_some_2 : Ev := evLc [6] (ivE (evVar 4)) (gvName 6) (tvYes) (evIf (tvB (evOp (dCmp .Eq) (evVar 6) (evC (.int 0)))) (evN (evFn F_l_pick (akCons (evVar 0) (akCons (evVar 3) (akNil))))) (evN (evFn F_l_next (akCons (evVar 0) (akCons (evC (.int 256)) (akNil))))))
def t_l_some_2 : Sv := svRet (e_l_some_2)
def t_l_some_1 : Sv := svSeq (svSet 4 (e_l_some_1)) (t_l_some_2)
def sv_l_some : Sv := svSeq (svSet 3 (evIf (tvE (evVar 2)) (evLst (evCons (evC (.int 0)) (evCons (evC (.int 1)) (evCons (evC (.int 255)) (evCons (evC (.int 80)) (evCons (evC (.int 75)) (evCons (evC (.int 5)) (evCons (evC (.int 6)) (evCons (evC (.int 3)) (evCons (evC (.int 4)) (evNil))))))))))) (evLst (evCons (evC (.int 80)) (evCons (evC (.int 75)) (evCons (evC (.int 5)) (evCons (evC (.int 6)) (evCons (evC (.int 0)) (evCons (evC (.int 1)) (evNil)))))))))) (t_l_some_1)
def F_l_some : Fn := fnSv 7 3 sv_l_some
theorem ok_l_some (g : Gl K mg base) : FnG P w K mg base 3 g.a_l_some g.fd_l_some ["_law_draw", "_law_many", "_law_plain"] (SpF g.C F_l_some) :=
  Fun.okG (C := g.C) (N := N_l_some) (sv := sv_l_some) g.F_l_some sc_l_some fun cdv A outer s H E hcd hr hg O =>
    have fx := fx_of (C := g.C) hr hg
    pssd_cons (ws_set 3 sc_l_some.nd (w_ifExp (wt_e fx (w_var 2)) (pd_lst (w_a (w_int) (w_a (w_int) (w_a (w_int) (w_a (w_int) (w_a (w_int) (w_a (w_int) (w_a (w_int) (w_a (w_int) (w_a (w_int) (w_a0))))))))))) (pd_lst (w_a (w_int) (w_a (w_int) (w_a (w_int) (w_a (w_int) (w_a (w_int) (w_a (w_int) (w_a0)))))))))) (pssd_cons (ws_setLc 4 [("_law_k", 5)] fx sc_l_some.nd (wi_r1 g.z_range (w_k (w_fn fx (ok_l_next g) g.m_l_next g.F_l_next.kp g.b_l_next (w_k (w_var 0) (w_k (w_bin fx .Add (w_var 1) (w_int)) (pkd_nil)))) (pkd_nil))) (blk_of (by kernel_rfl)) (fun _ _ _ _ _ fx => wg_name 5 sc_l_some.nd) (fun _ _ _ _ _ fx => w_t0) (fun _ _ _ _ _ fx _ _ => w_fn fx (ok_l_next g) g.m_l_next g.F_l_next.kp g.b_l_next (w_k (w_var 0) (w_k (w_int) (pkd_nil)))) (sw_true rfl rfl rfl rfl)) (pssd_one (ws_ret (w_lc [("_law_way", 6)] fx sc_l_some.nd (wi_e fx (w_var 4)) (blk_of (by kernel_rfl)) (fun _ _ _ _ _ fx => wg_name 6 sc_l_some.nd) (fun _ _ _ _ _ fx => w_t0) (fun _ _ _ _ _ fx _ _ => w_ifExp (wt_cmp fx .Eq (w_var 6) (w_int)) (w_fn fx (ok_l_pick g) g.m_l_pick g.F_l_pick.kp g.b_l_pick (w_k (w_var 0) (w_k (w_var 3) (pkd_nil)))) (w_fn fx (ok_l_next g) g.m_l_next g.F_l_next.kp g.b_l_next (w_k (w_var 0) (w_k (w_int) (pkd_nil)))))))))
def e_l_hex_1 : Ev := evLc [2] (ivE (evVar 0)) (gvName 2) (tvYes) (evOp (dBin .Add) (evN (evOp dIx (evVar 1) (evOp (dBin .FloorDiv) (evVar 2) (evC (.int 16))))) (evN (evOp dIx (evVar 1) (evOp (dBin .Mod) (evVar 2) (evC (.int 16))))))
def sv_l_hex : Sv := svSeq (svSet 1 (evC (.str "0123456789abcdef"))) (svRet (evMeth isStrD mJoin (evC (.str "")) (akCons (e_l_hex_1) (akNil))))
def F_l_hex : Fn := fnSv 3 1 sv_l_hex
theorem ok_l_hex (g : Gl K mg base) : FnG P w K mg base 1 g.a_l_hex g.fd_l_hex ["_law_several"] (SpF g.C F_l_hex) :=
  Fun.okG (C := g.C) (N := N_l_hex) (sv := sv_l_hex) g.F_l_hex sc_l_hex fun cdv A outer s H E hcd hr hg O =>
    have fx := fx_of (C := g.C) hr hg
    pssd_cons (ws_set 1 sc_l_hex.nd (w_str)) (pssd_one (ws_ret (w_join fx (w_str) (w_k (w_lc [("_law_byte", 2)] fx sc_l_hex.nd (wi_e fx (w_var 0)) (blk_of (by kernel_rfl)) (fun _ _ _ _ _ fx => wg_name 2 sc_l_hex.nd) (fun _ _ _ _ _ fx => w_t0) (fun _ _ _ _ _ fx _ _ => w_bin fx .Add (w_ix fx (w_var 1) (w_bin fx .FloorDiv (w_var 2) (w_int))) (w_ix fx (w_var 1) (w_bin fx .Mod (w_var 2) (w_int))))) (pkd_nil)))))
def t_l_how_3 : Sv := svRet (evIf (tvE (evN (evOp dIx (evVar 3) (evC (.int 0))))) (evCall (Blt.run CL .repr) (akCons (evFld CL "row" (evVar 1)) (akNil))) (evC (.str "bytes")))
def t_l_how_2 : Sv := svSeq (svIf (tvOr (tvB (evOp (dCmp .NotEq) (evMeth isLstD mCount (evVar 3) (akCons (evC (.bl true)) (akNil))) (evC (.int 1)))) (tvOr (tvE (evCall (Blt.run CL .isinstance) (akCons (evVar 1) (akCons (evCls 9) (akNil))))) (tvNot (tvE (evCall (Blt.run CL .isinstance) (akCons (evVar 1) (akCons (evC (.ty "ValueError")) (akNil)))))))) (svRet (evC (.str "other"))) (svNx)) (t_l_how_3)
def t_l_how_1 : Sv := svSeq (svSet 3 (evLst (evCons (evCall (Blt.run CL .isinstance) (akCons (evVar 1) (akCons (evCls 17) (akNil)))) (evCons (evCall (Blt.run CL .isinstance) (akCons (evVar 1) (akCons (evCls 1) (akNil)))) (evNil))))) (t_l_how_2)
def svr_l_how : Sv := svSeq (svIf (tvB (evOp (dCmp .Is) (evVar 1) (evC .non))) (svRet (evC .non)) (svNx)) (t_l_how_1)
def L_l_how : LamD := ⟨4, 1, 2, 0, svr_l_how⟩
theorem get_l_how (g : Gl K mg base) (cdg : Value) (q : Str) {N' : List Str} {qual' : Str} {sc' : Scope} {f' : Addr} {cdv' : Value} {A' : Around} {outer' : List Env} {s' : Shared} {H' : Hp} {E' : XK} {W : WX} {k : Nat} (fx : Fx (cxOf (L2.CX P w) P w K mg base N' qual' sc' f' cdv' A' outer' s' H' E') g.C W k) (l : Nat) (hl : 0 ≤ l := by decide) :
    Gets (cxOf (L2.CX P w) P w K mg base N' qual' sc' f' cdv' A' outer' s' H' E') l N_l_how "_law_how" (defScope s_l_how) g.a_l_how cdg (defBody s_l_how) "_law_work" q (TTL g.C L_l_how N_l_how) :=
  w_gets fx l sc_l_how g.m_ArchiveError rfl fun s H O fx => have fx := fx.down hl; pssd_cons (ws_if (wt_cmp fx .Is (w_var 1) (w_none)) (pssd_one (ws_ret (w_none))) (pssd_nil)) (pssd_cons (ws_set 3 sc_l_how.nd (pd_lst (w_a (w_blt fx g.kc .isinstance g.z_isinstance (w_k (w_var 1) (w_k (w_cls 17 g.m_NoText) (pkd_nil)))) (w_a (w_blt fx g.kc .isinstance g.z_isinstance (w_k (w_var 1) (w_k (w_cls 1 g.m_NoBytes) (pkd_nil)))) (w_a0))))) (pssd_cons (ws_if (PWD.pt (pwd_or (wt_cmp fx .NotEq (w_count fx (w_var 3) (w_k (w_bool) (pkd_nil))) (w_int)) (pwd_or (wt_e fx (w_blt fx g.kc .isinstance g.z_isinstance (w_k (w_var 1) (w_k (w_cls 9 g.m_NoFile) (pkd_nil))))) (pwd_or1 (ptd_not (wt_e fx (w_blt fx g.kc .isinstance g.z_isinstance (w_k (w_var 1) (w_k (w_ty "ValueError" rfl g.z_ValueError) (pkd_nil)))))))))) (pssd_one (ws_ret (w_str))) (pssd_nil)) (pssd_one (ws_ret (w_ifExp (wt_e fx (w_ix fx (w_var 3) (w_int))) (w_blt fx g.kc .repr g.z_repr (w_k (w_fld fx g.kc (w_var 1)) (pkd_nil))) (w_str))))))
def e_l_due_1 : Ev := evLc [2] (ivE (evVar 0)) (gvName 2) (tvB (evOp (dCmp .NotIn) (evVar 2) (evVar 1))) (evVar 2)
def e_l_due_2 : Ev := evLc [4] (ivR1 (akCons (evOp (dBin .FloorDiv) (evCall (Blt.run CL .len) (akCons (evVar 0) (akNil))) (evC (.int 2))) (akNil))) (gvName 4) (tvYes) (evSl (evVar 0) (pvSome (evOp (dBin .Mult) (evC (.int 2)) (evVar 4))) (pvSome (evOp (dBin .Add) (evOp (dBin .Mult) (evC (.int 2)) (evVar 4)) (evC (.int 2)))))
def e_l_due_3 : Ev := evLc [5] (ivE (evVar 3)) (gvName 5) (tvYes) (evOp (dBin .Add) (evOp (dBin .Mult) (evC (.int 16)) (evMeth isStrD mSindex (evVar 1) (akCons (evN (evOp dIx (evVar 5) (evC (.int 0)))) (akNil)))) (evMeth isStrD mSindex (evVar 1) (akCons (evN (evOp dIx (evVar 5) (evC (.int 1)))) (akNil))))
def t_l_due_3 : Sv := svRet (e_l_due_3)
def t_l_due_2 : Sv := svSeq (svSet 3 (e_l_due_2)) (t_l_due_3)
def t_l_due_1 : Sv := svSeq (svIf (tvOr (tvB (evOp (dCmp .Eq) (evOp (dBin .Mod) (evCall (Blt.run CL .len) (akCons (evVar 0) (akNil))) (evC (.int 2))) (evC (.int 1)))) (tvB (evOp (dCmp .NotEq) (e_l_due_1) (evLst (evNil))))) (svRet (evC .non)) (svNx)) (t_l_due_2)
def sv_l_due : Sv := svSeq (svSet 1 (evC (.str "0123456789abcdef"))) (t_l_due_1)
def F_l_due : Fn := fnSv 6 1 sv_l_due
theorem ok_l_due (g : Gl K mg base) : FnG P w K mg base 1 g.a_l_due g.fd_l_due ["_law_page"] (SpF g.C F_l_due) :=
  Fun.okG (C := g.C) (N := N_l_due) (sv := sv_l_due) g.F_l_due sc_l_due fun cdv A outer s H E hcd hr hg O =>
    have fx := fx_of (C := g.C) hr hg
    pssd_cons (ws_set 1 sc_l_due.nd (w_str)) (pssd_cons (ws_if (PWD.pt (pwd_or (wt_cmp fx .Eq (w_bin fx .Mod (w_blt fx g.kc .len g.z_len (w_k (w_var 0) (pkd_nil))) (w_int)) (w_int)) (pwd_or1 (wt_cmp fx .NotEq (w_lc [("_law_sign", 2)] fx sc_l_due.nd (wi_e fx (w_var 0)) (blk_of (by kernel_rfl)) (fun _ _ _ _ _ fx => wg_name 2 sc_l_due.nd) (fun _ _ _ _ _ fx => w_t1 fun _ _ => wt_cmp fx .NotIn (w_var 2) (w_var 1)) (fun _ _ _ _ _ fx _ _ => w_var 2)) (pd_lst (w_a0)))))) (pssd_one (ws_ret (w_none))) (pssd_nil)) (pssd_cons (ws_setLc 3 [("_law_k", 4)] fx sc_l_due.nd (wi_r1 g.z_range (w_k (w_bin fx .FloorDiv (w_blt fx g.kc .len g.z_len (w_k (w_var 0) (pkd_nil))) (w_int)) (pkd_nil))) (blk_of (by kernel_rfl)) (fun _ _ _ _ _ fx => wg_name 4 sc_l_due.nd) (fun _ _ _ _ _ fx => w_t0) (fun _ _ _ _ _ fx _ _ => pd_slice fx.K (w_var 0) (pod_some (w_bin fx .Mult (w_int) (w_var 4))) (pod_some (w_bin fx .Add (w_bin fx .Mult (w_int) (w_var 4)) (w_int)))) (sw_true rfl rfl rfl rfl)) (pssd_one (ws_ret (w_lc [("_law_pair", 5)] fx sc_l_due.nd (wi_e fx (w_var 3)) (blk_of (by kernel_rfl)) (fun _ _ _ _ _ fx => wg_name 5 sc_l_due.nd) (fun _ _ _ _ _ fx => w_t0) (fun _ _ _ _ _ fx _ _ => w_bin fx .Add (w_bin fx .Mult (w_int) (w_sindex fx (w_var 1) (w_k (w_ix fx (w_var 5) (w_int)) (pkd_nil)))) (w_sindex fx (w_var 1) (w_k (w_ix fx (w_var 5) (w_int)) (pkd_nil)))))))))
def t_l_bent_3 : Sv := svRet (evOp (dBin .Add) (evOp (dBin .Add) (evSl (evVar 1) (pvNone) (pvSome (evVar 3))) (evN (evOp dIx (evLst (evCons (evC (.str "")) (evCons (evVar 4) (evCons (evVar 4) (evNil))))) (evVar 2)))) (evSl (evVar 1) (pvSome (evOp (dBin .Add) (evVar 3) (evCall (Blt.run CL .int) (akCons (evOp (dCmp .NotEq) (evVar 2) (evC (.int 1))) (akNil))))) (pvNone)))
def t_l_bent_2 : Sv := svSeq (svIf (tvB (evOp (dCmp .Eq) (evVar 2) (evC (.int 3)))) (svRet (evMeth isStrD mUpper (evVar 1) akNil)) (svNx)) (t_l_bent_3)
def t_l_bent_1 : Sv := svSeq (svSet 4 (evN (evFn F_l_pick (akCons (evVar 0) (akCons (evC (.str "0123456789abcdefABFgxz -_+.,")) (akNil)))))) (t_l_bent_2)
def sv_l_bent : Sv := svSeq (svThen (svPar 2 (evN (evFn F_l_next (akCons (evVar 0) (akCons (evC (.int 4)) (akNil))))) (svPar 3 (evN (evFn F_l_next (akCons (evVar 0) (akCons (evOp (dBin .Add) (evCall (Blt.run CL .len) (akCons (evVar 1) (akNil))) (evC (.int 1))) (akNil))))) (svNx)))) (t_l_bent_1)
def F_l_bent : Fn := fnSv 5 2 sv_l_bent
theorem ok_l_bent (g : Gl K mg base) : FnG P w K mg base 3 g.a_l_bent g.fd_l_bent ["_law_draw", "_law_page"] (SpF g.C F_l_bent) :=
  Fun.okG (C := g.C) (N := N_l_bent) (sv := sv_l_bent) g.F_l_bent sc_l_bent fun cdv A outer s H E hcd hr hg O =>
    have fx := fx_of (C := g.C) hr hg
    pssd_cons (ws_par 2 3 fx sc_l_bent.nd (fun O H0 => w_fn fx (ok_l_next g) g.m_l_next g.F_l_next.kp g.b_l_next (w_k (w_var 0) (w_k (w_int) (pkd_nil)))) (fun O H0 => w_fn fx (ok_l_next g) g.m_l_next g.F_l_next.kp g.b_l_next (w_k (w_var 0) (w_k (w_bin fx .Add (w_blt fx g.kc .len g.z_len (w_k (w_var 1) (pkd_nil))) (w_int)) (pkd_nil))))) (pssd_cons (ws_set 4 sc_l_bent.nd (w_fn fx (ok_l_pick g) g.m_l_pick g.F_l_pick.kp g.b_l_pick (w_k (w_var 0) (w_k (w_str) (pkd_nil))))) (pssd_cons (ws_if (wt_cmp fx .Eq (w_var 2) (w_int)) (pssd_one (ws_ret (w_upper fx (w_var 1)))) (pssd_nil)) (pssd_one (ws_ret (w_bin fx .Add (w_bin fx .Add (pd_slice fx.K (w_var 1) (pod_none) (pod_some (w_var 3))) (w_ix fx (pd_lst (w_a (w_str) (w_a (w_var 4) (w_a (w_var 4) (w_a0))))) (w_var 2))) (pd_slice fx.K (w_var 1) (pod_some (w_bin fx .Add (w_var 3) (w_blt fx g.kc .int g.z_int (w_k (w_cmp fx .NotEq (w_var 2) (w_int)) (pkd_nil))))) (pod_none)))))))
def b_law_1 : Sv := svSet 5 (evN (evFn F_l_bent (akCons (evVar 1) (akCons (evVar 5) (akNil)))))
def u2_law_14 : Sv := svIf (tvB (evOp (dCmp .NotEq) (evLam CL L_l_how (evN (evFn F_bytes_text (akCons (evVar 10) (akNil))))) (evC (.str "bytes")))) (svRet (evC (.bl false))) (svNx)
def u2_law_13 : Sv := svSeq (svIf (tvB (evOp (dCmp .NotEq) (evLam CL L_l_how (evN (evFn F_read_bytes (akCons (evVar 8) (akNil))))) (evC (.str "0")))) (svRet (evC (.bl false))) (svNx)) (u2_law_14)
def u2_law_12 : Sv := svSeq (svSet 10 (evN (evFn F_l_pick (akCons (evVar 1) (akCons (evOp (dBin .Add) (evVar 9) (evLst (evCons (evN (evFn F_Entry_init (akArr [0, 1, 2, 3] 2 0 [.tup k_FIRST_TIME, .str ""] (akCons (evC (.str "a")) (akCons (evLst (evCons (evC (.int 1)) (evNil))) (akNil))) (akNil)))) (evNil)))) (akNil)))))) (u2_law_13)
def u2_law_11 : Sv := svSeq (svSet 9 (evLst (evCons (evC .non) (evCons (evC (.int 5)) (evCons (evC (.bl true)) (evCons (evC (.str "00")) (evCons (evC (.str "")) (evCons (evDct dvNil) (evCons (evLst (evCons (evC (.int 256)) (evNil))) (evCons (evLst (evCons (evNeg (evC (.int 1))) (evNil))) (evCons (evLst (evCons (evC (.bl true)) (evNil))) (evCons (evLst (evCons (evC .non) (evNil))) (evCons (evLst (evCons (evC (.str "0")) (evNil))) (evCons (evLst (evCons (evLst (evCons (evC (.int 0)) (evNil))) (evNil))) (evCons (evTup (evCons (evC (.int 0)) (evCons (evC (.int 300)) (evNil)))) (evNil)))))))))))))))) (u2_law_12)
def u2_law_10 : Sv := svSeq (svSet 8 (evN (evFn F_l_pick (akCons (evVar 1) (akCons (evLst (evCons (evC .non) (evCons (evC (.int 5)) (evCons (evC (.bl true)) (evCons (evLst (evNil)) (evCons (evTup (evNil)) (evCons (evDct dvNil) (evCons (evLst (evCons (evC (.int 48)) (evCons (evC (.int 48)) (evNil)))) (evCons (evTup (evCons (evC (.str "00")) (evNil))) (evCons (evN (evFn F_Entry_init (akArr [0, 1, 2, 3] 2 0 [.tup k_FIRST_TIME, .str ""] (akCons (evC (.str "a")) (akCons (evLst (evCons (evC (.int 1)) (evNil))) (akNil))) (akNil)))) (evNil))))))))))) (akNil)))))) (u2_law_11)
def u2_law_9 : Sv := svSeq (svIf (tvOr (tvAnd (tvB (evOp (dCmp .Is) (evVar 7) (evC .non))) (tvB (evOp (dCmp .NotEq) (evLam CL L_l_how (evN (evFn F_read_bytes (akCons (evVar 5) (akNil))))) (evC (.str "0"))))) (tvAnd (tvB (evOp (dCmp .IsNot) (evVar 7) (evC .non))) (tvB (evOp (dCmp .NotEq) (evN (evFn F_read_bytes (akCons (evVar 5) (akNil)))) (evVar 7))))) (svRet (evC (.bl false))) (svNx)) (u2_law_10)
def u2_law_8 : Sv := svSeq (svSet 7 (evN (evFn F_l_due (akCons (evVar 5) (akNil))))) (u2_law_9)
def u2_law_7 : Sv := svSeq (svFor (ivR1 (akCons (evOp (dBin .Add) (evC (.int 1)) (evN (evFn F_l_next (akCons (evVar 1) (akCons (evC (.int 3)) (akNil)))))) (akNil))) (gvName 6) (b_law_1)) (u2_law_8)
def u2_law_6 : Sv := svSeq (svSet 5 (evSl (evVar 4) (pvNone) (pvSome (evOp (dBin .Mult) (evC (.int 2)) (evN (evFn F_l_next (akCons (evVar 1) (akCons (evC (.int 20)) (akNil))))))))) (u2_law_7)
def u2_law_5 : Sv := svSeq (svIf (tvB (evOp (dCmp .NotEq) (evN (evFn F_read_bytes (akPerm [0] (akCons (evVar 4) (akNil))))) (evVar 3))) (svRet (evC (.bl false))) (svNx)) (u2_law_6)
def u2_law_4 : Sv := svSeq (svAppT (evN (evFn F_read_bytes (akCons (evVar 4) (akNil)))) (evC (.int 0))) (u2_law_5)
def u2_law_3 : Sv := svSeq (svIf (tvB (evOp (dCmp .NotEq) (evCall (Blt.run CL .repr) (akCons (evN (evFn F_read_bytes (akCons (evVar 4) (akNil)))) (akNil))) (evCall (Blt.run CL .repr) (akCons (evVar 3) (akNil))))) (svRet (evC (.bl false))) (svNx)) (u2_law_4)
def u2_law_2 : Sv := svSeq (svIf (tvOr (tvB (evOp (dCmp .NotEq) (evN (evFn F_bytes_text (akCons (evVar 3) (akNil)))) (evVar 4))) (tvB (evOp (dCmp .NotEq) (evN (evFn F_bytes_text (akPerm [0] (akCons (evCall (Blt.run CL .tuple) (akCons (evVar 3) (akNil))) (akNil))))) (evVar 4)))) (svRet (evC (.bl false))) (svNx)) (u2_law_3)
def u2_law_1 : Sv := svSeq (svSet 4 (evN (evFn F_l_hex (akCons (evVar 3) (akNil))))) (u2_law_2)
def b_law_16 : Sv := svSeq (svSet 3 (evIf (tvB (evOp (dCmp .Gt) (evN (evFn F_l_next (akCons (evVar 1) (akCons (evC (.int 6)) (akNil))))) (evC (.int 0)))) (evN (evFn F_l_some (akCons (evVar 1) (akCons (evC (.int 100)) (akCons (evC (.bl true)) (akNil)))))) (evLR1 (evC (.int 256))))) (u2_law_1)
def t_law_2 : Sv := svRet (evAnd (evOp (dCmp .Eq) (evN (evFn F_bytes_text (akCons (evLst (evNil)) (akNil)))) (evC (.str ""))) (evOp (dCmp .Eq) (evN (evFn F_read_bytes (akCons (evC (.str "")) (akNil)))) (evLst (evNil))))
def t_law_1 : Sv := svSeq (svFor (ivR1 (akCons (evCall (Blt.run CL .max) (akCons (evC (.int 2)) (akCons (evCall (Blt.run CL .min) (akCons (evC (.int 8)) (akCons (evCall (Blt.run CL .len) (akCons (evVar 0) (akNil))) (akNil)))) (akNil)))) (akNil))) (gvName 2) (b_law_16)) (t_law_2)
def sv_law : Sv := svSeq (svSet 1 (evN (evFn F_l_begun (akCons (evVar 0) (akNil))))) (t_law_1)
def F_law : Fn := fnSv 11 1 sv_law
theorem ok_law (g : Gl K mg base) : FnG P w K mg base 7 g.a_law g.fd_law ["_law_script"] (SpF g.C F_law) :=
  Fun.okG (C := g.C) (N := N_law) (sv := sv_law) g.F_law sc_law fun cdv A outer s H E hcd hr hg O =>
    have fx := fx_of (C := g.C) hr hg
    pssd_cons (ws_set 1 sc_law.nd (w_fn fx (ok_l_begun g) g.m_l_begun g.F_l_begun.kp g.b_l_begun (w_k (w_var 0) (pkd_nil)))) (pssd_cons (ws_for fx pas_of (wi_r1 g.z_range (w_k (w_blt fx g.kc .max g.z_max (w_k (w_int) (w_k (w_blt fx g.kc .min g.z_min (w_k (w_int) (w_k (w_blt fx g.kc .len g.z_len (w_k (w_var 0) (pkd_nil))) (pkd_nil)))) (pkd_nil)))) (pkd_nil))) (wg_name 2 sc_law.nd) (f := b_law_16) (pssd_cons (ws_set 3 sc_law.nd (w_ifExp (wt_cmp fx .Gt (w_fn fx (ok_l_next g) g.m_l_next g.F_l_next.kp g.b_l_next (w_k (w_var 1) (w_k (w_int) (pkd_nil)))) (w_int)) (w_fn fx (ok_l_some g) g.m_l_some g.F_l_some.kp g.b_l_some (w_k (w_var 1) (w_k (w_int) (w_k (w_bool) (pkd_nil))))) (w_lr1 fx g.z_list g.z_range (w_int)))) (pssd_cons (ws_set 4 sc_law.nd (w_fn fx (ok_l_hex g) g.m_l_hex g.F_l_hex.kp g.b_l_hex (w_k (w_var 3) (pkd_nil)))) (pssd_cons (ws_if (PWD.pt (pwd_or (wt_cmp fx .NotEq (w_fn fx (ok_bytes_text g) g.m_bytes_text g.F_bytes_text.kp g.b_bytes_text (w_k (w_var 3) (pkd_nil))) (w_var 4)) (pwd_or1 (wt_cmp fx .NotEq (w_fnW [0] ["some"] fx (ok_bytes_text g) g.m_bytes_text g.F_bytes_text.kp g.kb_bytes_text_0 (pwkd_cons (w_blt fx g.kc .tuple g.z_tuple (w_k (w_var 3) (pkd_nil))) (pwkd_nil))) (w_var 4))))) (pssd_one (ws_ret (w_bool))) (pssd_nil)) (pssd_cons (ws_if (wt_cmp fx .NotEq (w_blt fx g.kc .repr g.z_repr (w_k (w_fn fx (ok_read_bytes g) g.m_read_bytes g.F_read_bytes.kp g.b_read_bytes (w_k (w_var 4) (pkd_nil))) (pkd_nil))) (w_blt fx g.kc .repr g.z_repr (w_k (w_var 3) (pkd_nil)))) (pssd_one (ws_ret (w_bool))) (pssd_nil)) (pssd_cons (ws_appT fx (w_fn fx (ok_read_bytes g) g.m_read_bytes g.F_read_bytes.kp g.b_read_bytes (w_k (w_var 4) (pkd_nil))) (w_int)) (pssd_cons (ws_if (wt_cmp fx .NotEq (w_fnW [0] ["text"] fx (ok_read_bytes g) g.m_read_bytes g.F_read_bytes.kp g.kb_read_bytes_0 (pwkd_cons (w_var 4) (pwkd_nil))) (w_var 3)) (pssd_one (ws_ret (w_bool))) (pssd_nil)) (pssd_cons (ws_set 5 sc_law.nd (pd_slice fx.K (w_var 4) (pod_none) (pod_some (w_bin fx .Mult (w_int) (w_fn fx (ok_l_next g) g.m_l_next g.F_l_next.kp g.b_l_next (w_k (w_var 1) (w_k (w_int) (pkd_nil)))))))) (pssd_cons (ws_for fx pas_of (wi_r1 g.z_range (w_k (w_bin fx .Add (w_int) (w_fn fx (ok_l_next g) g.m_l_next g.F_l_next.kp g.b_l_next (w_k (w_var 1) (w_k (w_int) (pkd_nil))))) (pkd_nil))) (wg_name 6 sc_law.nd) (f := b_law_1) (pssd_one (ws_set 5 sc_law.nd (w_fn fx (ok_l_bent g) g.m_l_bent g.F_l_bent.kp g.b_l_bent (w_k (w_var 1) (w_k (w_var 5) (pkd_nil))))))) (pssd_cons (ws_set 7 sc_law.nd (w_fn fx (ok_l_due g) g.m_l_due g.F_l_due.kp g.b_l_due (w_k (w_var 5) (pkd_nil)))) (pssd_cons (ws_if (PWD.pt (pwd_or (PWD.pt (pwd_and (wt_cmp fx .Is (w_var 7) (w_none)) (pwd_and1 (wt_cmp fx .NotEq (w_lam 3 fx g.kc g.F_l_how g.m_l_how g.b_l_how sc_l_how rfl (fun cdv => get_l_how g cdv _ fx 4) g.tb_law (hcd.symm.trans g.cd_law) g.tm_law g.tu_law (fun A outer s H E f c' fx O H0 => w_fn fx (ok_read_bytes g) g.m_read_bytes g.F_read_bytes.kp g.b_read_bytes (w_k (w_var 5) (pkd_nil)))) (w_str))))) (pwd_or1 (PWD.pt (pwd_and (wt_cmp fx .IsNot (w_var 7) (w_none)) (pwd_and1 (wt_cmp fx .NotEq (w_fn fx (ok_read_bytes g) g.m_read_bytes g.F_read_bytes.kp g.b_read_bytes (w_k (w_var 5) (pkd_nil))) (w_var 7)))))))) (pssd_one (ws_ret (w_bool))) (pssd_nil)) (pssd_cons (ws_set 8 sc_law.nd (w_fn fx (ok_l_pick g) g.m_l_pick g.F_l_pick.kp g.b_l_pick (w_k (w_var 1) (w_k (pd_lst (w_a (w_none) (w_a (w_int) (w_a (w_bool) (w_a (pd_lst (w_a0)) (w_a (pd_tup (w_a0)) (w_a (pd_dct0) (w_a (pd_lst (w_a (w_int) (w_a (w_int) (w_a0)))) (w_a (pd_tup (w_a (w_str) (w_a0))) (w_a (w_mk 2 [] [0, 1, 2, 3] [.tup k_FIRST_TIME, .str ""] 20 fx g.mk_Entry (ok_Entry_init g) g.m_Entry g.bn_Entry_init_1 (cwd_a (w_k (w_str) (w_k (pd_lst (w_a (w_int) (w_a0))) (pkd_nil))))) (w_a0))))))))))) (pkd_nil))))) (pssd_cons (ws_set 9 sc_law.nd (pd_lst (w_a (w_none) (w_a (w_int) (w_a (w_bool) (w_a (w_str) (w_a (w_str) (w_a (pd_dct0) (w_a (pd_lst (w_a (w_int) (w_a0))) (w_a (pd_lst (w_a (pd_neg (w_int)) (w_a0))) (w_a (pd_lst (w_a (w_bool) (w_a0))) (w_a (pd_lst (w_a (w_none) (w_a0))) (w_a (pd_lst (w_a (w_str) (w_a0))) (w_a (pd_lst (w_a (pd_lst (w_a (w_int) (w_a0))) (w_a0))) (w_a (pd_tup (w_a (w_int) (w_a (w_int) (w_a0)))) (w_a0)))))))))))))))) (pssd_cons (ws_set 10 sc_law.nd (w_fn fx (ok_l_pick g) g.m_l_pick g.F_l_pick.kp g.b_l_pick (w_k (w_var 1) (w_k (w_bin fx .Add (w_var 9) (pd_lst (w_a (w_mk 2 [] [0, 1, 2, 3] [.tup k_FIRST_TIME, .str ""] 20 fx g.mk_Entry (ok_Entry_init g) g.m_Entry g.bn_Entry_init_1 (cwd_a (w_k (w_str) (w_k (pd_lst (w_a (w_int) (w_a0))) (pkd_nil))))) (w_a0)))) (pkd_nil))))) (pssd_cons (ws_if (wt_cmp fx .NotEq (w_lam 3 fx g.kc g.F_l_how g.m_l_how g.b_l_how sc_l_how rfl (fun cdv => get_l_how g cdv _ fx 4) g.tb_law (hcd.symm.trans g.cd_law) g.tm_law g.tu_law (fun A outer s H E f c' fx O H0 => w_fn fx (ok_read_bytes g) g.m_read_bytes g.F_read_bytes.kp g.b_read_bytes (w_k (w_var 8) (pkd_nil)))) (w_str)) (pssd_one (ws_ret (w_bool))) (pssd_nil)) (pssd_one (ws_if (wt_cmp fx .NotEq (w_lam 3 fx g.kc g.F_l_how g.m_l_how g.b_l_how sc_l_how rfl (fun cdv => get_l_how g cdv _ fx 4) g.tb_law (hcd.symm.trans g.cd_law) g.tm_law g.tu_law (fun A outer s H E f c' fx O H0 => w_fn fx (ok_bytes_text g) g.m_bytes_text g.F_bytes_text.kp g.b_bytes_text (w_k (w_var 10) (pkd_nil)))) (w_str)) (pssd_one (ws_ret (w_bool))) (pssd_nil)))))))))))))))))) (pssd_one (ws_ret (w_and fx (w_cmp fx .Eq (w_fn fx (ok_bytes_text g) g.m_bytes_text g.F_bytes_text.kp g.b_bytes_text (w_k (pd_lst (w_a0)) (pkd_nil))) (w_str)) (pd_one (w_cmp fx .Eq (w_fn fx (ok_read_bytes g) g.m_read_bytes g.F_read_bytes.kp g.b_read_bytes (w_k (w_str) (pkd_nil))) (pd_lst (w_a0))))))))
end
end Law

/-! ### the end -/
namespace Law
open PySem L2 PyProof.Rows D
theorem all_mk {l : PySem.W.OpenLaw} {q : Program} {w : World} {K : PySem.W.Frag} {h : Heap} {mg : Str → Option Value} {fa : Addr} (X : K.In h) (G : h.Ns mainGlobals mg) (hfa : mg "law" = some (.ref fa))
    {x_ArchiveError : Addr} (e_ArchiveError : PySem.W.nsIn K mainGlobals "ArchiveError" = some (some (.ref x_ArchiveError)))
    {x_NoBytes : Addr} (e_NoBytes : PySem.W.nsIn K mainGlobals "NoBytes" = some (some (.ref x_NoBytes)))
    {x_NoTime : Addr} (e_NoTime : PySem.W.nsIn K mainGlobals "NoTime" = some (some (.ref x_NoTime)))
    {x_NoName : Addr} (e_NoName : PySem.W.nsIn K mainGlobals "NoName" = some (some (.ref x_NoName)))
    {x_NoComment : Addr} (e_NoComment : PySem.W.nsIn K mainGlobals "NoComment" = some (some (.ref x_NoComment)))
    {x_NoData : Addr} (e_NoData : PySem.W.nsIn K mainGlobals "NoData" = some (some (.ref x_NoData)))
    {x_NoFile : Addr} (e_NoFile : PySem.W.nsIn K mainGlobals "NoFile" = some (some (.ref x_NoFile)))
    {x_NoText : Addr} (e_NoText : PySem.W.nsIn K mainGlobals "NoText" = some (some (.ref x_NoText)))
    {x_Entry : Addr} (e_Entry : PySem.W.nsIn K mainGlobals "Entry" = some (some (.ref x_Entry)))
    (pg_Entry : PySem.W.plainGet K x_Entry Str.empty = true) (hd_Entry : PySem.W.hasDictIn K x_Entry = true) (po_Entry : PySem.W.plainOver K x_Entry = true) (sa_Entry : PySem.W.findIn K (.ref x_Entry) "__setattr__" = some (some (.builtin "object.__setattr__")))
    (mk_Entry : PySem.W.makesIn K x_Entry = true) (ck_Entry : PySem.W.keepIn K (.ref x_Entry) = true)
    (nf_Entry_name : PySem.W.findIn K (.ref x_Entry) "name" = some none)
    (nf_Entry_own_data : PySem.W.findIn K (.ref x_Entry) "own_data" = some none)
    (nf_Entry_time : PySem.W.findIn K (.ref x_Entry) "time" = some none)
    (nf_Entry_comment : PySem.W.findIn K (.ref x_Entry) "comment" = some none)
    (nf_Entry_own_check : PySem.W.findIn K (.ref x_Entry) "own_check" = some none)
    {nm_NoText qn_NoText : Str} {N_NoText : Addr} {bs_NoText bm_NoText : List Value} {sn_NoText : List Str} {su_NoText : List Value} {ab_NoText : Bool} {co_NoText : Option Bool} {dd_NoText : Option Addr} {k0_NoText k1_NoText k2_NoText k3_NoText k5_NoText : Option Value} (lo_NoText : K.lookup x_NoText = some (excClassObj nm_NoText qn_NoText x_NoText N_NoText bs_NoText bm_NoText true sn_NoText su_NoText ab_NoText co_NoText dd_NoText k0_NoText k1_NoText k2_NoText k3_NoText k5_NoText "ValueError.__new__")) (bv_NoText : PySem.HandSPX.refsVE bm_NoText = true)
    (sx_NoText : PySem.W.findIn K (.ref x_NoText) "__setattr__" = some (some (.builtin "object.__setattr__"))) (xx_NoText : PySem.W.subIn K (.ref x_NoText) (.type "BaseException") = some true) (xt_NoText : PySem.W.typeIn K (.ref x_NoText) = some (.type "type")) (xk_NoText : PySem.W.keepIn K (.ref x_NoText) = true)
    (rd_AE : PySem.W.readsIn K x_ArchiveError (.type "type") = true) (rg_AE : PySem.W.specialIn K (.ref x_ArchiveError) "__getattribute__" = some (some (.builtin "type.__getattribute__"))) (vv_AE : PySem.W.findCls K (.ref x_ArchiveError) (.type "type") "__init__" = some (.val (.builtin "ValueError.__init__")))
    (kcB : kitCB K (clsOf [(0, x_ArchiveError), (1, x_NoBytes), (3, x_NoTime), (4, x_NoName), (5, x_NoComment), (6, x_NoData), (9, x_NoFile), (17, x_NoText), (20, x_Entry)]) CL = true)
    {f_NoText_init : Addr} {od_NoText_init an_NoText_init : Option Addr} {sl_NoText_init : Array (Option Value)} {oc_NoText_init kV_NoText_init dc_NoText_init pm_NoText_init ct_NoText_init : Value}
    {cd_NoText_init : Value}
    (a_NoText_init : PySem.W.findIn K (.ref x_NoText) "__init__" = some (some (.ref f_NoText_init)))
    (tx_NoText_init : PySem.W.typeIn K (.ref f_NoText_init) = some (.type "function"))
    (l_NoText_init : K.lookup f_NoText_init = some ⟨oc_NoText_init, od_NoText_init, .func (PySem.W.fnOf "__init__" "NoText.__init__" (defArgs s_NoText_init) (defBody s_NoText_init) (defScope s_NoText_init) .none kV_NoText_init dc_NoText_init pm_NoText_init an_NoText_init cd_NoText_init ct_NoText_init), sl_NoText_init⟩)
    (c_NoText_init : PySem.W.codeIn K cd_NoText_init "NoText.__init__" = true) (k_NoText_init : PySem.W.keepIn K (.ref f_NoText_init) = true)
    {f_is_number : Addr} {od_is_number an_is_number : Option Addr} {sl_is_number : Array (Option Value)} {oc_is_number kV_is_number dc_is_number pm_is_number ct_is_number : Value}
    {cd_is_number : Value}
    (a_is_number : PySem.W.nsIn K mainGlobals "is_number" = some (some (.ref f_is_number)))
    (l_is_number : K.lookup f_is_number = some ⟨oc_is_number, od_is_number, .func (PySem.W.fnOf "is_number" "is_number" (defArgs s_is_number) (defBody s_is_number) (defScope s_is_number) .none kV_is_number dc_is_number pm_is_number an_is_number cd_is_number ct_is_number), sl_is_number⟩)
    (c_is_number : PySem.W.codeIn K cd_is_number "is_number" = true) (k_is_number : PySem.W.keepIn K (.ref f_is_number) = true)
    {f_is_bytes : Addr} {od_is_bytes an_is_bytes : Option Addr} {sl_is_bytes : Array (Option Value)} {oc_is_bytes kV_is_bytes dc_is_bytes pm_is_bytes ct_is_bytes : Value}
    {cd_is_bytes : Value}
    (a_is_bytes : PySem.W.nsIn K mainGlobals "is_bytes" = some (some (.ref f_is_bytes)))
    (l_is_bytes : K.lookup f_is_bytes = some ⟨oc_is_bytes, od_is_bytes, .func (PySem.W.fnOf "is_bytes" "is_bytes" (defArgs s_is_bytes) (defBody s_is_bytes) (defScope s_is_bytes) .none kV_is_bytes dc_is_bytes pm_is_bytes an_is_bytes cd_is_bytes ct_is_bytes), sl_is_bytes⟩)
    (c_is_bytes : PySem.W.codeIn K cd_is_bytes "is_bytes" = true) (k_is_bytes : PySem.W.keepIn K (.ref f_is_bytes) = true)
    {f_need_bytes : Addr} {od_need_bytes an_need_bytes : Option Addr} {sl_need_bytes : Array (Option Value)} {oc_need_bytes kV_need_bytes dc_need_bytes pm_need_bytes ct_need_bytes : Value}
    {cd_need_bytes : Value}
    (a_need_bytes : PySem.W.nsIn K mainGlobals "need_bytes" = some (some (.ref f_need_bytes)))
    (l_need_bytes : K.lookup f_need_bytes = some ⟨oc_need_bytes, od_need_bytes, .func (PySem.W.fnOf "need_bytes" "need_bytes" (defArgs s_need_bytes) (defBody s_need_bytes) (defScope s_need_bytes) .none kV_need_bytes dc_need_bytes pm_need_bytes an_need_bytes cd_need_bytes ct_need_bytes), sl_need_bytes⟩)
    (c_need_bytes : PySem.W.codeIn K cd_need_bytes "need_bytes" = true) (k_need_bytes : PySem.W.keepIn K (.ref f_need_bytes) = true)
    {f_forward : Addr} {od_forward an_forward : Option Addr} {sl_forward : Array (Option Value)} {oc_forward kV_forward dc_forward pm_forward ct_forward : Value}
    {cd_forward : Value}
    (a_forward : PySem.W.nsIn K mainGlobals "forward" = some (some (.ref f_forward)))
    (l_forward : K.lookup f_forward = some ⟨oc_forward, od_forward, .func (PySem.W.fnOf "forward" "forward" (defArgs s_forward) (defBody s_forward) (defScope s_forward) .none kV_forward dc_forward pm_forward an_forward cd_forward ct_forward), sl_forward⟩)
    (c_forward : PySem.W.codeIn K cd_forward "forward" = true) (k_forward : PySem.W.keepIn K (.ref f_forward) = true)
    {f_check : Addr} {od_check an_check : Option Addr} {sl_check : Array (Option Value)} {oc_check kV_check dc_check pm_check ct_check : Value}
    {cd_check : Value}
    (a_check : PySem.W.nsIn K mainGlobals "check" = some (some (.ref f_check)))
    (l_check : K.lookup f_check = some ⟨oc_check, od_check, .func (PySem.W.fnOf "check" "check" (defArgs s_check) (defBody s_check) (defScope s_check) .none kV_check dc_check pm_check an_check cd_check ct_check), sl_check⟩)
    (c_check : PySem.W.codeIn K cd_check "check" = true) (k_check : PySem.W.keepIn K (.ref f_check) = true)
    {f_is_printable : Addr} {od_is_printable an_is_printable : Option Addr} {sl_is_printable : Array (Option Value)} {oc_is_printable kV_is_printable dc_is_printable pm_is_printable ct_is_printable : Value}
    {cd_is_printable : Value}
    (a_is_printable : PySem.W.nsIn K mainGlobals "is_printable" = some (some (.ref f_is_printable)))
    (l_is_printable : K.lookup f_is_printable = some ⟨oc_is_printable, od_is_printable, .func (PySem.W.fnOf "is_printable" "is_printable" (defArgs s_is_printable) (defBody s_is_printable) (defScope s_is_printable) .none kV_is_printable dc_is_printable pm_is_printable an_is_printable cd_is_printable ct_is_printable), sl_is_printable⟩)
    (c_is_printable : PySem.W.codeIn K cd_is_printable "is_printable" = true) (k_is_printable : PySem.W.keepIn K (.ref f_is_printable) = true)
    {f_is_text : Addr} {od_is_text an_is_text : Option Addr} {sl_is_text : Array (Option Value)} {oc_is_text kV_is_text dc_is_text pm_is_text ct_is_text : Value}
    {cd_is_text : Value}
    (a_is_text : PySem.W.nsIn K mainGlobals "is_text" = some (some (.ref f_is_text)))
    (l_is_text : K.lookup f_is_text = some ⟨oc_is_text, od_is_text, .func (PySem.W.fnOf "is_text" "is_text" (defArgs s_is_text) (defBody s_is_text) (defScope s_is_text) .none kV_is_text dc_is_text pm_is_text an_is_text cd_is_text ct_is_text), sl_is_text⟩)
    (c_is_text : PySem.W.codeIn K cd_is_text "is_text" = true) (k_is_text : PySem.W.keepIn K (.ref f_is_text) = true)
    {f_is_name : Addr} {od_is_name an_is_name : Option Addr} {sl_is_name : Array (Option Value)} {oc_is_name kV_is_name dc_is_name pm_is_name ct_is_name : Value}
    {cd_is_name : Value}
    (a_is_name : PySem.W.nsIn K mainGlobals "is_name" = some (some (.ref f_is_name)))
    (l_is_name : K.lookup f_is_name = some ⟨oc_is_name, od_is_name, .func (PySem.W.fnOf "is_name" "is_name" (defArgs s_is_name) (defBody s_is_name) (defScope s_is_name) .none kV_is_name dc_is_name pm_is_name an_is_name cd_is_name ct_is_name), sl_is_name⟩)
    (c_is_name : PySem.W.codeIn K cd_is_name "is_name" = true) (k_is_name : PySem.W.keepIn K (.ref f_is_name) = true)
    {f_is_comment : Addr} {od_is_comment an_is_comment : Option Addr} {sl_is_comment : Array (Option Value)} {oc_is_comment kV_is_comment dc_is_comment pm_is_comment ct_is_comment : Value}
    {cd_is_comment : Value}
    (a_is_comment : PySem.W.nsIn K mainGlobals "is_comment" = some (some (.ref f_is_comment)))
    (l_is_comment : K.lookup f_is_comment = some ⟨oc_is_comment, od_is_comment, .func (PySem.W.fnOf "is_comment" "is_comment" (defArgs s_is_comment) (defBody s_is_comment) (defScope s_is_comment) .none kV_is_comment dc_is_comment pm_is_comment an_is_comment cd_is_comment ct_is_comment), sl_is_comment⟩)
    (c_is_comment : PySem.W.codeIn K cd_is_comment "is_comment" = true) (k_is_comment : PySem.W.keepIn K (.ref f_is_comment) = true)
    {f_days_in : Addr} {od_days_in an_days_in : Option Addr} {sl_days_in : Array (Option Value)} {oc_days_in kV_days_in dc_days_in pm_days_in ct_days_in : Value}
    {cd_days_in : Value}
    (a_days_in : PySem.W.nsIn K mainGlobals "days_in" = some (some (.ref f_days_in)))
    (l_days_in : K.lookup f_days_in = some ⟨oc_days_in, od_days_in, .func (PySem.W.fnOf "days_in" "days_in" (defArgs s_days_in) (defBody s_days_in) (defScope s_days_in) .none kV_days_in dc_days_in pm_days_in an_days_in cd_days_in ct_days_in), sl_days_in⟩)
    (c_days_in : PySem.W.codeIn K cd_days_in "days_in" = true) (k_days_in : PySem.W.keepIn K (.ref f_days_in) = true)
    {f_is_time : Addr} {od_is_time an_is_time : Option Addr} {sl_is_time : Array (Option Value)} {oc_is_time kV_is_time dc_is_time pm_is_time ct_is_time : Value}
    {cd_is_time : Value}
    (a_is_time : PySem.W.nsIn K mainGlobals "is_time" = some (some (.ref f_is_time)))
    (l_is_time : K.lookup f_is_time = some ⟨oc_is_time, od_is_time, .func (PySem.W.fnOf "is_time" "is_time" (defArgs s_is_time) (defBody s_is_time) (defScope s_is_time) .none kV_is_time dc_is_time pm_is_time an_is_time cd_is_time ct_is_time), sl_is_time⟩)
    (c_is_time : PySem.W.codeIn K cd_is_time "is_time" = true) (k_is_time : PySem.W.keepIn K (.ref f_is_time) = true)
    {f_Entry_init : Addr} {od_Entry_init an_Entry_init : Option Addr} {sl_Entry_init : Array (Option Value)} {oc_Entry_init  dc_Entry_init pm_Entry_init ct_Entry_init : Value}
    {cd_Entry_init : Value}
    (a_Entry_init : PySem.W.findIn K (.ref x_Entry) "__init__" = some (some (.ref f_Entry_init)))
    (i_Entry_init : PySem.W.isFn K (.ref f_Entry_init) = true)
    {kd_Entry_init : Addr}
    (l_Entry_init : K.lookup f_Entry_init = some ⟨oc_Entry_init, od_Entry_init, .func (PySem.W.fnOf "__init__" "Entry.__init__" (defArgs s_Entry_init) (defBody s_Entry_init) (defScope s_Entry_init) .none (.ref kd_Entry_init) dc_Entry_init pm_Entry_init an_Entry_init cd_Entry_init ct_Entry_init), sl_Entry_init⟩)
    (c_Entry_init : PySem.W.codeIn K cd_Entry_init "Entry.__init__" = true) (k_Entry_init : PySem.W.keepIn K (.ref f_Entry_init) = true)
    {u_Entry_init_time : Addr} (kw_Entry_init_time : PySem.W.nsIn K kd_Entry_init "time" = some (some (.ref u_Entry_init_time))) (wu_Entry_init_time : tupIn K u_Entry_init_time = some k_FIRST_TIME)
    {u_Entry_init_comment : Tok} (kw_Entry_init_comment : PySem.W.nsIn K kd_Entry_init "comment" = some (some (.str "" u_Entry_init_comment)))
    {f_bytes_text : Addr} {od_bytes_text an_bytes_text : Option Addr} {sl_bytes_text : Array (Option Value)} {oc_bytes_text kV_bytes_text dc_bytes_text pm_bytes_text ct_bytes_text : Value}
    {cd_bytes_text : Value}
    (a_bytes_text : PySem.W.nsIn K mainGlobals "bytes_text" = some (some (.ref f_bytes_text)))
    (l_bytes_text : K.lookup f_bytes_text = some ⟨oc_bytes_text, od_bytes_text, .func (PySem.W.fnOf "bytes_text" "bytes_text" (defArgs s_bytes_text) (defBody s_bytes_text) (defScope s_bytes_text) .none kV_bytes_text dc_bytes_text pm_bytes_text an_bytes_text cd_bytes_text ct_bytes_text), sl_bytes_text⟩)
    (c_bytes_text : PySem.W.codeIn K cd_bytes_text "bytes_text" = true) (k_bytes_text : PySem.W.keepIn K (.ref f_bytes_text) = true)
    {f_bytes_in : Addr} {od_bytes_in an_bytes_in : Option Addr} {sl_bytes_in : Array (Option Value)} {oc_bytes_in kV_bytes_in dc_bytes_in pm_bytes_in ct_bytes_in : Value}
    {cd_bytes_in : Value}
    (a_bytes_in : PySem.W.nsIn K mainGlobals "bytes_in" = some (some (.ref f_bytes_in)))
    (l_bytes_in : K.lookup f_bytes_in = some ⟨oc_bytes_in, od_bytes_in, .func (PySem.W.fnOf "bytes_in" "bytes_in" (defArgs s_bytes_in) (defBody s_bytes_in) (defScope s_bytes_in) .none kV_bytes_in dc_bytes_in pm_bytes_in an_bytes_in cd_bytes_in ct_bytes_in), sl_bytes_in⟩)
    (c_bytes_in : PySem.W.codeIn K cd_bytes_in "bytes_in" = true) (k_bytes_in : PySem.W.keepIn K (.ref f_bytes_in) = true)
    {f_read_bytes : Addr} {od_read_bytes an_read_bytes : Option Addr} {sl_read_bytes : Array (Option Value)} {oc_read_bytes kV_read_bytes dc_read_bytes pm_read_bytes ct_read_bytes : Value}
    {cd_read_bytes : Value}
    (a_read_bytes : PySem.W.nsIn K mainGlobals "read_bytes" = some (some (.ref f_read_bytes)))
    (l_read_bytes : K.lookup f_read_bytes = some ⟨oc_read_bytes, od_read_bytes, .func (PySem.W.fnOf "read_bytes" "read_bytes" (defArgs s_read_bytes) (defBody s_read_bytes) (defScope s_read_bytes) .none kV_read_bytes dc_read_bytes pm_read_bytes an_read_bytes cd_read_bytes ct_read_bytes), sl_read_bytes⟩)
    (c_read_bytes : PySem.W.codeIn K cd_read_bytes "read_bytes" = true) (k_read_bytes : PySem.W.keepIn K (.ref f_read_bytes) = true)
    {f_l_begun : Addr} {od_l_begun an_l_begun : Option Addr} {sl_l_begun : Array (Option Value)} {oc_l_begun kV_l_begun dc_l_begun pm_l_begun ct_l_begun : Value}
    {cd_l_begun : Value}
    (a_l_begun : PySem.W.nsIn K mainGlobals "_law_begun" = some (some (.ref f_l_begun)))
    (l_l_begun : K.lookup f_l_begun = some ⟨oc_l_begun, od_l_begun, .func (PySem.W.fnOf "_law_begun" "_law_begun" (defArgs s_l_begun) (defBody s_l_begun) (defScope s_l_begun) .none kV_l_begun dc_l_begun pm_l_begun an_l_begun cd_l_begun ct_l_begun), sl_l_begun⟩)
    (c_l_begun : PySem.W.codeIn K cd_l_begun "_law_begun" = true) (k_l_begun : PySem.W.keepIn K (.ref f_l_begun) = true)
    {f_l_next : Addr} {od_l_next an_l_next : Option Addr} {sl_l_next : Array (Option Value)} {oc_l_next kV_l_next dc_l_next pm_l_next ct_l_next : Value}
    {cd_l_next : Value}
    (a_l_next : PySem.W.nsIn K mainGlobals "_law_next" = some (some (.ref f_l_next)))
    (l_l_next : K.lookup f_l_next = some ⟨oc_l_next, od_l_next, .func (PySem.W.fnOf "_law_next" "_law_next" (defArgs s_l_next) (defBody s_l_next) (defScope s_l_next) .none kV_l_next dc_l_next pm_l_next an_l_next cd_l_next ct_l_next), sl_l_next⟩)
    (c_l_next : PySem.W.codeIn K cd_l_next "_law_next" = true) (k_l_next : PySem.W.keepIn K (.ref f_l_next) = true)
    {f_l_pick : Addr} {od_l_pick an_l_pick : Option Addr} {sl_l_pick : Array (Option Value)} {oc_l_pick kV_l_pick dc_l_pick pm_l_pick ct_l_pick : Value}
    {cd_l_pick : Value}
    (a_l_pick : PySem.W.nsIn K mainGlobals "_law_pick" = some (some (.ref f_l_pick)))
    (l_l_pick : K.lookup f_l_pick = some ⟨oc_l_pick, od_l_pick, .func (PySem.W.fnOf "_law_pick" "_law_pick" (defArgs s_l_pick) (defBody s_l_pick) (defScope s_l_pick) .none kV_l_pick dc_l_pick pm_l_pick an_l_pick cd_l_pick ct_l_pick), sl_l_pick⟩)
    (c_l_pick : PySem.W.codeIn K cd_l_pick "_law_pick" = true) (k_l_pick : PySem.W.keepIn K (.ref f_l_pick) = true)
    {f_l_some : Addr} {od_l_some an_l_some : Option Addr} {sl_l_some : Array (Option Value)} {oc_l_some kV_l_some dc_l_some pm_l_some ct_l_some : Value}
    {cd_l_some : Value}
    (a_l_some : PySem.W.nsIn K mainGlobals "_law_some" = some (some (.ref f_l_some)))
    (l_l_some : K.lookup f_l_some = some ⟨oc_l_some, od_l_some, .func (PySem.W.fnOf "_law_some" "_law_some" (defArgs s_l_some) (defBody s_l_some) (defScope s_l_some) .none kV_l_some dc_l_some pm_l_some an_l_some cd_l_some ct_l_some), sl_l_some⟩)
    (c_l_some : PySem.W.codeIn K cd_l_some "_law_some" = true) (k_l_some : PySem.W.keepIn K (.ref f_l_some) = true)
    {f_l_hex : Addr} {od_l_hex an_l_hex : Option Addr} {sl_l_hex : Array (Option Value)} {oc_l_hex kV_l_hex dc_l_hex pm_l_hex ct_l_hex : Value}
    {cd_l_hex : Value}
    (a_l_hex : PySem.W.nsIn K mainGlobals "_law_hex" = some (some (.ref f_l_hex)))
    (l_l_hex : K.lookup f_l_hex = some ⟨oc_l_hex, od_l_hex, .func (PySem.W.fnOf "_law_hex" "_law_hex" (defArgs s_l_hex) (defBody s_l_hex) (defScope s_l_hex) .none kV_l_hex dc_l_hex pm_l_hex an_l_hex cd_l_hex ct_l_hex), sl_l_hex⟩)
    (c_l_hex : PySem.W.codeIn K cd_l_hex "_law_hex" = true) (k_l_hex : PySem.W.keepIn K (.ref f_l_hex) = true)
    {f_l_how : Addr} {od_l_how an_l_how : Option Addr} {sl_l_how : Array (Option Value)} {oc_l_how kV_l_how dc_l_how pm_l_how ct_l_how : Value}
    {cd_l_how : Value}
    (a_l_how : PySem.W.nsIn K mainGlobals "_law_how" = some (some (.ref f_l_how)))
    (l_l_how : K.lookup f_l_how = some ⟨oc_l_how, od_l_how, .func (PySem.W.fnOf "_law_how" "_law_how" (defArgs s_l_how) (defBody s_l_how) (defScope s_l_how) .none kV_l_how dc_l_how pm_l_how an_l_how cd_l_how ct_l_how), sl_l_how⟩)
    (c_l_how : PySem.W.codeIn K cd_l_how "_law_how" = true) (k_l_how : PySem.W.keepIn K (.ref f_l_how) = true)
    {f_l_due : Addr} {od_l_due an_l_due : Option Addr} {sl_l_due : Array (Option Value)} {oc_l_due kV_l_due dc_l_due pm_l_due ct_l_due : Value}
    {cd_l_due : Value}
    (a_l_due : PySem.W.nsIn K mainGlobals "_law_due" = some (some (.ref f_l_due)))
    (l_l_due : K.lookup f_l_due = some ⟨oc_l_due, od_l_due, .func (PySem.W.fnOf "_law_due" "_law_due" (defArgs s_l_due) (defBody s_l_due) (defScope s_l_due) .none kV_l_due dc_l_due pm_l_due an_l_due cd_l_due ct_l_due), sl_l_due⟩)
    (c_l_due : PySem.W.codeIn K cd_l_due "_law_due" = true) (k_l_due : PySem.W.keepIn K (.ref f_l_due) = true)
    {f_l_bent : Addr} {od_l_bent an_l_bent : Option Addr} {sl_l_bent : Array (Option Value)} {oc_l_bent kV_l_bent dc_l_bent pm_l_bent ct_l_bent : Value}
    {cd_l_bent : Value}
    (a_l_bent : PySem.W.nsIn K mainGlobals "_law_bent" = some (some (.ref f_l_bent)))
    (l_l_bent : K.lookup f_l_bent = some ⟨oc_l_bent, od_l_bent, .func (PySem.W.fnOf "_law_bent" "_law_bent" (defArgs s_l_bent) (defBody s_l_bent) (defScope s_l_bent) .none kV_l_bent dc_l_bent pm_l_bent an_l_bent cd_l_bent ct_l_bent), sl_l_bent⟩)
    (c_l_bent : PySem.W.codeIn K cd_l_bent "_law_bent" = true) (k_l_bent : PySem.W.keepIn K (.ref f_l_bent) = true)
    {f_law : Addr} {od_law an_law : Option Addr} {sl_law : Array (Option Value)} {oc_law kV_law dc_law pm_law ct_law : Value}
    {co_law ta_law : Addr} {o2_law : Value} {d2_law : Option Addr} {s2_law : Array (Option Value)} {vs_law : Array Value}
    (a_law : PySem.W.nsIn K mainGlobals "law" = some (some (.ref f_law)))
    (l_law : K.lookup f_law = some ⟨oc_law, od_law, .func (PySem.W.fnOf "law" "law" (defArgs s_law) (defBody s_law) (defScope s_law) .none kV_law dc_law pm_law an_law (.ref co_law) ct_law), sl_law⟩)
    (c_law : PySem.W.codeIn K (.ref co_law) "law" = true) (k_law : PySem.W.keepIn K (.ref f_law) = true)
    (lc_law : K.lookup co_law = some ⟨o2_law, d2_law, .fields vs_law, s2_law⟩) (vp_law : vs_law[11]? = some (.ref ta_law)) (nt_law : K.lookup ta_law = none) (rc_law : ((recsOf q).find? (fun e => e.name == ("law" : Str))).isSome = true)
    (a_check_checks : PySem.W.nsIn K mainGlobals "check_checks" = some (some (.ref f_check)))
    {t_EARLIEST : Addr} (v_EARLIEST : PySem.W.nsIn K mainGlobals "EARLIEST" = some (some (.ref t_EARLIEST))) (u_EARLIEST : tupIn K t_EARLIEST = some k_EARLIEST)
    {t_FIRST_SIGN : Tok} (v_FIRST_SIGN : PySem.W.nsIn K mainGlobals "FIRST_SIGN" = some (some (.int 32 t_FIRST_SIGN)))
    {t_FIRST_TIME : Addr} (v_FIRST_TIME : PySem.W.nsIn K mainGlobals "FIRST_TIME" = some (some (.ref t_FIRST_TIME))) (u_FIRST_TIME : tupIn K t_FIRST_TIME = some k_FIRST_TIME)
    {t_GREATEST_BYTE : Tok} (v_GREATEST_BYTE : PySem.W.nsIn K mainGlobals "GREATEST_BYTE" = some (some (.int 255 t_GREATEST_BYTE)))
    {t_GREATEST_CHECK : Tok} (v_GREATEST_CHECK : PySem.W.nsIn K mainGlobals "GREATEST_CHECK" = some (some (.int 4294967295 t_GREATEST_CHECK)))
    {t_HEX : Tok} (v_HEX : PySem.W.nsIn K mainGlobals "HEX" = some (some (.str "0123456789abcdef" t_HEX)))
    {t_LAST_SIGN : Tok} (v_LAST_SIGN : PySem.W.nsIn K mainGlobals "LAST_SIGN" = some (some (.int 126 t_LAST_SIGN)))
    {t_LATEST_YEAR : Tok} (v_LATEST_YEAR : PySem.W.nsIn K mainGlobals "LATEST_YEAR" = some (some (.int 2107 t_LATEST_YEAR)))
    {t_LONGEST_COMMENT : Tok} (v_LONGEST_COMMENT : PySem.W.nsIn K mainGlobals "LONGEST_COMMENT" = some (some (.int 40 t_LONGEST_COMMENT)))
    {t_LONGEST_NAME : Tok} (v_LONGEST_NAME : PySem.W.nsIn K mainGlobals "LONGEST_NAME" = some (some (.int 24 t_LONGEST_NAME)))
    {t_MONTHS : Addr} (v_MONTHS : PySem.W.nsIn K mainGlobals "MONTHS" = some (some (.ref t_MONTHS))) (u_MONTHS : tupIn K t_MONTHS = some k_MONTHS)
    {t_MOST_DATA : Tok} (v_MOST_DATA : PySem.W.nsIn K mainGlobals "MOST_DATA" = some (some (.int 1500 t_MOST_DATA)))
    {t_PERCENT : Tok} (v_PERCENT : PySem.W.nsIn K mainGlobals "PERCENT" = some (some (.int 37 t_PERCENT)))
    {t_STEPS : Addr} (v_STEPS : PySem.W.nsIn K mainGlobals "STEPS" = some (some (.ref t_STEPS))) (u_STEPS : tupIn K t_STEPS = some k_STEPS)
    (z_ValueError : PySem.W.nsIn K mainGlobals "ValueError" = some none)
    (z_abs : PySem.W.nsIn K mainGlobals "abs" = some none)
    (z_all : PySem.W.nsIn K mainGlobals "all" = some none)
    (z_bool : PySem.W.nsIn K mainGlobals "bool" = some none)
    (z_int : PySem.W.nsIn K mainGlobals "int" = some none)
    (z_isinstance : PySem.W.nsIn K mainGlobals "isinstance" = some none)
    (z_len : PySem.W.nsIn K mainGlobals "len" = some none)
    (z_list : PySem.W.nsIn K mainGlobals "list" = some none)
    (z_max : PySem.W.nsIn K mainGlobals "max" = some none)
    (z_min : PySem.W.nsIn K mainGlobals "min" = some none)
    (z_ord : PySem.W.nsIn K mainGlobals "ord" = some none)
    (z_range : PySem.W.nsIn K mainGlobals "range" = some none)
    (z_repr : PySem.W.nsIn K mainGlobals "repr" = some none)
    (z_str : PySem.W.nsIn K mainGlobals "str" = some none)
    (z_tuple : PySem.W.nsIn K mainGlobals "tuple" = some none)
    : ∃ (fd : FuncData) (cls : Nat → Addr) (T : List (Addr × Str)) (ts : List (Addr × Addr)), (∀ (s : Shared) (v : Value), BindsTo s fd ⟨[v], []⟩ [("_law_script", v)]) ∧
      (∀ p ∈ ts, ∃ y d', (recsOf q).find? (fun e => e.name == y) = some d' ∧ PySem.W.tabIn K y = some p) ∧ (∀ p ∈ ts, K.lookup p.2 = none) ∧ (∀ t ∈ T, ∃ p ∈ ts, p.2 = t.1) ∧
      ∀ base : Heap, K.In base → base.Ns mainGlobals mg → (∀ p ∈ ts, LamX.TabB base mg p.1 p.2) → FnG l.prog w K mg base 7 fa fd ["_law_script"] (SpF ⟨K, cls, T⟩ Law.F_law) := by
  have e := hfa.symm.trans (PySem.W.mg_of X G a_law)
  cases e
  have F_NoText_init := fun_mk (st := s_NoText_init) l_NoText_init c_NoText_init k_NoText_init
  have b_NoText_init := F_NoText_init.binds (ps := ["self", "row"]) fun _ _ _ _ _ _ us hl => match us, hl with | [_, _], _ => rfl
  have F_is_number := fun_mk (st := s_is_number) l_is_number c_is_number k_is_number
  have b_is_number := F_is_number.binds (ps := ["thing", "low", "high"]) fun _ _ _ _ _ _ us hl => match us, hl with | [_, _, _], _ => rfl
  have F_is_bytes := fun_mk (st := s_is_bytes) l_is_bytes c_is_bytes k_is_bytes
  have b_is_bytes := F_is_bytes.binds (ps := ["thing"]) fun _ _ _ _ _ _ us hl => match us, hl with | [_], _ => rfl
  have F_need_bytes := fun_mk (st := s_need_bytes) l_need_bytes c_need_bytes k_need_bytes
  have b_need_bytes := F_need_bytes.binds (ps := ["thing"]) fun _ _ _ _ _ _ us hl => match us, hl with | [_], _ => rfl
  have F_forward := fun_mk (st := s_forward) l_forward c_forward k_forward
  have b_forward := F_forward.binds (ps := ["crc", "some"]) fun _ _ _ _ _ _ us hl => match us, hl with | [_, _], _ => rfl
  have F_check := fun_mk (st := s_check) l_check c_check k_check
  have b_check := F_check.binds (ps := ["data"]) fun _ _ _ _ _ _ us hl => match us, hl with | [_], _ => rfl
  have F_is_printable := fun_mk (st := s_is_printable) l_is_printable c_is_printable k_is_printable
  have b_is_printable := F_is_printable.binds (ps := ["number"]) fun _ _ _ _ _ _ us hl => match us, hl with | [_], _ => rfl
  have F_is_text := fun_mk (st := s_is_text) l_is_text c_is_text k_is_text
  have b_is_text := F_is_text.binds (ps := ["thing"]) fun _ _ _ _ _ _ us hl => match us, hl with | [_], _ => rfl
  have F_is_name := fun_mk (st := s_is_name) l_is_name c_is_name k_is_name
  have b_is_name := F_is_name.binds (ps := ["thing"]) fun _ _ _ _ _ _ us hl => match us, hl with | [_], _ => rfl
  have F_is_comment := fun_mk (st := s_is_comment) l_is_comment c_is_comment k_is_comment
  have b_is_comment := F_is_comment.binds (ps := ["thing"]) fun _ _ _ _ _ _ us hl => match us, hl with | [_], _ => rfl
  have F_days_in := fun_mk (st := s_days_in) l_days_in c_days_in k_days_in
  have b_days_in := F_days_in.binds (ps := ["year", "month"]) fun _ _ _ _ _ _ us hl => match us, hl with | [_, _], _ => rfl
  have F_is_time := fun_mk (st := s_is_time) l_is_time c_is_time k_is_time
  have b_is_time := F_is_time.binds (ps := ["thing"]) fun _ _ _ _ _ _ us hl => match us, hl with | [_], _ => rfl
  have F_Entry_init : FunX K "__init__" "Entry.__init__" s_Entry_init [] [("time", V.ref u_Entry_init_time), ("comment", V.str "")] f_Entry_init _ := ⟨⟨_, _, _, _, _, _, _, _, _, _, rfl, l_Entry_init, c_Entry_init, .inl ⟨rfl, rfl⟩, .inr ⟨kd_Entry_init, rfl, fun q hq => by simp only [List.mem_cons, List.not_mem_nil, or_false] at hq; rcases hq with rfl | rfl <;> first | exact ⟨_, kw_Entry_init_time, rfl⟩ | exact ⟨_, kw_Entry_init_comment, ⟨_, rfl⟩⟩⟩⟩, k_Entry_init⟩
  have F_bytes_text := fun_mk (st := s_bytes_text) l_bytes_text c_bytes_text k_bytes_text
  have b_bytes_text := F_bytes_text.binds (ps := ["some"]) fun _ _ _ _ _ _ us hl => match us, hl with | [_], _ => rfl
  have F_bytes_in := fun_mk (st := s_bytes_in) l_bytes_in c_bytes_in k_bytes_in
  have b_bytes_in := F_bytes_in.binds (ps := ["text"]) fun _ _ _ _ _ _ us hl => match us, hl with | [_], _ => rfl
  have F_read_bytes := fun_mk (st := s_read_bytes) l_read_bytes c_read_bytes k_read_bytes
  have b_read_bytes := F_read_bytes.binds (ps := ["text"]) fun _ _ _ _ _ _ us hl => match us, hl with | [_], _ => rfl
  have F_l_begun := fun_mk (st := s_l_begun) l_l_begun c_l_begun k_l_begun
  have b_l_begun := F_l_begun.binds (ps := ["_law_script"]) fun _ _ _ _ _ _ us hl => match us, hl with | [_], _ => rfl
  have F_l_next := fun_mk (st := s_l_next) l_l_next c_l_next k_l_next
  have b_l_next := F_l_next.binds (ps := ["_law_draw", "_law_many"]) fun _ _ _ _ _ _ us hl => match us, hl with | [_, _], _ => rfl
  have F_l_pick := fun_mk (st := s_l_pick) l_l_pick c_l_pick k_l_pick
  have b_l_pick := F_l_pick.binds (ps := ["_law_draw", "_law_several"]) fun _ _ _ _ _ _ us hl => match us, hl with | [_, _], _ => rfl
  have F_l_some := fun_mk (st := s_l_some) l_l_some c_l_some k_l_some
  have b_l_some := F_l_some.binds (ps := ["_law_draw", "_law_many", "_law_plain"]) fun _ _ _ _ _ _ us hl => match us, hl with | [_, _, _], _ => rfl
  have F_l_hex := fun_mk (st := s_l_hex) l_l_hex c_l_hex k_l_hex
  have b_l_hex := F_l_hex.binds (ps := ["_law_several"]) fun _ _ _ _ _ _ us hl => match us, hl with | [_], _ => rfl
  have F_l_how := fun_mk (st := s_l_how) l_l_how c_l_how k_l_how
  have b_l_how := F_l_how.binds (ps := ["_law_work"]) fun _ _ _ _ _ _ us hl => match us, hl with | [_], _ => rfl
  have F_l_due := fun_mk (st := s_l_due) l_l_due c_l_due k_l_due
  have b_l_due := F_l_due.binds (ps := ["_law_page"]) fun _ _ _ _ _ _ us hl => match us, hl with | [_], _ => rfl
  have F_l_bent := fun_mk (st := s_l_bent) l_l_bent c_l_bent k_l_bent
  have b_l_bent := F_l_bent.binds (ps := ["_law_draw", "_law_page"]) fun _ _ _ _ _ _ us hl => match us, hl with | [_, _], _ => rfl
  have F_law := fun_mk (st := s_law) l_law c_law k_law
  have b_law := F_law.binds (ps := ["_law_script"]) fun _ _ _ _ _ _ us hl => match us, hl with | [_], _ => rfl
  have bn_Entry_init_1 : ∀ T, BnD ⟨K, clsOf [(0, x_ArchiveError), (1, x_NoBytes), (3, x_NoTime), (4, x_NoName), (5, x_NoComment), (6, x_NoData), (9, x_NoFile), (17, x_NoText), (20, x_Entry)], T⟩ K _ ["self", "name", "data", "time", "comment"] 3 [] [0, 1, 2, 3, 4] [.tup k_FIRST_TIME, .str ""] := fun T => by
    obtain ⟨ds, hv, hb⟩ := bindN_k (ps := ["self", "name", "data", "time", "comment"]) F_Entry_init 3 [] [("time", V.ref u_Entry_init_time), ("comment", V.str "")] [0, 1, 2, 3, 4] (fun e => nomatch e) (fun q hq => by simp only [List.mem_cons, List.not_mem_nil, or_false] at hq; rcases hq with rfl | rfl <;> simp) fun _ _ _ _ _ _ us mv ws hu hm hw => match us, hu, mv, hm, ws, hw with | [_, _, _], _, [_, _], _, [], _ => ⟨_, _, _, _, _, _, rfl, rfl, ⟨_, _, _, _, _, _, rfl, rfl, rfl⟩⟩
    exact ⟨_, ds, (fun _ _ _ => .cons (tupIn_ok (C := ⟨K, clsOf [(0, x_ArchiveError), (1, x_NoBytes), (3, x_NoTime), (4, x_NoName), (5, x_NoComment), (6, x_NoData), (9, x_NoFile), (17, x_NoText), (20, x_Entry)], _⟩) wu_Entry_init_time) (.cons (.str _) (.nil))), hv, hb⟩
  have kb_bytes_text_0 := fun_kwb F_bytes_text (ps := ["some"]) (ks := ["some"]) (π := [0]) fun _ _ _ _ _ _ us hl => match us, hl with | [_], _ => rfl
  have kb_read_bytes_0 := fun_kwb F_read_bytes (ps := ["text"]) (ks := ["text"]) (π := [0]) fun _ _ _ _ _ _ us hl => match us, hl with | [_], _ => rfl
  have mk : ∀ base : Heap, (∀ p ∈ ([(co_law, ta_law)] : List (Addr × Addr)), LamX.TabB base mg p.1 p.2) → FnG l.prog w K mg base 7 fa _ ["_law_script"] (SpF ⟨K, clsOf [(0, x_ArchiveError), (1, x_NoBytes), (3, x_NoTime), (4, x_NoName), (5, x_NoComment), (6, x_NoData), (9, x_NoFile), (17, x_NoText), (20, x_Entry)], [(ta_law, ("law.<locals>.<lambda>" : Str))]⟩ Law.F_law) := fun base htb => ok_law (base := base) {
    d := ⟨clsOf [(0, x_ArchiveError), (1, x_NoBytes), (3, x_NoTime), (4, x_NoName), (5, x_NoComment), (6, x_NoData), (9, x_NoFile), (17, x_NoText), (20, x_Entry)], [(ta_law, ("law.<locals>.<lambda>" : Str))], ixA [f_NoText_init, f_is_number, f_is_bytes, f_need_bytes, f_forward, f_check, f_is_printable, f_is_text, f_is_name, f_is_comment, f_days_in, f_is_time, f_Entry_init, f_bytes_text, f_bytes_in, f_read_bytes, f_l_begun, f_l_next, f_l_pick, f_l_some, f_l_hex, f_l_how, f_l_due, f_l_bent, fa, co_law, ta_law], ixF (fdOf F_NoText_init) [fdOf F_NoText_init, fdOf F_is_number, fdOf F_is_bytes, fdOf F_need_bytes, fdOf F_forward, fdOf F_check, fdOf F_is_printable, fdOf F_is_text, fdOf F_is_name, fdOf F_is_comment, fdOf F_days_in, fdOf F_is_time, fdOfX F_Entry_init, fdOf F_bytes_text, fdOf F_bytes_in, fdOf F_read_bytes, fdOf F_l_begun, fdOf F_l_next, fdOf F_l_pick, fdOf F_l_some, fdOf F_l_hex, fdOf F_l_how, fdOf F_l_due, fdOf F_l_bent, fdOf F_law]⟩
    q0 := {
      kc := kitCB_ok kcB (fun c h => by simp only [CL, List.mem_cons, List.not_mem_nil, or_false] at h; rcases h with rfl <;> first | exact ⟨pg_Entry, hd_Entry, po_Entry, sa_Entry⟩) (fun p h => by simp only [CL, List.mem_cons, List.not_mem_nil, or_false] at h; rcases h with rfl | rfl | rfl | rfl | rfl <;> exact ⟨by decide, by first | exact nf_Entry_name | exact nf_Entry_own_data | exact nf_Entry_time | exact nf_Entry_comment | exact nf_Entry_own_check⟩)
      m_ArchiveError := PySem.W.mg_of X G e_ArchiveError
      m_NoBytes := PySem.W.mg_of X G e_NoBytes
      m_NoTime := PySem.W.mg_of X G e_NoTime
      m_NoName := PySem.W.mg_of X G e_NoName
      m_NoComment := PySem.W.mg_of X G e_NoComment
      m_NoData := PySem.W.mg_of X G e_NoData
      m_NoFile := PySem.W.mg_of X G e_NoFile
      m_NoText := PySem.W.mg_of X G e_NoText
      m_Entry := PySem.W.mg_of X G e_Entry
      c_EARLIEST := ⟨_, PySem.W.mg_of X G v_EARLIEST, u_EARLIEST⟩
      c_FIRST_SIGN := ⟨_, PySem.W.mg_of X G v_FIRST_SIGN⟩
      c_FIRST_TIME := ⟨_, PySem.W.mg_of X G v_FIRST_TIME, u_FIRST_TIME⟩
      c_GREATEST_BYTE := ⟨_, PySem.W.mg_of X G v_GREATEST_BYTE⟩
      c_GREATEST_CHECK := ⟨_, PySem.W.mg_of X G v_GREATEST_CHECK⟩
      c_HEX := ⟨_, PySem.W.mg_of X G v_HEX⟩
      c_LAST_SIGN := ⟨_, PySem.W.mg_of X G v_LAST_SIGN⟩
      c_LATEST_YEAR := ⟨_, PySem.W.mg_of X G v_LATEST_YEAR⟩
      c_LONGEST_COMMENT := ⟨_, PySem.W.mg_of X G v_LONGEST_COMMENT⟩
      c_LONGEST_NAME := ⟨_, PySem.W.mg_of X G v_LONGEST_NAME⟩
      c_MONTHS := ⟨_, PySem.W.mg_of X G v_MONTHS, u_MONTHS⟩
      c_MOST_DATA := ⟨_, PySem.W.mg_of X G v_MOST_DATA⟩
      c_PERCENT := ⟨_, PySem.W.mg_of X G v_PERCENT⟩
      c_STEPS := ⟨_, PySem.W.mg_of X G v_STEPS, u_STEPS⟩
      z_ValueError := PySem.W.mg_none_of X G z_ValueError
      z_abs := PySem.W.mg_none_of X G z_abs
      z_all := PySem.W.mg_none_of X G z_all
      z_bool := PySem.W.mg_none_of X G z_bool
      z_int := PySem.W.mg_none_of X G z_int
      z_isinstance := PySem.W.mg_none_of X G z_isinstance
    }
    q1 := {
      z_len := PySem.W.mg_none_of X G z_len
      z_list := PySem.W.mg_none_of X G z_list
      z_max := PySem.W.mg_none_of X G z_max
      z_min := PySem.W.mg_none_of X G z_min
      z_ord := PySem.W.mg_none_of X G z_ord
      z_range := PySem.W.mg_none_of X G z_range
      z_repr := PySem.W.mg_none_of X G z_repr
      z_str := PySem.W.mg_none_of X G z_str
      z_tuple := PySem.W.mg_none_of X G z_tuple
      F_NoText_init := F_NoText_init
      b_NoText_init := b_NoText_init
      F_is_number := F_is_number
      b_is_number := b_is_number
      m_is_number := PySem.W.mg_of X G a_is_number
      F_is_bytes := F_is_bytes
      b_is_bytes := b_is_bytes
      m_is_bytes := PySem.W.mg_of X G a_is_bytes
      F_need_bytes := F_need_bytes
      b_need_bytes := b_need_bytes
      m_need_bytes := PySem.W.mg_of X G a_need_bytes
      F_forward := F_forward
      b_forward := b_forward
      m_forward := PySem.W.mg_of X G a_forward
      F_check := F_check
      b_check := b_check
      m_check := PySem.W.mg_of X G a_check
      F_is_printable := F_is_printable
      b_is_printable := b_is_printable
      m_is_printable := PySem.W.mg_of X G a_is_printable
      F_is_text := F_is_text
    }
    q2 := {
      b_is_text := b_is_text
      m_is_text := PySem.W.mg_of X G a_is_text
      F_is_name := F_is_name
      b_is_name := b_is_name
      m_is_name := PySem.W.mg_of X G a_is_name
      F_is_comment := F_is_comment
      b_is_comment := b_is_comment
      m_is_comment := PySem.W.mg_of X G a_is_comment
      F_days_in := F_days_in
      b_days_in := b_days_in
      m_days_in := PySem.W.mg_of X G a_days_in
      F_is_time := F_is_time
      b_is_time := b_is_time
      m_is_time := PySem.W.mg_of X G a_is_time
      F_Entry_init := ⟨_, _, F_Entry_init⟩
      F_bytes_text := F_bytes_text
      b_bytes_text := b_bytes_text
      m_bytes_text := PySem.W.mg_of X G a_bytes_text
      F_bytes_in := F_bytes_in
      b_bytes_in := b_bytes_in
      m_bytes_in := PySem.W.mg_of X G a_bytes_in
      F_read_bytes := F_read_bytes
      b_read_bytes := b_read_bytes
      m_read_bytes := PySem.W.mg_of X G a_read_bytes
      F_l_begun := F_l_begun
      b_l_begun := b_l_begun
      m_l_begun := PySem.W.mg_of X G a_l_begun
      F_l_next := F_l_next
      b_l_next := b_l_next
      m_l_next := PySem.W.mg_of X G a_l_next
    }
    q3 := {
      F_l_pick := F_l_pick
      b_l_pick := b_l_pick
      m_l_pick := PySem.W.mg_of X G a_l_pick
      F_l_some := F_l_some
      b_l_some := b_l_some
      m_l_some := PySem.W.mg_of X G a_l_some
      F_l_hex := F_l_hex
      b_l_hex := b_l_hex
      m_l_hex := PySem.W.mg_of X G a_l_hex
      F_l_how := F_l_how
      b_l_how := b_l_how
      m_l_how := PySem.W.mg_of X G a_l_how
      F_l_due := F_l_due
      b_l_due := b_l_due
      m_l_due := PySem.W.mg_of X G a_l_due
      F_l_bent := F_l_bent
      b_l_bent := b_l_bent
      m_l_bent := PySem.W.mg_of X G a_l_bent
      F_law := F_law
      b_law := b_law
      m_law := PySem.W.mg_of X G a_law
      m_check_checks := PySem.W.mg_of X G a_check_checks
      bn_Entry_init_1 := bn_Entry_init_1 _
      cl_Entry := ⟨pg_Entry, hd_Entry, po_Entry, sa_Entry⟩
      mk_Entry := ⟨mk_Entry, a_Entry_init, i_Entry_init, ck_Entry⟩
      ox_NoText := ⟨⟨_, _, _, _, _, _, _, _, _, _, _, _, _, _, _, lo_NoText, bv_NoText⟩, sx_NoText, xx_NoText, xt_NoText, xk_NoText⟩
      ax_NoText := a_NoText_init
      tx_NoText := tx_NoText_init
      rd_AE := ⟨rd_AE, rg_AE⟩
      vv_AE := vv_AE
    }
    q4 := {
      kb_bytes_text_0 := kb_bytes_text_0
      kb_read_bytes_0 := kb_read_bytes_0
      tb_law := htb (co_law, ta_law) (by simp)
      cd_law := rfl
      tm_law := List.mem_cons_self
      tu_law := (fun p hp e => by have hp : p ∈ ([(ta_law, ("law.<locals>.<lambda>" : Str))] : List (Addr × Str)) := hp; have e : p.1 = ta_law := e; simp only [List.mem_cons, List.not_mem_nil, or_false] at hp; rw [hp])
    }
  }
  refine ⟨_, clsOf [(0, x_ArchiveError), (1, x_NoBytes), (3, x_NoTime), (4, x_NoName), (5, x_NoComment), (6, x_NoData), (9, x_NoFile), (17, x_NoText), (20, x_Entry)], [(ta_law, ("law.<locals>.<lambda>" : Str))], [(co_law, ta_law)], fun s v => .of_eq rfl, fun p hp => ?_, fun p hp => ?_, fun t ht => ?_, fun base _ _ htb => mk base htb⟩
  · simp only [List.mem_cons, List.not_mem_nil, or_false] at hp
    rcases hp with rfl
    · obtain ⟨d, hd⟩ := Option.isSome_iff_exists.mp rc_law
      exact ⟨_, d, hd, tabIn_of a_law l_law rfl lc_law vp_law⟩
  · simp only [List.mem_cons, List.not_mem_nil, or_false] at hp
    rcases hp with rfl
    · exact nt_law
  · simp only [List.mem_cons, List.not_mem_nil, or_false] at ht
    rcases ht with rfl
    · exact ⟨(co_law, ta_law), by simp, rfl⟩
end Law
section
open PySem PySem.W PyProof.Rows
set_option maxHeartbeats 0 in
/-- the end by what is proved behind it (the look at the law takes much memory: it stands ahead) -/
theorem Law.end_of (hK : D.KeptBy Law.F_law 63) : PySem.Challenge.rw_endlist_k63_bytes_as_texts.Holds := by
  w_on
  refine Law.top ?_
  k_fill
  refine D.walkT (l := PySem.Challenge.rw_endlist_k63_bytes_as_texts) (n := 63) (k := 7) (x := "_law_script") (F := Law.F_law) rfl (by decide) rfl ⟨rfl, by decide, by decide⟩ (fun w h Y => PySem.W.km_in_of Y) ?F ?K
  case F =>
    intro w mg fa h KX G hmg
    refine' Law.all_mk KX G hmg ?e_ArchiveError ?e_NoBytes ?e_NoTime ?e_NoName ?e_NoComment ?e_NoData ?e_NoFile ?e_NoText ?e_Entry ?pg_Entry ?hd_Entry ?po_Entry ?sa_Entry ?mk_Entry ?ck_Entry ?nf_Entry_name ?nf_Entry_own_data ?nf_Entry_time ?nf_Entry_comment ?nf_Entry_own_check ?lo_NoText ?bv_NoText ?sx_NoText ?xx_NoText ?xt_NoText ?xk_NoText ?rd_AE ?rg_AE ?vv_AE ?kcB ?a_NoText_init ?tx_NoText_init ?l_NoText_init ?c_NoText_init ?k_NoText_init ?a_is_number ?l_is_number ?c_is_number ?k_is_number ?a_is_bytes ?l_is_bytes ?c_is_bytes ?k_is_bytes ?a_need_bytes ?l_need_bytes ?c_need_bytes ?k_need_bytes ?a_forward ?l_forward ?c_forward ?k_forward ?a_check ?l_check ?c_check ?k_check ?a_is_printable ?l_is_printable ?c_is_printable ?k_is_printable ?a_is_text ?l_is_text ?c_is_text ?k_is_text ?a_is_name ?l_is_name ?c_is_name ?k_is_name ?a_is_comment ?l_is_comment ?c_is_comment ?k_is_comment ?a_days_in ?l_days_in ?c_days_in ?k_days_in ?a_is_time ?l_is_time ?c_is_time ?k_is_time ?a_Entry_init ?i_Entry_init ?l_Entry_init ?c_Entry_init ?k_Entry_init ?kw_Entry_init_time ?wu_Entry_init_time ?kw_Entry_init_comment ?a_bytes_text ?l_bytes_text ?c_bytes_text ?k_bytes_text ?a_bytes_in ?l_bytes_in ?c_bytes_in ?k_bytes_in ?a_read_bytes ?l_read_bytes ?c_read_bytes ?k_read_bytes ?a_l_begun ?l_l_begun ?c_l_begun ?k_l_begun ?a_l_next ?l_l_next ?c_l_next ?k_l_next ?a_l_pick ?l_l_pick ?c_l_pick ?k_l_pick ?a_l_some ?l_l_some ?c_l_some ?k_l_some ?a_l_hex ?l_l_hex ?c_l_hex ?k_l_hex ?a_l_how ?l_l_how ?c_l_how ?k_l_how ?a_l_due ?l_l_due ?c_l_due ?k_l_due ?a_l_bent ?l_l_bent ?c_l_bent ?k_l_bent ?a_law ?l_law ?c_law ?k_law ?lc_law ?vp_law ?nt_law ?rc_law ?a_check_checks ?v_EARLIEST ?u_EARLIEST ?v_FIRST_SIGN ?v_FIRST_TIME ?u_FIRST_TIME ?v_GREATEST_BYTE ?v_GREATEST_CHECK ?v_HEX ?v_LAST_SIGN ?v_LATEST_YEAR ?v_LONGEST_COMMENT ?v_LONGEST_NAME ?v_MONTHS ?u_MONTHS ?v_MOST_DATA ?v_PERCENT ?v_STEPS ?u_STEPS ?z_ValueError ?z_abs ?z_all ?z_bool ?z_int ?z_isinstance ?z_len ?z_list ?z_max ?z_min ?z_ord ?z_range ?z_repr ?z_str ?z_tuple
    (case e_ArchiveError => k_is); (case e_NoBytes => k_is); (case e_NoTime => k_is); (case e_NoName => k_is); (case e_NoComment => k_is); (case e_NoData => k_is); (case e_NoFile => k_is); (case e_NoText => k_is); (case e_Entry => k_is); (case pg_Entry => k_is); (case hd_Entry => k_is); (case po_Entry => k_is); (case sa_Entry => k_is); (case mk_Entry => k_is); (case ck_Entry => k_is); (case nf_Entry_name => k_is); (case nf_Entry_own_data => k_is); (case nf_Entry_time => k_is); (case nf_Entry_comment => k_is); (case nf_Entry_own_check => k_is); (case lo_NoText => k_is); (case sx_NoText => k_is); (case xx_NoText => k_is); (case xt_NoText => k_is); (case xk_NoText => k_is); (case rd_AE => k_is); (case rg_AE => k_is); (case vv_AE => k_is); (case a_NoText_init => k_is); (case tx_NoText_init => k_is); (case l_NoText_init => k_is); (case c_NoText_init => k_is); (case k_NoText_init => k_is); (case a_is_number => k_is); (case l_is_number => k_is); (case c_is_number => k_is); (case k_is_number => k_is); (case a_is_bytes => k_is); (case l_is_bytes => k_is); (case c_is_bytes => k_is); (case k_is_bytes => k_is); (case a_need_bytes => k_is); (case l_need_bytes => k_is); (case c_need_bytes => k_is); (case k_need_bytes => k_is); (case a_forward => k_is); (case l_forward => k_is); (case c_forward => k_is); (case k_forward => k_is); (case a_check => k_is); (case l_check => k_is); (case c_check => k_is); (case k_check => k_is); (case a_is_printable => k_is); (case l_is_printable => k_is); (case c_is_printable => k_is); (case k_is_printable => k_is); (case a_is_text => k_is); (case l_is_text => k_is); (case c_is_text => k_is); (case k_is_text => k_is); (case a_is_name => k_is); (case l_is_name => k_is); (case c_is_name => k_is); (case k_is_name => k_is); (case a_is_comment => k_is); (case l_is_comment => k_is); (case c_is_comment => k_is); (case k_is_comment => k_is); (case a_days_in => k_is); (case l_days_in => k_is); (case c_days_in => k_is); (case k_days_in => k_is); (case a_is_time => k_is); (case l_is_time => k_is); (case c_is_time => k_is); (case k_is_time => k_is); (case a_Entry_init => k_is); (case i_Entry_init => k_is); (case l_Entry_init => k_is); (case c_Entry_init => k_is); (case k_Entry_init => k_is); (case kw_Entry_init_time => k_is); (case kw_Entry_init_comment => k_is); (case a_bytes_text => k_is); (case l_bytes_text => k_is); (case c_bytes_text => k_is); (case k_bytes_text => k_is); (case a_bytes_in => k_is); (case l_bytes_in => k_is); (case c_bytes_in => k_is); (case k_bytes_in => k_is); (case a_read_bytes => k_is); (case l_read_bytes => k_is); (case c_read_bytes => k_is); (case k_read_bytes => k_is); (case a_l_begun => k_is); (case l_l_begun => k_is); (case c_l_begun => k_is); (case k_l_begun => k_is); (case a_l_next => k_is); (case l_l_next => k_is); (case c_l_next => k_is); (case k_l_next => k_is); (case a_l_pick => k_is); (case l_l_pick => k_is); (case c_l_pick => k_is); (case k_l_pick => k_is); (case a_l_some => k_is); (case l_l_some => k_is); (case c_l_some => k_is); (case k_l_some => k_is); (case a_l_hex => k_is); (case l_l_hex => k_is); (case c_l_hex => k_is); (case k_l_hex => k_is); (case a_l_how => k_is); (case l_l_how => k_is); (case c_l_how => k_is); (case k_l_how => k_is); (case a_l_due => k_is); (case l_l_due => k_is); (case c_l_due => k_is); (case k_l_due => k_is); (case a_l_bent => k_is); (case l_l_bent => k_is); (case c_l_bent => k_is); (case k_l_bent => k_is); (case a_law => k_is); (case l_law => k_is); (case c_law => k_is); (case k_law => k_is); (case lc_law => k_is); (case a_check_checks => k_is); (case v_EARLIEST => k_is); (case v_FIRST_SIGN => k_is); (case v_FIRST_TIME => k_is); (case v_GREATEST_BYTE => k_is); (case v_GREATEST_CHECK => k_is); (case v_HEX => k_is); (case v_LAST_SIGN => k_is); (case v_LATEST_YEAR => k_is); (case v_LONGEST_COMMENT => k_is); (case v_LONGEST_NAME => k_is); (case v_MONTHS => k_is); (case v_MOST_DATA => k_is); (case v_PERCENT => k_is); (case v_STEPS => k_is); (case z_ValueError => k_is); (case z_abs => k_is); (case z_all => k_is); (case z_bool => k_is); (case z_int => k_is); (case z_isinstance => k_is); (case z_len => k_is); (case z_list => k_is); (case z_max => k_is); (case z_min => k_is); (case z_ord => k_is); (case z_range => k_is); (case z_repr => k_is); (case z_str => k_is); (case z_tuple => k_is)
    (case bv_NoText => kernel_rfl)
    (case kcB => kernel_rfl)
    (case wu_Entry_init_time => kernel_rfl)
    (case vp_law => rfl)
    (case nt_law => kernel_rfl)
    (case rc_law => kernel_rfl)
    (case u_EARLIEST => kernel_rfl)
    (case u_FIRST_TIME => kernel_rfl)
    (case u_MONTHS => kernel_rfl)
    (case u_STEPS => kernel_rfl)
  case K => exact hK
end

namespace Crc
/-! ### the register, bit by bit -/
theorem xc (a b c : Nat) : a ^^^ (b ^^^ c) = b ^^^ (a ^^^ c) := by rw [← Nat.xor_assoc, Nat.xor_comm a b, Nat.xor_assoc]
theorem xx (a b : Nat) : a ^^^ (a ^^^ b) = b := by rw [← Nat.xor_assoc, Nat.xor_self, Nat.zero_xor]
theorem xx' (a b : Nat) : (a ^^^ b) ^^^ b = a := by rw [Nat.xor_assoc, Nat.xor_self, Nat.xor_zero]
/-- a number below a power of two, and a multiple of it -/
theorem add_xor {i a b : Nat} (h : b < 2 ^ i) : 2 ^ i * a + b = 2 ^ i * a ^^^ b := by
  apply Nat.eq_of_testBit_eq
  intro j
  rw [Nat.testBit_two_pow_mul_add a h, Nat.testBit_xor, Nat.testBit_two_pow_mul]
  by_cases hj : j < i
  · rw [if_pos hj]
    have : decide (i ≤ j) = false := decide_eq_false (by omega)
    simp [this]
  · rw [if_neg hj]
    have : decide (i ≤ j) = true := decide_eq_true (by omega)
    rw [this, Nat.testBit_lt_two_pow (Nat.lt_of_lt_of_le h (Nat.pow_le_pow_right (by decide) (by omega)))]
    simp
abbrev P : Nat := 3988292384
def s (c : Nat) : Nat := if c % 2 = 1 then c / 2 ^^^ P else c / 2
theorem s_xor (a b : Nat) : s (a ^^^ b) = s a ^^^ s b := by
  have h1 : (a ^^^ b) / 2 = a / 2 ^^^ b / 2 := Nat.xor_div_two
  have h2 := @Nat.xor_mod_two_eq_one a b
  unfold s
  rcases Nat.mod_two_eq_zero_or_one a with ha | ha <;> rcases Nat.mod_two_eq_zero_or_one b with hb | hb <;> simp only [h2, ha, hb, h1] <;> simp
  · rw [Nat.xor_assoc]
  · rw [Nat.xor_assoc, Nat.xor_comm (b / 2), Nat.xor_assoc]
  · rw [Nat.xor_assoc, xc P, ← Nat.xor_assoc, ← Nat.xor_assoc, xx']
theorem s_even (x : Nat) : s (2 * x) = x := by
  unfold s
  rw [if_neg (by omega)]
  omega
def T : List Nat := [0, 498536548, 997073096, 651767980, 1994146192, 1802195444, 1303535960, 1342533948, 3988292384, 4027552580, 3604390888, 3412177804, 2607071920, 2262029012, 2685067896, 3183342108]
theorem T_s : ∀ l, l < 16 → T[l]? = some (s (s (s (s l)))) := by decide
theorem T_get {l : Nat} (h : l < 16) : T.getD l 0 = s (s (s (s l))) := by rw [List.getD_eq_getElem?_getD, T_s l h]; rfl
/-- four bits at once -/
theorem nib (c : Nat) : c / 16 ^^^ T.getD (c % 16) 0 = s (s (s (s c))) := by
  rw [T_get (Nat.mod_lt _ (by decide))]
  have e : c = 2 * (2 * (2 * (2 * (c / 16)))) ^^^ c % 16 := by
    rw [show 2 * (2 * (2 * (2 * (c / 16)))) = 2 ^ 4 * (c / 16) by omega, ← add_xor (Nat.mod_lt _ (by decide))]
    omega
  rw [show s (s (s (s c))) = s (s (s (s (2 * (2 * (2 * (2 * (c / 16)))) ^^^ c % 16)))) from by rw [← e]]
  rw [s_xor, s_xor, s_xor, s_xor, s_even, s_even, s_even, s_even]
def s4 (c : Nat) : Nat := s (s (s (s c)))
def s8 (c : Nat) : Nat := s4 (s4 c)
/-- a byte behind -/
def step (c b : Nat) : Nat := s8 (c ^^^ b)
def fw (c : Nat) (bs : List Nat) : Nat := bs.foldl step c
abbrev M : Nat := 4294967295
def crc (bs : List Nat) : Nat := fw M bs ^^^ M
def okB (bs : List Nat) : Prop := ∀ b ∈ bs, b < 256
/-! ### back -/
def B28 : List Nat := T.map (· / 2 ^ 28)
/-- the place of the row with the highest digit u -/
def at28 (u : Nat) : Nat := (B28.findIdx (· == u))
def bk (c : Nat) : Nat := (c ^^^ T.getD (at28 (c / 2 ^ 28)) 0) * 16 + at28 (c / 2 ^ 28)
/-- the four bytes of a number, the lowest first -/
def low : Nat → Nat → List Nat
  | 0, _ => []
  | n + 1, c => c % 256 :: low n (c / 256)
end Crc

/-! numbers, bytes -/
namespace Law
open PySem L2 PyProof.Rows D
/-- plain things -/
def pl : DV → Bool
  | .non => true
  | .bl _ => true
  | .int _ => true
  | .str _ => true
  | .lst _ => true
  | .tup _ => true
  | .dct _ _ => true
  | _ => false
def numD (lo hi : Int) : DV → Bool
  | .int n => decide (lo ≤ n) && decide (n ≤ hi)
  | _ => false
theorem sp_is_number {a : DV} {lo hi : Int} {cs : List CellC} {q : DV → Kd → List CellC → Prop} {E : EK} (hp : pl a = true) (h : q (.bl (numD lo hi a)) .new cs) : XF F_is_number [a, .int lo, .int hi] cs q E := by
  unfold F_is_number
  refine x_wf' rfl ?_
  unfold sv_is_number
  cases a with
  | int n =>
    walk_at "wx"
    refine IfK.dec (fun h1 => ?_) (fun h1 => ?_)
    · walk_at "wx"
      simpa [numD, h1, RetT] using h
    · simpa [numD, h1, RetT] using h
  | _ => first | (cases hp; done) | (walk_at "wx"; exact h)
end Law

namespace Law
open PySem L2 PyProof.Rows D
def byteD (a : DV) : Bool := numD 0 255 a
def bytesD : DV → Bool
  | .lst ds => ds.all byteD
  | .tup ds => ds.all byteD
  | _ => false
theorem fm_map {f : DV → Bool} : ∀ ds : List DV, ds.filterMap (fun d => some (DV.bl (f d))) = (ds.map f).map DV.bl
  | [] => rfl
  | d :: ds => by rw [List.filterMap_cons, fm_map ds]; rfl
theorem sp_is_bytes {a : DV} {cs : List CellC} {q : DV → Kd → List CellC → Prop} {E : EK} (hp : pl a = true) (hs : ∀ ds, a = .lst ds ∨ a = .tup ds → ds.length ≤ sizeLine ∧ ∀ d ∈ ds, pl d = true) (h : q (.bl (bytesD a)) .new cs) : XF F_is_bytes [a] cs q E := by
  have key : ∀ ds, (a = .lst ds ∨ a = .tup ds) → bytesD a = ds.all byteD → XE (evCall (Blt.run CL .all) (akCons (e_is_bytes_1) (akNil)) ⟨startSl 2 [a], cs⟩) (fun a kd st => q a (RetT kd st) st.cs) E := fun ds hd hb => by
    obtain ⟨h1, h2⟩ := hs ds hd
    unfold e_is_bytes_1
    walk_at "wx"
    refine x_we_lc ?_
    walk_at "wx"
    refine ⟨ds, by rcases hd with rfl | rfl <;> rfl, h1, ?_⟩
    refine x_wl_fm (fun d => some (.bl (byteD d))) _ ds [] (fun d hd => ?_) ?_
    · walk_at "wx"
      refine sp_is_number (h2 d hd) ?_
      walk_at "wx"
      exact ⟨rfl, rfl⟩
    · walk_at "wx"
      refine x_wo_all (bs := ds.map byteD) (fm_map ds) ?_
      rw [show ((ds.map byteD).all id) = bytesD a from by rw [hb, List.all_map]; rfl]
      exact h
  unfold F_is_bytes
  refine x_wf' rfl ?_
  unfold sv_is_bytes
  cases a with
  | lst ds =>
    have k := key ds (.inl rfl) rfl
    generalize (evCall (Blt.run CL .all) (akCons (e_is_bytes_1) (akNil))) = X at k ⊢
    walk_at "wx"
    exact k
  | tup ds =>
    have k := key ds (.inr rfl) rfl
    generalize (evCall (Blt.run CL .all) (akCons (e_is_bytes_1) (akNil))) = X at k ⊢
    walk_at "wx"
    exact k
  | _ => first | (cases hp; done) | (clear key; generalize (evCall (Blt.run CL .all) (akCons (e_is_bytes_1) (akNil))) = X; walk_at "wx"; exact h)
end Law

namespace Law
open PySem L2 PyProof.Rows D
theorem sp_next {d : DrawSt} {n : Nat} {many : Int} {q : DV → Kd → List CellC → Prop} {E : EK} (ok : DrawOk d (n + 1)) (hm : 0 < many) (hm2 : many < 2 ^ 64) (h : ∀ r d' kd, 0 ≤ r → r < many → DrawOk d' n → q (.int r) kd [.draw d']) : XF F_l_next [.cel 0, .int many] [.draw d] q E := x_next_eqD ok hm hm2 h
theorem sp_pick {ds : List DV} {d : DrawSt} {n : Nat} {q : DV → Kd → List CellC → Prop} {E : EK} (ok : DrawOk d (n + 1)) (hne : 0 < ds.length) (hl : ds.length < 2 ^ 62) (h : ∀ x d', x ∈ ds → DrawOk d' n → q x (nk x .fro) [.draw d']) : XF F_l_pick [.cel 0, .lst ds] [.draw d] q E := by
  unfold F_l_pick
  refine x_wf' rfl ?_
  unfold sv_l_pick
  walk_at "wx"
  refine sp_next ok (by omega) (by omega) fun r d' kd r0 r1 ok' => ?_
  walk_at "wx"
  refine x_wo_ix r0 r1 fun x _ hx => ?_
  walk_at "wx"
  rw [retT_k]
  exact h x d' hx ok'
end Law

namespace Law
open PySem L2 PyProof.Rows D
theorem sp_need {a : DV} {cs : List CellC} {q : DV → Kd → List CellC → Prop} {E : EK} (hp : pl a = true) (hs : ∀ ds, a = .lst ds ∨ a = .tup ds → ds.length ≤ sizeLine ∧ ∀ d ∈ ds, pl d = true) (h1 : bytesD a = true → q .non .new cs) (h2 : bytesD a = false → E ⟨1, [], []⟩ cs) : XF F_need_bytes [a] cs q E := by
  unfold F_need_bytes
  refine x_wf' rfl ?_
  unfold sv_need_bytes
  walk_at "wx"
  refine sp_is_bytes hp hs ?_
  walk_at "wx"
  refine IfK.bool (fun hb => ?_) (fun hb => ?_)
  · walk_at "wx"
    exact h1 hb
  · walk_at "wx"
    exact h2 hb
end Law

/-! bytes as numbers from nought; check values -/
namespace Law
open PySem L2 PyProof.Rows D
abbrev nL (bs : List Nat) : List DV := bs.map fun b => DV.int (b : Nat)
/-- a value that is a list of these bytes -/
structure IsB (a : DV) (bs : List Nat) : Prop where
  e : a = .lst (nL bs) ∨ a = .tup (nL bs)
  ok : Crc.okB bs
  l : bs.length ≤ sizeLine
theorem nL_byte {bs : List Nat} (h : Crc.okB bs) : (nL bs).all byteD = true := by
  rw [List.all_eq_true]
  intro x hx
  obtain ⟨b, hb, rfl⟩ := List.mem_map.mp hx
  have := h b hb
  simp [byteD, numD]
  omega
theorem IsB.bytes {a : DV} {bs : List Nat} (h : IsB a bs) : bytesD a = true := by
  rcases h.e with rfl | rfl
  · exact nL_byte h.ok
  · exact nL_byte h.ok
theorem IsB.pl {a : DV} {bs : List Nat} (h : IsB a bs) : pl a = true := by rcases h.e with rfl | rfl <;> rfl
theorem IsB.hs {a : DV} {bs : List Nat} (h : IsB a bs) : ∀ ds, a = .lst ds ∨ a = .tup ds → ds.length ≤ sizeLine ∧ ∀ d ∈ ds, Law.pl d = true := fun ds hd => by
  have e : ds = nL bs := by rcases h.e with rfl | rfl <;> rcases hd with e | e <;> cases e <;> rfl
  subst e
  refine ⟨by simpa using h.l, fun d hd => ?_⟩
  obtain ⟨b, _, rfl⟩ := List.mem_map.mp hd
  rfl
theorem sp_need_ok {a : DV} {bs : List Nat} {cs : List CellC} {q : DV → Kd → List CellC → Prop} {E : EK} (h : IsB a bs) (h1 : q .non .new cs) : XF F_need_bytes [a] cs q E :=
  sp_need h.pl h.hs (fun _ => h1) fun hf => by rw [h.bytes] at hf; cases hf
/-! the register -/
theorem bxor (a b : Nat) : Builtin.bitXor (a : Int) (b : Int) = ((a ^^^ b : Nat) : Int) := by
  rw [Bits.bitXor_pp (Int.natCast_nonneg a) (Int.natCast_nonneg b), Int.toNat_natCast, Int.toNat_natCast]
theorem bxorL (a : Nat) : Builtin.bitXor (a : Int) 4294967295 = ((a ^^^ Crc.M : Nat) : Int) := bxor a Crc.M
theorem steps_ix (x : Nat) : dIx (.tup k_STEPS) (.int (Builtin.bitAnd (x : Int) 15)) = some (.int ((Crc.T.getD (x % 16) 0 : Nat) : Int), .fro) := by
  rw [bitAnd_m4]
  have h : x % 16 < 16 := Nat.mod_lt _ (by decide)
  have e : (x : Int) % 16 = ((x % 16 : Nat) : Int) := by omega
  rw [e]
  generalize x % 16 = z at h ⊢
  revert z
  have : ∀ z : Fin 16, dIx (.tup k_STEPS) (.int ((z.val : Nat) : Int)) = some (.int ((Crc.T.getD z.val 0 : Nat) : Int), .fro) := by
    intro z
    obtain ⟨z, hz⟩ := z
    have h : z = 0 ∨ z = 1 ∨ z = 2 ∨ z = 3 ∨ z = 4 ∨ z = 5 ∨ z = 6 ∨ z = 7 ∨ z = 8 ∨ z = 9 ∨ z = 10 ∨ z = 11 ∨ z = 12 ∨ z = 13 ∨ z = 14 ∨ z = 15 := (show ∀ z : Fin 16, z.val = 0 ∨ z.val = 1 ∨ z.val = 2 ∨ z.val = 3 ∨ z.val = 4 ∨ z.val = 5 ∨ z.val = 6 ∨ z.val = 7 ∨ z.val = 8 ∨ z.val = 9 ∨ z.val = 10 ∨ z.val = 11 ∨ z.val = 12 ∨ z.val = 13 ∨ z.val = 14 ∨ z.val = 15 from by decide +kernel) ⟨z, hz⟩
    rcases h with rfl | rfl | rfl | rfl | rfl | rfl | rfl | rfl | rfl | rfl | rfl | rfl | rfl | rfl | rfl | rfl <;> rfl
  exact fun z hz => this ⟨z, hz⟩
theorem nibI (x : Nat) : Builtin.bitXor ((x : Int) / 2 ^ Int.toNat 4) ((Crc.T.getD (x % 16) 0 : Nat) : Int) = ((Crc.s4 x : Nat) : Int) := by
  have e : (x : Int) / 2 ^ Int.toNat 4 = ((x / 16 : Nat) : Int) := by
    show (x : Int) / 16 = _
    omega
  rw [e, bxor, Crc.nib]
  rfl
theorem fw_run {c b : Nat} {s1 : D.Slot} {cs : List CellC} {k : KS} {E : EK} (h : k.nx ⟨[some (.int (Crc.step c b : Nat), false), s1, some (.int b, false)], cs⟩) : XS (b_forward_3 ⟨[some (.int c, false), s1, some (.int (b : Nat), false)], cs⟩) k E := by
  obtain ⟨nx, bk, ct, rt⟩ := k
  unfold b_forward_3 u1_forward_1 u1_forward_2
  walk_at "wx"
  rw [bxor]
  refine x_wo (steps_ix _) ?_
  walk_at "wx"
  rw [nibI]
  refine x_wo (steps_ix _) ?_
  walk_at "wx"
  rw [nibI]
  exact h
theorem sp_forward {a : DV} {bs : List Nat} {c : Nat} {cs : List CellC} {q : DV → Kd → List CellC → Prop} {E : EK} (he : a = .lst (nL bs) ∨ a = .tup (nL bs)) (hl : bs.length ≤ sizeLine) (h : ∀ kd, q (.int (Crc.fw c bs : Nat)) kd cs) : XF F_forward [.int c, a] cs q E := by
  unfold F_forward
  refine x_wf' rfl ?_
  unfold sv_forward
  have hit : itemsD a = some (nL bs) := by rcases he with rfl | rfl <;> rfl
  walk_at "wx"
  refine ⟨nL bs, hit, ?_⟩
  refine x_wfor (fun r st => ∃ (d : Nat) (rs : List Nat) (s2 : D.Slot), r = nL rs ∧ st = ⟨[some (.int (d : Nat), false), some (a, false), s2], cs⟩ ∧ Crc.fw d rs = Crc.fw c bs) _ _ ⟨c, bs, none, rfl, rfl, rfl⟩ ?_ ?_
  · rintro x r st ⟨d, rs, s2, hr, rfl, hd⟩
    cases rs with
    | nil => cases hr
    | cons b rs =>
      rw [nL, List.map_cons, List.cons.injEq] at hr
      obtain ⟨rfl, rfl⟩ := hr
      walk_at "wx"
      exact fw_run ⟨Crc.step d b, rs, _, rfl, rfl, hd⟩
  · rintro st ⟨d, rs, s2, hr, rfl, hd⟩
    cases rs with
    | cons b rs => cases hr
    | nil =>
      walk_at "wx"
      rw [← hd] at h
      exact h _
end Law

namespace Law
open PySem L2 PyProof.Rows D
theorem sp_check {a : DV} {bs : List Nat} {cs : List CellC} {q : DV → Kd → List CellC → Prop} {E : EK} (ha : IsB a bs) (h : q (.int (Crc.crc bs : Nat)) .new cs) : XF F_check [a] cs q E := by
  unfold F_check
  refine x_wf' rfl ?_
  unfold sv_check
  walk_at "wx"
  refine sp_need_ok ha ?_
  walk_at "wx"
  refine sp_forward (c := Crc.M) ha.e ha.l fun kd => ?_
  walk_at "wx"
  rw [bxorL]
  exact h
end Law

/-! drawn bytes -/
namespace Law
open PySem L2 PyProof.Rows D
theorem nats_of : ∀ {ys : List DV}, (∀ y ∈ ys, ∃ b : Nat, y = .int b ∧ b < 256) → ∃ bs : List Nat, ys = nL bs ∧ Crc.okB bs
  | [], _ => ⟨[], rfl, fun _ h => by simp at h⟩
  | y :: ys, h => by
    obtain ⟨b, rfl, hb⟩ := h y (by simp)
    obtain ⟨bs, rfl, hbs⟩ := nats_of (ys := ys) fun z hz => h z (by simp [hz])
    exact ⟨b :: bs, rfl, fun z hz => by rcases List.mem_cons.mp hz with rfl | hz; exact hb; exact hbs z hz⟩
theorem nL_mem {bs : List Nat} {x : DV} (h : x ∈ nL bs) : ∃ b ∈ bs, x = .int (b : Nat) := by
  obtain ⟨b, hb, rfl⟩ := List.mem_map.mp h
  exact ⟨b, hb, rfl⟩
theorem nat_of {r : Int} {m : Nat} (h0 : 0 ≤ r) (h1 : r < m) : ∃ b : Nat, r = b ∧ b < m := ⟨r.toNat, by omega, by omega⟩
theorem bk_v2 {sl : List Slot} {cs : List CellC} {a0 a1 a : DV} {kd : Kd} {j : Nat} {q : QE} (h1 : q a (kdO kd) ⟨sl, cs⟩) (h2 : q a (kdO kd) ⟨dropSl sl j, cs⟩) : BkT sl [(a0, .fro), (a1, .view j)] a kd cs q := by
  unfold BkT
  split
  · exact h1
  · exact h2
theorem sp_l_some {plain : Bool} {m : Nat} {d : DrawSt} {n : Nat} {q : DV → Kd → List CellC → Prop} {E : EK} (ok : DrawOk d (n + 2 * m + 1)) (hm : m ≤ 100000) (h : ∀ bs d', Crc.okB bs → bs.length ≤ m → DrawOk d' n → q (.lst (nL bs)) .new [.draw d']) :
    XF F_l_some [.cel 0, .int (m : Nat), .bl plain] [.draw d] q E := by
  have key : ∀ sg : List Nat, Crc.okB sg → 0 < sg.length → sg.length ≤ 100 → XS (t_l_some_1 ⟨[some (.cel 0, false), some (.int (m : Nat), false), some (.bl plain, false), some (.lst (nL sg), true), none, none, none], [.draw d]⟩) ⟨fun st => q .non .new st.cs, fun _ => False, fun _ => False, fun a kd st => q a (RetT kd st) st.cs⟩ E := fun sg hs s0 s1 => by
    unfold t_l_some_1 e_l_some_1
    walk_at "wx"
    refine x_we_lc ?_
    walk_at "wx"
    refine sp_next (n := n + 2 * m) ok (by omega) (by omega) fun r d1 kd r0 r1 ok1 => ?_
    walk_at "wx"
    refine ⟨by omega, ?_⟩
    have hlen : (rangeL 0 r.toNat).length = r.toNat := by simp [rangeL]
    refine ⟨by rw [hlen, sl_eq]; omega, ?_⟩
    refine x_wl_inv (fun j st => ∃ d, st = ⟨[some (.cel 0, false), some (.int (m : Nat), false), some (.bl plain, false), some (.lst (nL sg), true), none, none, none], [.draw d]⟩ ∧ DrawOk d (n + r.toNat + j)) (fun y => ∃ b : Int, y = .int b) _ _ ⟨d1, rfl, ok1.mono (by omega)⟩ (fun y j st _ ⟨d2, e, ok2⟩ => ?_) fun ys st hl hy ⟨d2, e, ok2⟩ => ?_
    · subst e
      walk_at "wx"
      refine sp_next (n := n + r.toNat + j) ok2 (by decide) (by decide) fun x d3 kd x0 x1 ok3 => ?_
      walk_at "wx"
      exact ⟨⟨_, rfl⟩, d3, rfl, ok3⟩
    · subst e
      rw [hlen] at hl
      unfold t_l_some_2 e_l_some_2
      walk_at "wx"
      refine x_we_lc ?_
      walk_at "wx"

      refine x_wl_inv (fun j st => ∃ d b3 s4, st = ⟨[some (.cel 0, false), some (.int (m : Nat), false), some (.bl plain, false), some (.lst (nL sg), b3), s4, none, none], [.draw d]⟩ ∧ DrawOk d (n + j)) (fun y => ∃ b : Nat, y = .int b ∧ b < 256) _ _ ⟨d2, true, _, rfl, ok2.mono (by omega)⟩ (fun y j st hy' ⟨d4, b3, s4, e, ok4⟩ => ?_) fun zs st hl' hz ⟨d4, b3, s4, e, ok4⟩ => ?_
      · subst e
        obtain ⟨b, rfl⟩ := hy y hy'
        walk_at "wx"
        refine IfK.dec (fun hb => ?_) (fun hb => ?_)
        · cases b3
          · walk_at "wx"
            refine sp_pick (n := n + j) ok4 (by simpa using s0) (by simp; omega) fun x d5 hx ok5 => ?_
            obtain ⟨b, hb, rfl⟩ := nL_mem hx
            walk_at "wx"
            exact ⟨⟨b, rfl, hs b hb⟩, d5, _, _, rfl, ok5⟩
          · walk_at "wx"
            refine sp_pick (n := n + j) ok4 (by simpa using s0) (by simp; omega) fun x d5 hx ok5 => ?_
            obtain ⟨b, hb, rfl⟩ := nL_mem hx
            refine bk_v2 ?_ ?_
            · walk_at "wx"
              exact ⟨⟨b, rfl, hs b hb⟩, d5, _, _, rfl, ok5⟩
            · walk_at "wx"
              exact ⟨⟨b, rfl, hs b hb⟩, d5, _, _, rfl, ok5⟩
        · walk_at "wx"
          refine sp_next (n := n + j) ok4 (by decide) (by decide) fun x d5 kd x0 x1 ok5 => ?_
          walk_at "wx"
          obtain ⟨b, rfl, hb⟩ := nat_of x0 x1
          exact ⟨⟨b, rfl, hb⟩, d5, _, _, rfl, ok5⟩
      · subst e
        obtain ⟨bs, rfl, hbs⟩ := nats_of hz
        walk_at "wx"
        exact h bs d4 hbs (by simp at hl'; omega) (by simpa using ok4)
  unfold F_l_some
  refine x_wf' rfl ?_
  unfold sv_l_some
  walk_at "wx"
  cases plain
  · walk_at "wx"
    exact key [80, 75, 5, 6, 0, 1] (by unfold Crc.okB; decide) (by decide) (by decide)
  · walk_at "wx"
    exact key [0, 1, 255, 80, 75, 5, 6, 3, 4] (by unfold Crc.okB; decide) (by decide) (by decide)
end Law

/-! equality with [], what repr asks -/
namespace Law
open PySem L2 PyProof.Rows D
theorem eq_nil {ys : List DV} (ho : dOks ys = true) (hd : dDps ys ≤ 60) : eqD (.lst ys) (.lst []) = some ys.isEmpty := by
  obtain ⟨ps, r⟩ := toPs_ok ys ho
  have s1 : SeqAt.shaped (.list ps) = true := by
    show (PyData.canLayAll0 ps && decide (PyData.depthAll ps + 1 ≤ 64)) = true
    rw [r.lay, r.dp, decide_eq_true (by omega)]; rfl
  have s2 : SeqAt.shaped (.list []) = true := rfl
  show dEqv (.lst ys) (.lst []) = _
  unfold dEqv
  rw [show toP (.lst ys) = some (.list ps) from by simp only [toP, r.eq]; rfl, show toP (.lst []) = some (.list []) from rfl]
  simp only [s1, s2, Bool.and_self, if_true]
  have he := r.eq
  cases ys with
  | nil => cases he; rfl
  | cons y ys =>
    simp only [toPs] at he
    split at he <;> cases he
    rfl
theorem nL_iL (bs : List Nat) : DV.lst (nL bs) = iL (bs.map fun b : Nat => (b : Int)) := by
  show DV.lst _ = DV.lst _
  rw [nL, List.map_map]
  rfl
theorem rep_nL {bs : List Nat} (h : Crc.okB bs) (hl : bs.length ≤ 2000) : RepOk (.lst (nL bs)) := by
  rw [nL_iL]
  refine RepOk.ints (by simpa using hl) fun x hx => ?_
  obtain ⟨b, hb, rfl⟩ := List.mem_map.mp hx
  have := h b hb
  omega
theorem nL_oks {bs : List Nat} (h : Crc.okB bs) : dOks (nL bs) = true := by
  have := dOks_ints (xs := bs.map fun b : Nat => (b : Int)) fun x hx => by
    obtain ⟨b, hb, rfl⟩ := List.mem_map.mp hx
    have := h b hb
    omega
  rw [List.map_map] at this
  exact this
theorem nL_dps {bs : List Nat} : dDps (nL bs) = 0 := by
  have := dDps_ints (xs := bs.map fun b : Nat => (b : Int))
  rw [List.map_map] at this
  exact this
end Law

/-! times -/
namespace Law
open PySem L2 PyProof.Rows D
def daysI (y m : Int) : Int := if m = 2 then (if y % 4 = 0 ∧ y ≠ 2100 then 29 else 28) else if m = 4 ∨ m = 6 ∨ m = 9 ∨ m = 11 then 30 else 31
def ivD : DV → Int
  | .int i => i
  | _ => 0
def timeD : DV → Bool
  | .tup [a, b, c, d, e, f] => numD 1980 2107 a && (numD 1 12 b && (numD 1 (daysI (ivD a) (ivD b)) c && (numD 0 23 d && (numD 0 59 e && (numD 0 59 f && decide (ivD f % 2 = 0))))))
  | _ => false
theorem numD_int {lo hi : Int} {a : DV} (h : numD lo hi a = true) : ∃ n, a = .int n ∧ lo ≤ n ∧ n ≤ hi := by
  cases a <;> first | (cases h; done) | skip
  rename_i n
  simp only [numD, Bool.and_eq_true, decide_eq_true_eq] at h
  exact ⟨n, rfl, h⟩
theorem month_cases {m : Int} (h1 : 1 ≤ m) (h2 : m ≤ 12) : m = 1 ∨ m = 2 ∨ m = 3 ∨ m = 4 ∨ m = 5 ∨ m = 6 ∨ m = 7 ∨ m = 8 ∨ m = 9 ∨ m = 10 ∨ m = 11 ∨ m = 12 := by
  have e : m = (((m - 1).toNat : Nat) : Int) + 1 := by omega
  rw [e]
  exact (show ∀ z : Fin 12, ((z.val : Nat) : Int) + 1 = 1 ∨ ((z.val : Nat) : Int) + 1 = 2 ∨ ((z.val : Nat) : Int) + 1 = 3 ∨ ((z.val : Nat) : Int) + 1 = 4 ∨ ((z.val : Nat) : Int) + 1 = 5 ∨ ((z.val : Nat) : Int) + 1 = 6 ∨ ((z.val : Nat) : Int) + 1 = 7 ∨ ((z.val : Nat) : Int) + 1 = 8 ∨ ((z.val : Nat) : Int) + 1 = 9 ∨ ((z.val : Nat) : Int) + 1 = 10 ∨ ((z.val : Nat) : Int) + 1 = 11 ∨ ((z.val : Nat) : Int) + 1 = 12 from by decide +kernel) ⟨(m - 1).toNat, by omega⟩
theorem sp_days_in {y m : Int} {cs : List CellC} {q : DV → Kd → List CellC → Prop} {E : EK} (hy : 1980 ≤ y ∧ y ≤ 2107) (hm : 1 ≤ m ∧ m ≤ 12) (h : q (.int (daysI y m)) .new cs) : XF F_days_in [.int y, .int m] cs q E := by
  unfold F_days_in
  refine x_wf' rfl ?_
  unfold sv_days_in
  have key : ∀ lp : Bool, (lp = true ↔ (y % 4 = 0 ∧ y ≠ 2100)) → XOp (dIx (.tup k_MONTHS) (.int (m - 1))) (fun c kd => NkT c kd ⟨(startSl 3 [DV.int y, DV.int m]).set 2 (some (.bl lp, false)), cs⟩ fun a x st1 => XE (evCall (Blt.run CL .int) (akCons (evAnd (evOp (dCmp .Eq) (evVar 1) (evC (.int 2))) (evVar 2)) (akNil)) st1) (fun b x st2 => XOp (dBin .Add a b) fun c kd => q c (RetT kd st2) st2.cs) E) := fun lp hlp => by
    have h28 : daysI y 2 = 28 + (if lp = true then 1 else 0) := by
      unfold daysI
      cases lp <;> simp at hlp ⊢
      · intro a; exact hlp a
      · exact hlp
    rcases month_cases hm.1 hm.2 with rfl | rfl | rfl | rfl | rfl | rfl | rfl | rfl | rfl | rfl | rfl | rfl
    all_goals walk_at "wx"
    all_goals first | exact h | (rw [h28] at h; cases lp <;> exact h)
  walk_at "wx"
  refine IfK.dec (fun h4 => ?_) (fun h4 => ?_)
  · walk_at "wx"
    refine IfK.dec (fun h100 => ?_) (fun h100 => ?_)
    · walk_at "wx"
      refine key _ ?_
      rw [decide_eq_true_eq]
      omega
    · walk_at "wx"
      refine key _ ?_
      simp only [Bool.not_eq_true', decide_eq_false_iff_not]
      omega
  · walk_at "wx"
    refine key _ ?_
    rw [decide_eq_true_eq]
    omega
theorem cons_of {ds : List DV} {n : Nat} (h : ds.length = n + 1) : ∃ d r, ds = d :: r ∧ r.length = n := by
  cases ds with
  | nil => cases h
  | cons d r => exact ⟨d, r, rfl, by simpa using h⟩
theorem six_of {ds : List DV} (h : ds.length = 6) : ∃ a b c d e f, ds = [a, b, c, d, e, f] := by
  obtain ⟨a, r1, rfl, h5⟩ := cons_of h
  obtain ⟨b, r2, rfl, h4⟩ := cons_of h5
  obtain ⟨c, r3, rfl, h3⟩ := cons_of h4
  obtain ⟨d, r4, rfl, h2⟩ := cons_of h3
  obtain ⟨e, r5, rfl, h1⟩ := cons_of h2
  obtain ⟨f, r, rfl, h0⟩ := cons_of h1
  cases r with
  | nil => exact ⟨_, _, _, _, _, _, rfl⟩
  | cons _ _ => cases h0
theorem timeD_no {ds : List DV} (h : ds.length ≠ 6) : timeD (.tup ds) = false := by
  unfold timeD
  split
  · rename_i e
    cases e
    exact absurd rfl h
  · rfl
theorem sp_is_time {x : DV} {cs : List CellC} {q : DV → Kd → List CellC → Prop} {E : EK} (hp : pl x = true) (hs : ∀ ds, x = .tup ds → ∀ d ∈ ds, pl d = true) (h : q (.bl (timeD x)) .new cs) : XF F_is_time [x] cs q E := by
  unfold F_is_time
  refine x_wf' rfl ?_
  unfold sv_is_time t_is_time_1 t_is_time_2 t_is_time_3 t_is_time_4
  cases x with
  | tup ds =>
    walk_at "wx"
    refine IfK.dec (fun h6 => ?_) (fun h6 => ?_)
    · have h6 : ds.length = 6 := by omega
      obtain ⟨a, b, c, d, e, f, rfl⟩ := six_of h6
      have hs := hs _ rfl
      walk_at "wx"
      have pa := hs a (by simp)
      have pb := hs b (by simp)
      have pc := hs c (by simp)
      have pd := hs d (by simp)
      have pe := hs e (by simp)
      have pf := hs f (by simp)
      clear hs
      refine sp_is_number pa ?_
      walk_at "wx"
      refine IfK.bool (fun ka => ?_) (fun ka => ?_)
      rotate_left
      · walk_at "wx"
        simp only [timeD, ka, Bool.false_and, Bool.and_false] at h
        exact h
      obtain ⟨y, rfl, hy⟩ := numD_int ka
      walk_at "wx"
      refine sp_is_number pb ?_
      walk_at "wx"
      refine IfK.bool (fun kb => ?_) (fun kb => ?_)
      rotate_left
      · walk_at "wx"
        simp only [timeD, kb, Bool.false_and, Bool.and_false] at h
        exact h
      obtain ⟨m, rfl, hm⟩ := numD_int kb
      walk_at "wx"
      refine sp_days_in hy hm ?_
      walk_at "wx"
      refine sp_is_number pc ?_
      walk_at "wx"
      refine IfK.bool (fun kc => ?_) (fun kc => ?_)
      rotate_left
      · walk_at "wx"
        simp only [timeD, kc, Bool.false_and, Bool.and_false, ivD] at h
        exact h
      walk_at "wx"
      refine sp_is_number pd ?_
      walk_at "wx"
      refine IfK.bool (fun kd => ?_) (fun kd => ?_)
      rotate_left
      · walk_at "wx"
        simp only [timeD, kd, Bool.false_and, Bool.and_false] at h
        exact h
      walk_at "wx"
      refine sp_is_number pe ?_
      walk_at "wx"
      refine IfK.bool (fun ke => ?_) (fun ke => ?_)
      rotate_left
      · simp only [timeD, ke, Bool.false_and, Bool.and_false] at h
        rw [ke]
        exact h
      walk_at "wx"
      refine sp_is_number pf ?_
      walk_at "wx"
      refine IfK.bool (fun kf => ?_) (fun kf => ?_)
      rotate_left
      · simp only [timeD, kf, Bool.false_and, Bool.and_false] at h
        rw [kf]
        exact h
      obtain ⟨s, rfl, hs⟩ := numD_int kf
      walk_at "wx"
      simp only [timeD, ivD, ka, kb, kc, kd, ke, kf, Bool.true_and] at h
      exact h
    · walk_at "wx"
      rw [timeD_no (by omega)] at h
      exact h
  | _ => first | (cases hp; done) | (walk_at "wx"; exact h)
end Law

/-! times and their numbers -/
namespace Law
open PySem L2 PyProof.Rows D
structure TimeI (y m d h n s : Int) : Prop where
  iy : 1980 ≤ y ∧ y ≤ 2107
  im : 1 ≤ m ∧ m ≤ 12
  id : 1 ≤ d ∧ d ≤ daysI y m
  ih : 0 ≤ h ∧ h ≤ 23
  im' : 0 ≤ n ∧ n ≤ 59
  is : 0 ≤ s ∧ s ≤ 59
  ie : s % 2 = 0
abbrev tD (y m d h n s : Int) : DV := .tup [.int y, .int m, .int d, .int h, .int n, .int s]
theorem timeD_tD {y m d h n s : Int} : timeD (tD y m d h n s) = true ↔ TimeI y m d h n s := by
  simp only [timeD, numD, ivD, Bool.and_eq_true, decide_eq_true_eq]
  constructor
  · rintro ⟨h1, h2, h3, h4, h5, h6, h7⟩
    exact ⟨h1, h2, ⟨h3.1, of_decide_eq_true h3.2⟩, h4, h5, h6, of_decide_eq_true h7⟩
  · rintro ⟨h1, h2, h3, h4, h5, h6, h7⟩
    exact ⟨h1, h2, ⟨h3.1, decide_eq_true h3.2⟩, h4, h5, h6, decide_eq_true h7⟩
theorem pl_six {a b c d e f : Int} : ∀ ds, tD a b c d e f = .tup ds → ∀ d ∈ ds, pl d = true := fun ds h => by
  cases h
  intro z hz
  simp only [List.mem_cons, List.not_mem_nil, or_false] at hz
  rcases hz with rfl | rfl | rfl | rfl | rfl | rfl <;> rfl
end Law

/-! texts: names, comments, signs -/
namespace Law
open PySem L2 PyProof.Rows D
theorem XF_run {F : Fn} {ds : List DV} {cs cs' : List CellC} {q : DV → Kd → List CellC → Prop} {E : EK} {v : DV} {kd : Kd} {sl : List Slot} (h : F ds ⟨[], cs⟩ = .ok (v, kd) ⟨sl, cs'⟩) (hq : q v kd cs') : XF F ds cs q E := by
  with_unfolding_all
  show W (F ds ⟨[], cs⟩) (fun a st => q a.1 a.2 st.cs) E
  rw [h]
  exact hq
theorem fl_non  : flat (DV.non) = true := rfl
theorem ic_non  : isCont (DV.non) = false := rfl
theorem fl_bl (b : Bool) : flat (DV.bl b) = true := rfl
theorem ic_bl (b : Bool) : isCont (DV.bl b) = false := rfl
theorem fl_int (i : Int) : flat (DV.int i) = true := rfl
theorem ic_int (i : Int) : isCont (DV.int i) = false := rfl
theorem fl_str (s : Str) : flat (DV.str s) = true := rfl
theorem ic_str (s : Str) : isCont (DV.str s) = false := rfl
theorem fl_ty (n : String) : flat (DV.ty n) = true := rfl
theorem ic_ty (n : String) : isCont (DV.ty n) = false := rfl
theorem fl_lst (xs : List DV) : flat (DV.lst xs) = false := rfl
theorem ic_lst (xs : List DV) : isCont (DV.lst xs) = true := rfl
theorem fl_tup (xs : List DV) : flat (DV.tup xs) = false := rfl
theorem ic_tup (xs : List DV) : isCont (DV.tup xs) = false := rfl
theorem fl_dct (ks : List Key) (vs : List DV) : flat (DV.dct ks vs) = false := rfl
theorem ic_dct (ks : List Key) (vs : List DV) : isCont (DV.dct ks vs) = true := rfl
theorem fl_cel (k : Nat) : flat (DV.cel k) = false := rfl
theorem ic_cel (k : Nat) : isCont (DV.cel k) = false := rfl
theorem fl_ins (c : Nat) (ns : List Str) (vs : List DV) : flat (DV.ins c ns vs) = false := rfl
theorem ic_ins (c : Nat) (ns : List Str) (vs : List DV) : isCont (DV.ins c ns vs) = true := rfl
theorem fl_scr (xs : List Int) : flat (DV.scr xs) = false := rfl
theorem ic_scr (xs : List Int) : isCont (DV.scr xs) = false := rfl
theorem fl_cls (c : Nat) : flat (DV.cls c) = false := rfl
theorem ic_cls (c : Nat) : isCont (DV.cls c) = false := rfl
theorem sl_eq : sizeLine = 16777216 := rfl
def okC (n : Int) : Bool := decide (32 ≤ n) && (decide (n ≤ 126) && !decide (n = 37))
theorem printable_run (n : Int) (cs : List CellC) : F_is_printable [.int n] ⟨[], cs⟩ = .ok (.bl (okC n), .new) ⟨[], cs⟩ := by
  unfold F_is_printable sv_is_printable okC
  by_cases h1 : 32 ≤ n <;> by_cases h2 : n ≤ 126 <;> by_cases h3 : n = 37 <;> simp [fnSv, startSl, svRet, svSeq, svIf, svSet, svNx, outRet, evAnd, evOr, evNot, evChain, evOp, evC, evVar, evCall, evN, evFn, akCons, akNil, f1, f2, Blt.run, Out.bind, truD, tvB, tvE, tvAnd, tvOr, tvNot, tvYes, dCmp, dLe, dLt, dGe, dGt, dEq, dNe, dIs, dIsNot, isD, eqD, backTo', safeR, eatAll, DS.put, DS.eat, evCons, evNil, evLst, evTup, fl_non, ic_non, fl_bl, ic_bl, fl_int, ic_int, fl_str, ic_str, fl_ty, ic_ty, fl_lst, ic_lst, fl_tup, ic_tup, fl_dct, ic_dct, fl_cel, ic_cel, fl_ins, ic_ins, fl_scr, ic_scr, fl_cls, ic_cls, h1, h2, h3]
def okN (c : Nat) : Bool := okC (c : Int)
theorem atI_in {α : Type} {xs : List α} {j : Int} (h0 : 0 ≤ j) (h1 : j < xs.length) : ∃ x, atI xs j = some x ∧ x ∈ xs := by
  have hj : j.toNat < xs.length := by omega
  refine ⟨xs[j.toNat], ?_, List.getElem_mem hj⟩
  have := atI_nat (xs := xs) (j := j.toNat) (List.getElem?_eq_getElem hj)
  rw [Int.toNat_of_nonneg h0] at this
  exact this
end Law

/-! texts of signs -/
namespace Law
open PySem L2 PyProof.Rows D
abbrev S (l : List Nat) : Str := SX.S l
abbrev SG : Str := " !\"#$&'()*+,-./0123456789:;<=>?@ABCDEFGHIJKLMNOPQRSTUVWXYZ[\\]^_`abcdefghijklmnopqrstuvwxyz{|}~"
end Law

namespace Law
open PySem L2 PyProof.Rows D
end Law

namespace Law
open PySem L2 PyProof.Rows D
end Law

/-! entries as data -/
namespace Law
open PySem L2 PyProof.Rows D
structure Ent where
  l : List Nat
  data : List Nat
  y : Nat
  m : Nat
  dd : Nat
  hh : Nat
  n : Nat
  s : Nat
  nt : List Nat
abbrev Ent.tm (e : Ent) : DV := .tup [.int (e.y : Nat), .int (e.m : Nat), .int (e.dd : Nat), .int (e.hh : Nat), .int (e.n : Nat), .int (e.s : Nat)]
end Law

namespace Law
open PySem L2 PyProof.Rows D
end Law

/-! moments, notes, entries -/
namespace Law
open PySem L2 PyProof.Rows D
end Law

namespace Law
open PySem L2 PyProof.Rows D
theorem lenS {l : List Nat} (hl : l.length ≤ 100000) : lenD (.str (S l)) = some (.int (l.length : Nat), .new) := by
  have hS : (S l).length ≤ sizeLine := by rw [SX.S_len, sl_eq]; omega
  have hS2 : (S l).length = l.length := SX.S_len l
  rw [hS2] at hS
  simp [lenD, hS, hS2]
theorem items_S (l : List Nat) : strItems (S l) = l.map fun c => DV.str ⟨#[c]⟩ := by
  show (S l).cps.toList.map _ = _
  rfl
theorem sp_is_text {l : List Nat} {cs : List CellC} {q : DV → Kd → List CellC → Prop} {E : EK} (hl : l.length ≤ 100000) (h : q (.bl (l.all okN)) .new cs) : XF F_is_text [.str (S l)] cs q E := by
  unfold F_is_text
  refine x_wf' rfl ?_
  unfold sv_is_text e_is_text_1
  walk_at "wx"
  refine x_we_lc ?_
  walk_at "wx"
  refine ⟨by rw [items_S, List.length_map, sl_eq]; omega, ?_⟩
  rw [items_S]
  refine x_wl_fm (fun d => some (.bl (match d with | .str s => s.cps.toList.all okN | _ => false))) _ _ [] (fun d hd => ?_) ?_
  · obtain ⟨c, hc, rfl⟩ := List.mem_map.mp hd
    walk_at "wx"
    refine XF_run (printable_run _ _) ?_
    walk_at "wx"
    exact ⟨by simp [okN], rfl⟩
  · walk_at "wx"
    refine x_wo_all (bs := l.map okN) ?_ ?_
    · rw [List.nil_append, fm_map, List.map_map, List.map_map, List.map_map]
      refine List.map_congr_left fun c _ => ?_
      simp
    · rw [List.all_map]
      exact h
theorem sp_is_name {l : List Nat} {cs : List CellC} {q : DV → Kd → List CellC → Prop} {E : EK} (ho : l.all okN = true) (hl : l.length ≤ 24) (h1 : 1 ≤ l.length) (h : q (.bl true) .new cs) : XF F_is_name [.str (S l)] cs q E := by
  unfold F_is_name
  refine x_wf' rfl ?_
  unfold sv_is_name
  walk_at "wx"
  refine sp_is_text (by omega) ?_
  rw [ho]
  walk_at "wx"
  refine x_wo (lenS (by omega)) ?_
  refine ⟨true, by show some (DV.bl (decide _), Kd.new) = _; rw [decide_eq_true (by omega)], ?_⟩
  walk_at "wx"
  rw [decide_eq_true (by omega)]
  exact h
theorem sp_is_comment {l : List Nat} {cs : List CellC} {q : DV → Kd → List CellC → Prop} {E : EK} (ho : l.all okN = true) (hl : l.length ≤ 40) (h : q (.bl true) .new cs) : XF F_is_comment [.str (S l)] cs q E := by
  unfold F_is_comment
  refine x_wf' rfl ?_
  unfold sv_is_comment
  walk_at "wx"
  refine sp_is_text (by omega) ?_
  rw [ho]
  walk_at "wx"
  refine x_wo (lenS (by omega)) ?_
  walk_at "wx"
  rw [decide_eq_true (by omega)]
  exact h
theorem celT_end {C : CT} {sl : List D.Slot} {cs : List CellC} {c : Nat} {f : Str} {a : DV} {nx : DS → Prop} {ns ns' : List Str} {vs vs' : List DV} (h1 : (c, f) ∈ C.fi) (h2 : ns.length < 1000) (h3 : putFD f a ns vs = (ns', vs')) (hk : nx ⟨sl, cs ++ [.obj (.ins c ns' vs')]⟩) : CelT C ⟨sl, cs ++ [.obj (.ins c ns vs)]⟩ (.cel cs.length) f a nx :=
  celT (by simp) h1 h2 h3 (by simp) hk
theorem putFD_new {f : Str} {a : DV} : ∀ {ns : List Str} {vs : List DV}, ns.contains f = false → ns.length = vs.length → putFD f a ns vs = (ns ++ [f], vs ++ [a])
  | [], [], _, _ => rfl
  | n :: ns, v :: vs, h, hl => by
    rw [List.contains_cons, Bool.or_eq_false_iff] at h
    unfold putFD
    rw [if_neg (by intro e; subst e; simp at h), putFD_new h.2 (by simpa using hl)]
    rfl
  | [], _ :: _, _, hl => by simp at hl
  | _ :: _, [], _, hl => by simp at hl
theorem celT_new {C : CT} {sl : List D.Slot} {cs : List CellC} {c : Nat} {f : Str} {a : DV} {nx : DS → Prop} {ns : List Str} {vs : List DV} (h1 : (c, f) ∈ C.fi) (h2 : ns.length < 1000) (h3 : ns.contains f = false) (h4 : ns.length = vs.length) (hk : nx ⟨sl, cs ++ [.obj (.ins c (ns ++ [f]) (vs ++ [a]))]⟩) : CelT C ⟨sl, cs ++ [.obj (.ins c ns vs)]⟩ (.cel cs.length) f a nx :=
  celT_end h1 h2 (putFD_new h3 h4) hk
theorem fldC_end {C : CT} {sl : List D.Slot} {cs : List CellC} {c : Nat} {f : Str} {d : DV} {ns : List Str} {vs : List DV} (h : fldD C f (.ins c ns vs) = some d) : fldC C f ⟨sl, cs ++ [.obj (.ins c ns vs)]⟩ (.cel cs.length) = some d := by
  unfold fldC
  simp only [List.getElem?_concat_length]
  exact h
theorem noCels_nL : ∀ bs : List Nat, noCels (nL bs) = true
  | [] => rfl
  | b :: bs => by
    show (noCel (.int b) && noCels (nL bs)) = true
    rw [noCels_nL bs]
    rfl
abbrev entNs : List Str := ["name", "own_data", "time", "comment", "own_check"]
/-- an entry, made -/
abbrev eI (e : Ent) : DV := .ins 20 entNs [.str (S e.l), .lst (nL e.data), e.tm, .str (S e.nt), .int (Crc.crc e.data : Nat)]
theorem noCel_eI (e : Ent) : noCel (eI e) = true := by
  show (noCel (.str (S e.l)) && (noCels (nL e.data) && (noCel e.tm && (noCel (.str (S e.nt)) && (noCel (.int (Crc.crc e.data : Nat)) && noCels []))))) = true
  rw [noCels_nL]
  rfl
structure Ent.Gd (e : Ent) : Prop where
  l1 : 1 ≤ e.l.length
  l2 : e.l.length ≤ 24
  lo : e.l.all okN = true
  d1 : e.data.length ≤ 1500
  dO : Crc.okB e.data
  t : TimeI e.y e.m e.dd e.hh e.n e.s
  n1 : e.nt.length ≤ 40
  no : e.nt.all okN = true
theorem sp_Entry {e : Ent} (g : e.Gd) {a : DV} {cs : List CellC} {q : DV → Kd → List CellC → Prop} {E : EK} (hd : cs.all isDraw = true) (ha : IsB a e.data) (h : q (eI e) .new cs) : XF F_Entry_init [.str (S e.l), a, e.tm, .str (S e.nt)] cs q E := by
  unfold F_Entry_init
  refine x_wf_ini rfl hd ?_
  unfold sv_Entry_init t_Entry_init_1 t_Entry_init_2 t_Entry_init_3
  walk_at "wx"
  refine sp_is_name g.lo g.l2 g.l1 ?_
  walk_at "wx"
  refine sp_is_bytes ha.pl ha.hs ?_
  rw [ha.bytes]
  walk_at "wx"
  have hlen : lenD a = some (.int (e.data.length : Nat), .new) := by
    rcases ha.e with rfl | rfl
    · show some (DV.int ((nL e.data).length : Nat), Kd.new) = _
      simp
    · show some (DV.int ((nL e.data).length : Nat), Kd.new) = _
      simp
  refine x_wo hlen ?_
  walk_at "wx"
  refine IfK.dec (fun hx => absurd hx (by have := g.d1; omega)) (fun _ => ?_)
  walk_at "wx"
  refine sp_is_time rfl (pl_six (a := e.y)) ?_
  rw [timeD_tD.mpr g.t]
  walk_at "wx"
  refine sp_is_comment g.no g.n1 ?_
  have fin : ∀ {nx bk ct : DS → Prop} {rt : QE} {EE : EK}, nx ⟨[some (.cel cs.length, false), some (.str (S e.l), false), some (a, false), some (e.tm, false), some (.str (S e.nt), false)], cs ++ [.obj (eI e)]⟩ → XS (t_Entry_init_4 ⟨[some (.cel cs.length, false), some (.str (S e.l), false), some (a, false), some (e.tm, false), some (.str (S e.nt), false)], cs ++ [.obj (.ins 20 [] [])]⟩) ⟨nx, bk, ct, rt⟩ EE := fun {nx bk ct rt EE} hn => by
    unfold t_Entry_init_4 t_Entry_init_5 t_Entry_init_6 t_Entry_init_7 t_Entry_init_8
    walk_at "wx"
    refine celT_new (by decide) (by decide) (by decide) rfl ?_
    rcases ha.e with rfl | rfl
    all_goals
      walk_at "wx"
      refine celT_new (by decide) (by decide) (by decide) rfl ?_
      walk_at "wx"
      refine celT_new (by decide) (by decide) (by decide) rfl ?_
      walk_at "wx"
      refine celT_new (by decide) (by decide) (by decide) rfl ?_
      walk_at "wx"
      refine ⟨_, fldC_end (by with_unfolding_all rfl), ?_⟩
      walk_at "wx"
      refine sp_check ⟨.inl rfl, g.dO, by rw [sl_eq]; have := g.d1; omega⟩ ?_
      walk_at "wx"
      refine celT_new (by decide) (by decide) (by decide) rfl ?_
      exact hn
  generalize t_Entry_init_4 = X at fin ⊢
  walk_at "wx"
  exact fin ⟨_, cs, rfl, rfl, hd, noCel_eI e, h⟩
end Law

/-! bytes as texts -/
namespace Law
open PySem L2 PyProof.Rows D
def hxC (n : Nat) : Nat := if n < 10 then 48 + n else 87 + n
def hexL : List Nat → List Nat
  | [] => []
  | b :: r => hxC (b / 16) :: hxC (b % 16) :: hexL r
def isHx (c : Nat) : Bool := (decide (48 ≤ c) && decide (c < 58)) || (decide (97 ≤ c) && decide (c < 103))
def hxV (c : Nat) : Nat := if c < 58 then c - 48 else c - 87
def pairL : List Nat → List Nat
  | a :: b :: r => (16 * hxV a + hxV b) :: pairL r
  | _ => []
def dueL (l : List Nat) : Option (List Nat) := if l.length % 2 = 1 ∨ l.all isHx = false then none else some (pairL l)
theorem hx_ok : ∀ n : Nat, n < 16 → isHx (hxC n) = true ∧ hxV (hxC n) = n := by decide +kernel
theorem hexL_len : ∀ bs : List Nat, (hexL bs).length = 2 * bs.length
  | [] => rfl
  | b :: r => by simp only [hexL, List.length_cons, hexL_len r]; omega
theorem hexL_ok : ∀ {bs : List Nat}, Crc.okB bs → (hexL bs).all isHx = true ∧ pairL (hexL bs) = bs
  | [], _ => ⟨rfl, rfl⟩
  | b :: r, h => by
    have hb : b < 256 := h b (by simp)
    obtain ⟨i1, i2⟩ := hexL_ok (bs := r) fun z hz => h z (by simp [hz])
    have h1 := hx_ok (b / 16) (by omega)
    have h2 := hx_ok (b % 16) (by omega)
    refine ⟨by simp only [hexL, List.all_cons, h1.1, h2.1, i1, Bool.and_self], ?_⟩
    simp only [hexL, pairL, h1.2, h2.2, i2]
    congr 1
    omega
theorem dueL_hex {bs : List Nat} (h : Crc.okB bs) : dueL (hexL bs) = some bs := by
  obtain ⟨h1, h2⟩ := hexL_ok h
  unfold dueL
  rw [if_neg, h2]
  rw [h1, hexL_len]
  simp
abbrev HX : Str := "0123456789abcdef"
theorem hx_at : ∀ n : Nat, n < 16 → HX.cps.toList[n]? = some (hxC n) := by decide +kernel
theorem hx_in : ∀ c : Nat, c < 128 → (c ∈ HX.cps.toList ↔ isHx c = true) := by decide +kernel
theorem hx_mem (c : Nat) : (decide (c ∈ HX.cps.toList)) = isHx c := by
  by_cases h : c < 128
  · have := hx_in c h
    cases hi : isHx c
    · simp only [hi] at this; simpa using this
    · simp only [hi] at this; simpa using this
  · have h1 : isHx c = false := by unfold isHx; simp; omega
    rw [h1]
    have h2 : ∀ x ∈ HX.cps.toList, x < 128 := by decide +kernel
    exact decide_eq_false fun hm => h (h2 c hm)
theorem isHx_lt {c : Nat} (h : isHx c = true) : c < 128 := by unfold isHx at h; simp at h; omega
theorem hx_occ : ∀ c : Nat, c < 128 → isHx c = true → (Builtin.Str.occurrences HX (⟨#[c]⟩ : Str) 0 HX.length 1).head? = some (hxV c) := by decide +kernel
theorem x_sindex {c : Nat} {p : DV → Kd → Prop} (h : isHx c = true) (hp : p (.int (hxV c : Nat)) .new) : XOp (mSindex [.str HX, .str ⟨#[c]⟩]) p := by
  have := hx_occ c (isHx_lt h) h
  refine x_wo (a := .int (hxV c : Nat)) (kd := .new) ?_ hp
  unfold mSindex
  cases e : Builtin.Str.occurrences HX (⟨#[c]⟩ : Str) 0 HX.length 1 with
  | nil => rw [e] at this; cases this
  | cons i r => rw [e] at this; cases this; simp only [e]
/-- two digits joined -/
theorem two_S (a b : Nat) : (⟨#[a]⟩ : Str) ++ (⟨#[b]⟩ : Str) = S [a, b] := SX.S_cat [a] [b]
theorem strsD_S : ∀ ls : List (List Nat), strsD (ls.map fun l => DV.str (S l)) = some (ls.map S)
  | [] => rfl
  | c :: cs => by
    show (strsD (cs.map fun l => DV.str (S l))).map (_ :: ·) = _
    rw [strsD_S cs]; rfl
theorem joinL_flat : ∀ ls : List (List Nat), TL.joinL [] ls = ls.flatten
  | [] => rfl
  | [a] => by simp [TL.joinL]
  | a :: b :: r => by
    have := joinL_flat (b :: r)
    simp only [TL.joinL, List.nil_append] at this ⊢
    rw [this]; simp
theorem x_join2 {ls : List (List Nat)} {p : DV → Kd → Prop} (hl : ls.flatten.length ≤ 100000) (h : p (.str (S ls.flatten)) .new) : XOp (mJoin [.str "", .lst (ls.map fun l => DV.str (S l))]) p := by
  refine x_wo (a := .str (S ls.flatten)) (kd := .new) ?_ h
  have e : Txt.join "" (ls.map S) = S ls.flatten := by
    rw [← joinL_flat]
    exact SX.join_S [] ls
  have e2 : ((ls.map S).map (·.length)).sum = ls.flatten.length := by
    rw [SX.lens, List.length_flatten]
  unfold mJoin joinD
  simp only [strsD_S]
  rw [if_pos, e]
  rw [e2, show (Str.ofString "").length = 0 from rfl, Nat.mul_zero]
  omega
def hx2 (b : Nat) : List Nat := [hxC (b / 16), hxC (b % 16)]
theorem hx2_flat : ∀ bs : List Nat, (bs.map hx2).flatten = hexL bs
  | [] => rfl
  | b :: r => by rw [List.map_cons, List.flatten_cons, hx2_flat r]; rfl
theorem sp_is_bytesN {bs : List Nat} {cs : List CellC} {q : DV → Kd → List CellC → Prop} {E : EK} (hb : Crc.okB bs) (hl : bs.length ≤ 100000) (a : DV) (ha : a = .lst (nL bs) ∨ a = .tup (nL bs)) (h : q (.bl true) .new cs) : XF F_is_bytes [a] cs q E := by
  have hall : (nL bs).all byteD = true := by
    rw [List.all_eq_true]
    intro x hx
    obtain ⟨b, hm, rfl⟩ := nL_mem hx
    have := hb b hm
    simp [byteD, numD]
    omega
  have hbd : bytesD a = true := by rcases ha with rfl | rfl <;> exact hall
  refine sp_is_bytes (by rcases ha with rfl | rfl <;> rfl) (fun ds hd => ?_) (by rw [hbd]; exact h)
  have : ds = nL bs := by rcases ha with rfl | rfl <;> rcases hd with e | e <;> cases e <;> rfl
  subst this
  refine ⟨by simp [sl_eq]; omega, fun d hd => ?_⟩
  obtain ⟨b, _, rfl⟩ := nL_mem hd
  rfl
theorem and15 : ∀ b : Nat, b < 256 → Builtin.bitAnd (b : Int) 15 = ((b % 16 : Nat) : Int) := by decide +kernel
theorem and1 : ∀ b : Nat, b < 2000 → Builtin.bitAnd (b : Int) 1 = ((b % 2 : Nat) : Int) := by decide +kernel
theorem x_ixH {n : Nat} {p : DV → Kd → Prop} {i : Int} (hi : i = (n : Nat)) (hn : n < 16) (hp : p (.str ⟨#[hxC n]⟩) .fro) : XOp (dIx (.str HX) (.int i)) p := by
  subst hi
  refine x_wo_ixS (by decide) (by omega) (by show (n : Int) < 16; omega) fun c hc _ => ?_
  rw [Int.toNat_natCast, hx_at n hn] at hc
  cases hc
  exact hp
theorem sp_bytes_text {bs : List Nat} {cs : List CellC} {q : DV → Kd → List CellC → Prop} {E : EK} (hb : Crc.okB bs) (hl : bs.length ≤ 1000) (a : DV) (ha : a = .lst (nL bs) ∨ a = .tup (nL bs)) (h : q (.str (S (hexL bs))) .new cs) : XF F_bytes_text [a] cs q E := by
  have key : XE (evMeth isStrD mJoin (evC (.str "")) (akCons (e_bytes_text_1) (akNil)) ⟨[some (a, false), none], cs⟩) (fun a kd st => q a (RetT kd st) st.cs) E := by
    unfold e_bytes_text_1
    walk_at "wx"
    refine x_we_lc ?_
    walk_at "wx"
    refine ⟨nL bs, by rcases ha with rfl | rfl <;> rfl, by simp [sl_eq]; omega, ?_⟩
    refine x_wl_map (fun b : Nat => DV.int (b : Nat)) (fun b => DV.str (S (hx2 b))) _ bs [] (fun b hm => ?_) ?_
    · have := hb b hm
      walk_at "wx"
      refine x_ixH (n := b / 16) (by omega) (by omega) ?_
      walk_at "wx"
      refine x_ixH (n := b % 16) (and15 b this) (by omega) ?_
      walk_at "wx"
      · show 1 + 1 ≤ sizeLine
        decide
      rw [two_S]
      exact ⟨rfl, rfl⟩
    · walk_at "wx"
      have e : List.map (fun b => DV.str (S (hx2 b))) bs = (bs.map hx2).map fun l => DV.str (S l) := by rw [List.map_map]; rfl
      rw [e]
      refine x_join2 (by rw [hx2_flat, hexL_len]; omega) ?_
      rw [hx2_flat]
      exact h
  unfold F_bytes_text
  refine x_wf' rfl ?_
  unfold sv_bytes_text
  generalize evMeth isStrD mJoin (evC (.str "")) (akCons (e_bytes_text_1) (akNil)) = X at key ⊢
  walk_at "wx"
  refine sp_is_bytesN hb (by omega) a ha ?_
  walk_at "wx"
  exact key
end Law

namespace Law
open PySem L2 PyProof.Rows D
theorem sp_l_hex {bs : List Nat} {cs : List CellC} {q : DV → Kd → List CellC → Prop} {E : EK} (hb : Crc.okB bs) (hl : bs.length ≤ 1000) (h : q (.str (S (hexL bs))) .new cs) : XF F_l_hex [.lst (nL bs)] cs q E := by
  unfold F_l_hex
  refine x_wf' rfl ?_
  unfold sv_l_hex e_l_hex_1
  walk_at "wx"
  refine x_we_lc ?_
  walk_at "wx"
  refine x_wl_map (fun b : Nat => DV.int (b : Nat)) (fun b => DV.str (S (hx2 b))) _ bs [] (fun b hm => ?_) ?_
  · have := hb b hm
    walk_at "wx"
    refine x_ixH (n := b / 16) (by omega) (by omega) ?_
    walk_at "wx"
    refine x_ixH (n := b % 16) (by omega) (by omega) ?_
    walk_at "wx"
    · show 1 + 1 ≤ sizeLine
      decide
    rw [two_S]
    exact ⟨rfl, rfl⟩
  · walk_at "wx"
    have e : List.map (fun b => DV.str (S (hx2 b))) bs = (bs.map hx2).map fun l => DV.str (S l) := by rw [List.map_map]; rfl
    rw [e]
    refine x_join2 (by rw [hx2_flat, hexL_len]; omega) ?_
    rw [hx2_flat]
    walk_at "wx"
    exact h
theorem occ_e (c : Nat) : (Builtin.Str.occurrences (Str.ofString "0123456789abcdef") (⟨#[c]⟩ : Str) 0 (Str.ofString "0123456789abcdef").length 1).isEmpty = !isHx c := by
  have h : (!(Builtin.Str.occurrences HX (⟨#[c]⟩ : Str) 0 HX.length 1).isEmpty) = isHx c := (SX.in_one HX.cps.toList c).trans (hx_mem c)
  rw [← h, Bool.not_not]
def chD (c : Nat) : DV := .str ⟨#[c]⟩
def badG : DV → Option DV
  | .str s => match s.cps.toList with
    | c :: _ => if isHx c = true then none else some (.str s)
    | [] => none
  | _ => none
theorem badG_ch (c : Nat) : badG (chD c) = if isHx c = true then none else some (chD c) := rfl
theorem badG_l : ∀ l : List Nat, (l.map chD).filterMap badG = (l.filter fun c => !isHx c).map chD
  | [] => rfl
  | c :: r => by
    rw [List.map_cons, List.filterMap_cons, badG_ch, List.filter_cons, badG_l r]
    cases isHx c <;> rfl
theorem ch_oks : ∀ {l : List Nat}, l.all (· < 128) = true → dOks (l.map chD) = true ∧ dDps (l.map chD) = 0
  | [], _ => ⟨rfl, rfl⟩
  | c :: r, h => by
    rw [List.all_cons, Bool.and_eq_true] at h
    obtain ⟨h1, h2⟩ := ch_oks h.2
    have hc : c < 128 := of_decide_eq_true h.1
    have h3 : dOk (chD c) = true := by
      show (#[c] : Array Nat).all (· < 0x110000) = true
      rw [← Array.all_toList]
      simp
      omega
    refine ⟨?_, ?_⟩
    · show (dOk (chD c) && dOks (r.map chD)) = true
      rw [h3, h1]; rfl
    · show max (dDp (chD c)) (dDps (r.map chD)) = 0
      rw [h2]; rfl
theorem filt_e : ∀ l : List Nat, ((l.filter fun c => !isHx c).map chD).isEmpty = l.all isHx
  | [] => rfl
  | c :: r => by
    rw [List.all_cons, List.filter_cons]
    cases h : isHx c with
    | true => simpa using filt_e r
    | false => rfl
theorem x_neNilH {l : List Nat} {p : DV → Kd → Prop} (hc : l.all (· < 128) = true) (hp : p (.bl (!l.all isHx)) .new) : XOp (dCmp .NotEq (.lst ((l.filter fun c => !isHx c).map chD)) (.lst [])) p := by
  refine x_wo (a := .bl (!l.all isHx)) (kd := .new) ?_ hp
  have hc2 : (l.filter fun c => !isHx c).all (· < 128) = true := by
    rw [List.all_eq_true] at hc ⊢
    intro x hx
    exact hc x (List.mem_filter.mp hx).1
  obtain ⟨h1, h2⟩ := ch_oks hc2
  have h3 := filt_e l
  show (eqD _ _).map (fun k => (DV.bl (!k), Kd.new)) = _
  rw [eq_nil h1 (by omega), h3]
  rfl
def dueD (l : List Nat) : DV := match dueL l with | some bs => .lst (nL bs) | none => .non
def pvA (l : List Nat) (k : Nat) : Nat := 16 * hxV (l.getD (2 * k) 0) + hxV (l.getD (2 * k + 1) 0)
theorem pairL_range : ∀ {l : List Nat}, l.length % 2 = 0 → pairL l = (List.range (l.length / 2)).map (pvA l)
  | [], _ => rfl
  | [a], h => by simp at h
  | a :: b :: r, h => by
    have ih := pairL_range (l := r) (by simp only [List.length_cons] at h; omega)
    rw [show (a :: b :: r).length / 2 = r.length / 2 + 1 from by simp only [List.length_cons]; omega, List.range_succ_eq_map, List.map_cons, List.map_map, pairL, ih]
    rfl
theorem pvA_int (l : List Nat) (k : Nat) : ((hxV (l.getD (2 * k) 0) : Nat) : Int) * 16 + ((hxV (l.getD (2 * k + 1) 0) : Nat) : Int) = ((pvA l k : Nat) : Int) := by
  unfold pvA
  generalize hxV (l.getD (2 * k) 0) = a
  generalize hxV (l.getD (2 * k + 1) 0) = b
  omega
theorem map_pvA (l : List Nat) : nL ((List.range (l.length / 2)).map (pvA l)) = (List.range (l.length / 2)).map fun k => DV.int (pvA l k : Nat) := by
  unfold nL
  rw [List.map_map]
  rfl
theorem rg2 : ∀ n : Nat, n < 1001 → rgOk 0 (n : Int) 2 = true ∧ (n % 2 = 0 → (Builtin.Range.rangeSize 0 (n : Int) 2).toNat = n / 2) := by decide +kernel
theorem at_hx {l : List Nat} (h : l.all isHx = true) {i : Nat} (hi : i < l.length) : isHx (l.getD i 0) = true ∧ hxV (l.getD i 0) < 16 := by
  have hm : l.getD i 0 ∈ l := by
    rw [List.getD_eq_getElem?_getD, List.getElem?_eq_getElem hi]
    exact List.getElem_mem hi
  have h1 := List.all_eq_true.mp h _ hm
  refine ⟨h1, ?_⟩
  generalize l.getD i 0 = c at h1 ⊢
  unfold isHx at h1
  unfold hxV
  simp at h1
  split <;> omega
theorem x_ixC {l : List Nat} {n : Nat} {p : DV → Kd → Prop} {i : Int} (hl : l.length ≤ 1000) (hi : i = (n : Nat)) (hn : n < l.length) (hp : p (.str ⟨#[l.getD n 0]⟩) .fro) : XOp (dIx (.str (S l)) (.int i)) p := by
  subst hi
  refine x_wo_ixS (by rw [SX.S_len, sl_eq]; omega) (by omega) (by rw [SX.S_len]; omega) fun c hc _ => ?_
  rw [Int.toNat_natCast] at hc
  have hc : l[n]? = some c := hc
  rw [List.getD_eq_getElem?_getD, hc] at hp
  exact hp
theorem sp_bytes_in {l : List Nat} {cs : List CellC} {q : DV → Kd → List CellC → Prop} {E : EK} (hl : l.length ≤ 1000) (hc : l.all (· < 128) = true) (h : q (dueD l) .new cs) : XF F_bytes_in [.str (S l)] cs q E := by
  unfold F_bytes_in
  refine x_wf' rfl ?_
  unfold sv_bytes_in
  walk_at "wx"
  refine x_wo_lenS (by rw [SX.S_len, sl_eq]; omega) ?_
  rw [SX.S_len]
  walk_at "wx"
  rw [and1 l.length (by omega)]
  refine IfK.dec (fun h1 => ?_) (fun h1 => ?_)
  · walk_at "wx"
    have e : dueD l = .non := by unfold dueD dueL; rw [if_pos (.inl (by omega))]
    rw [e] at h
    exact h
  · unfold e_bytes_in_1
    walk_at "wx"
    refine x_we_lc ?_
    walk_at "wx"
    have it : strItems (S l) = l.map chD := by unfold strItems; rfl
    rw [it]
    refine ⟨by rw [List.length_map, sl_eq]; omega, ?_⟩
    refine x_wl_fm badG _ (l.map chD) [] (fun d hd => ?_) ?_
    · obtain ⟨c, hm, rfl⟩ := List.mem_map.mp hd
      unfold chD
      walk_at "wx"
      rw [occ_e]
      refine IfK.bool (fun h2 => ?_) (fun h2 => ?_)
      · walk_at "wx"
        refine ⟨?_, rfl⟩
        show badG (chD c) = some (chD c)
        rw [badG_ch, if_neg (by simpa using h2)]
      · refine ⟨?_, rfl⟩
        show badG (chD c) = none
        rw [badG_ch, if_pos (by simpa using h2)]
    · rw [List.nil_append, badG_l]
      walk_at "wx"
      refine x_neNilH hc ?_
      walk_at "wx"
      refine IfK.bool (fun h2 => ?_) (fun h2 => ?_)
      · walk_at "wx"
        have e : dueD l = .lst (nL (pairL l)) := by unfold dueD dueL; rw [if_neg (by rw [h2]; simp; omega)]
        rw [e, pairL_range (by omega)] at h
        unfold e_bytes_in_2
        walk_at "wx"
        refine x_we_lc ?_
        walk_at "wx"
        refine x_wo_lenS (by rw [SX.S_len, sl_eq]; omega) ?_
        rw [SX.S_len]
        walk_at "wx"
        obtain ⟨g1, g2⟩ := rg2 l.length (by omega)
        refine ⟨0, (l.length : Nat), 2, rfl, g1, ?_⟩
        rw [g2 (by omega)]
        refine ⟨by rw [sl_eq]; unfold rangeC; rw [List.length_map, List.length_range]; omega, ?_⟩
        refine x_wl_map (fun k : Nat => DV.int (0 + (k : Nat) * 2)) (fun k => DV.int (pvA l k : Nat)) _ (List.range (l.length / 2)) [] (fun k hk => ?_) ?_
        · have hk := List.mem_range.mp hk
          obtain ⟨a1, a2⟩ := at_hx h2 (i := 2 * k) (by omega)
          obtain ⟨b1, b2⟩ := at_hx h2 (i := 2 * k + 1) (by omega)
          walk_at "wx"
          refine x_ixC (n := 2 * k) (by omega) (by omega) (by omega) ?_
          walk_at "wx"
          refine x_sindex a1 ?_
          walk_at "wx"
          refine x_ixC (n := 2 * k + 1) (by omega) (by omega) (by omega) ?_
          walk_at "wx"
          refine x_sindex b1 ?_
          walk_at "wx"
          refine ⟨?_, rfl⟩
          exact congrArg DV.int (pvA_int l k)
        · rw [List.nil_append, ← map_pvA]
          walk_at "wx"
          exact h
      · have e : dueD l = .non := by unfold dueD dueL; rw [if_pos (.inr h2)]
        rw [e] at h
        walk_at "wx"
        exact h
end Law

namespace Law
open PySem L2 PyProof.Rows D
theorem cut_S {l : List Nat} {i j : Nat} (h1 : i ≤ j) (h2 : j ≤ l.length) : cutS (S l) (some (i : Int)) (some (j : Int)) = S ((l.drop i).take (j - i)) := by
  unfold cutS
  show Str.mk _ = Str.mk _
  congr 2
  rw [HT.sIx_nat, HT.sIx_nat, SX.S_len, Nat.min_eq_left h2, Nat.min_eq_left (Nat.le_trans h1 h2)]
  try rfl
theorem drop_two {l : List Nat} {i : Nat} (h : i + 1 < l.length) : (l.drop i).take 2 = [l.getD i 0, l.getD (i + 1) 0] := by
  rw [List.drop_eq_getElem_cons (by omega), List.drop_eq_getElem_cons h]
  simp only [List.take_succ_cons, List.take_zero, List.getD_eq_getElem?_getD]
  rw [List.getElem?_eq_getElem (by omega), List.getElem?_eq_getElem h]
  rfl
def prD (l : List Nat) (k : Nat) : DV := .str (S [l.getD (2 * k) 0, l.getD (2 * k + 1) 0])
theorem pvA_int2 (l : List Nat) (k : Nat) : 16 * ((hxV (l.getD (2 * k) 0) : Nat) : Int) + ((hxV (l.getD (2 * k + 1) 0) : Nat) : Int) = ((pvA l k : Nat) : Int) := by
  rw [← pvA_int, Int.mul_comm]
theorem sp_l_due {l : List Nat} {d : DrawSt} {q : DV → Kd → List CellC → Prop} {E : EK} (hl : l.length ≤ 1000) (hc : l.all (· < 128) = true) (h : q (dueD l) .new [.draw d]) : XF F_l_due [.str (S l)] [.draw d] q E := by
  unfold F_l_due
  refine x_wf' rfl ?_
  unfold sv_l_due
  walk_at "wx"
  unfold t_l_due_1
  walk_at "wx"
  refine x_wo_lenS (by rw [SX.S_len, sl_eq]; omega) ?_
  rw [SX.S_len]
  walk_at "wx"
  refine IfK.dec (fun h1 => ?_) (fun h1 => ?_)
  · walk_at "wx"
    have e : dueD l = .non := by unfold dueD dueL; rw [if_pos (.inl (by omega))]
    rw [e] at h
    exact h
  · unfold e_l_due_1
    walk_at "wx"
    refine x_we_lc ?_
    walk_at "wx"
    have it : strItems (S l) = l.map chD := by unfold strItems; rfl
    rw [it]
    refine ⟨by rw [List.length_map, sl_eq]; omega, ?_⟩
    refine x_wl_fm badG _ (l.map chD) [] (fun d hd => ?_) ?_
    · obtain ⟨c, hm, rfl⟩ := List.mem_map.mp hd
      unfold chD
      walk_at "wx"
      rw [occ_e]
      refine IfK.bool (fun h2 => ?_) (fun h2 => ?_)
      · walk_at "wx"
        refine ⟨?_, rfl⟩
        show badG (chD c) = some (chD c)
        rw [badG_ch, if_neg (by simpa using h2)]
      · refine ⟨?_, rfl⟩
        show badG (chD c) = none
        rw [badG_ch, if_pos (by simpa using h2)]
    · rw [List.nil_append, badG_l]
      walk_at "wx"
      refine x_neNilH hc ?_
      walk_at "wx"
      refine IfK.bool (fun h2 => ?_) (fun h2 => ?_)
      · walk_at "wx"
        have e : dueD l = .lst (nL (pairL l)) := by unfold dueD dueL; rw [if_neg (by rw [h2]; simp; omega)]
        rw [e, pairL_range (by omega)] at h
        unfold t_l_due_2 e_l_due_2
        walk_at "wx"
        refine x_we_lc ?_
        walk_at "wx"
        refine x_wo_lenS (by rw [SX.S_len, sl_eq]; omega) ?_
        rw [SX.S_len]
        walk_at "wx"
        have e1 : ((l.length : Int) / 2).toNat = l.length / 2 := by omega
        rw [e1]
        refine ⟨by omega, by rw [sl_eq]; unfold rangeL; rw [List.length_map, List.length_range]; omega, ?_⟩
        refine x_wl_map (fun k : Nat => DV.int (0 + (k : Nat))) (prD l) _ (List.range (l.length / 2)) [] (fun k hk => ?_) ?_
        · have hk := List.mem_range.mp hk
          walk_at "wx"
          have e2 : dSl (DV.str (S l)) (some (2 * (0 + (k : Int)))) (some (2 * (0 + (k : Int)) + 2)) = some (prD l k, .new) := by
            unfold dSl
            simp only []
            rw [if_pos (by rw [SX.S_len, sl_eq]; omega), show (2 * (0 + (k : Int))) = ((2 * k : Nat) : Int) by omega, show ((2 * k : Nat) : Int) + 2 = ((2 * k + 2 : Nat) : Int) by omega, cut_S (by omega) (by omega), show 2 * k + 2 - 2 * k = 2 by omega, drop_two (by omega)]
            rfl
          refine x_wo e2 ?_
          unfold prD
          walk_at "wx"
          exact ⟨rfl, rfl⟩
        · rw [List.nil_append]
          walk_at "wx"
          unfold t_l_due_3 e_l_due_3
          walk_at "wx"
          refine x_we_lc ?_
          walk_at "wx"
          refine x_wl_map (prD l) (fun k => DV.int (pvA l k : Nat)) _ (List.range (l.length / 2)) [] (fun k hk => ?_) ?_
          · have hk := List.mem_range.mp hk
            obtain ⟨a1, a2⟩ := at_hx h2 (i := 2 * k) (by omega)
            obtain ⟨b1, b2⟩ := at_hx h2 (i := 2 * k + 1) (by omega)
            unfold prD
            walk_at "wx"
            refine x_sindex a1 ?_
            walk_at "wx"
            refine x_sindex b1 ?_
            walk_at "wx"
            refine ⟨?_, rfl⟩
            exact congrArg DV.int (pvA_int2 l k)
          · rw [List.nil_append, ← map_pvA]
            walk_at "wx"
            exact h
      · have e : dueD l = .non := by unfold dueD dueL; rw [if_pos (.inr h2)]
        rw [e] at h
        walk_at "wx"
        exact h
end Law

namespace Law
open PySem L2 PyProof.Rows D
theorem sp_read_bytes {l : List Nat} {d : DrawSt} {q : DV → Kd → List CellC → Prop} {E : EK} (hl : l.length ≤ 1000) (hc : l.all (· < 128) = true) (h1 : ∀ bs, dueL l = some bs → q (.lst (nL bs)) .new [.draw d]) (h2 : dueL l = none → E ⟨17, ["row"], [.int 0]⟩ [.draw d]) : XF F_read_bytes [.str (S l)] [.draw d] q E := by
  unfold F_read_bytes
  refine x_wf' rfl ?_
  unfold sv_read_bytes
  walk_at "wx"
  refine sp_bytes_in hl hc ?_
  cases e : dueL l with
  | none =>
    have ed : dueD l = .non := by unfold dueD; rw [e]
    rw [ed]
    walk_at "wx"
    unfold t_read_bytes_1
    walk_at "wx"
    exact ⟨rfl, h2 e⟩
  | some bs =>
    have ed : dueD l = .lst (nL bs) := by unfold dueD; rw [e]
    rw [ed]
    walk_at "wx"
    unfold t_read_bytes_1 t_read_bytes_2
    walk_at "wx"
    exact h1 bs e
theorem sp_read_odd {a : DV} {d : DrawSt} {q : DV → Kd → List CellC → Prop} {E : EK} (hi : isiR CL a (.ty "str") = some (.bl false, .new)) (h2 : E ⟨17, ["row"], [.int 0]⟩ [.draw d]) : XF F_read_bytes [a] [.draw d] q E := by
  unfold F_read_bytes
  refine x_wf' rfl ?_
  unfold sv_read_bytes
  walk_at "wx"
  refine x_wo hi ?_
  walk_at "wx"
  unfold t_read_bytes_1
  walk_at "wx"
  exact ⟨rfl, h2⟩
end Law

namespace Law
open PySem L2 PyProof.Rows D
theorem how_17 {d : DrawSt} {k : KS} (h : ∀ kd st, st.cs = [.draw d] → k.rt (.str "0") kd st) : XS (L_l_how.rest ⟨L_l_how.slX ⟨17, ["row"], [.int 0]⟩, [.draw d]⟩) k noX := by
  obtain ⟨nx, bk, ct, rt⟩ := k
  rw [show L_l_how.rest = svr_l_how from rfl]
  unfold svr_l_how t_l_how_1 t_l_how_2 t_l_how_3
  repeat' first | walk_at "wx1" | with_reducible refine IfK.to (by with_unfolding_all rfl) ?_ | with_reducible refine IfK.fo (by with_unfolding_all rfl) ?_
  · exact RepOk.int (by decide)
  · have e : reprS (.int 0) = "0" := by decide +kernel
    rw [e]
    exact h _ _ rfl
theorem how_1 {d : DrawSt} {k : KS} (h : ∀ kd st, st.cs = [.draw d] → k.rt (.str "bytes") kd st) : XS (L_l_how.rest ⟨L_l_how.slX ⟨1, [], []⟩, [.draw d]⟩) k noX := by
  obtain ⟨nx, bk, ct, rt⟩ := k
  rw [show L_l_how.rest = svr_l_how from rfl]
  unfold svr_l_how t_l_how_1 t_l_how_2 t_l_how_3
  repeat' first | walk_at "wx1" | with_reducible refine IfK.to (by with_unfolding_all rfl) ?_ | with_reducible refine IfK.fo (by with_unfolding_all rfl) ?_
  exact h _ _ rfl
/-- read_bytes refuses: "0" -/
theorem sp_how17 {F : Fn} {as : List (DV × Kd)} {sl : List Slot} {d : DrawSt} {q : QE} (hv : noView as = true) (h : XF F (as.map (·.1)) [.draw d] (fun _ _ _ => False) (fun y cs' => y = ⟨17, ["row"], [.int 0]⟩ ∧ cs' = [.draw d])) (hq : q (.str "0") .new ⟨sl, [.draw d]⟩) : XLam CL L_l_how F as ⟨sl, [.draw d]⟩ q := by
  refine x_lamT_of hv (XF.mono h (fun a kd cs' h => h.elim) fun y cs' h => ?_)
  obtain ⟨rfl, rfl⟩ := h
  refine ⟨by rfl, how_17 fun kd st e => ?_⟩
  dsimp only
  rw [e]
  exact hq
theorem sp_how1 {F : Fn} {as : List (DV × Kd)} {sl : List Slot} {d : DrawSt} {q : QE} (hv : noView as = true) (h : XF F (as.map (·.1)) [.draw d] (fun _ _ _ => False) (fun y cs' => y = ⟨1, [], []⟩ ∧ cs' = [.draw d])) (hq : q (.str "bytes") .new ⟨sl, [.draw d]⟩) : XLam CL L_l_how F as ⟨sl, [.draw d]⟩ q := by
  refine x_lamT_of hv (XF.mono h (fun a kd cs' h => h.elim) fun y cs' h => ?_)
  obtain ⟨rfl, rfl⟩ := h
  refine ⟨by rfl, how_1 fun kd st e => ?_⟩
  dsimp only
  rw [e]
  exact hq
theorem sp_bt_bad {a : DV} {d : DrawSt} {q : DV → Kd → List CellC → Prop} {E : EK} (h : XF F_is_bytes [a] [.draw d] (fun b kd cs' => b = .bl false ∧ kd = .new ∧ cs' = [.draw d]) noX) (h2 : E ⟨1, [], []⟩ [.draw d]) : XF F_bytes_text [a] [.draw d] q E := by
  unfold F_bytes_text
  refine x_wf' rfl ?_
  unfold sv_bytes_text
  walk_at "wx"
  refine XF.mono h (fun b kd cs' h => ?_) fun _ _ h => h.elim
  obtain ⟨rfl, rfl, rfl⟩ := h
  walk_at "wx"
  exact h2
end Law

namespace Law
open PySem L2 PyProof.Rows D
abbrev AB : Str := "0123456789abcdefABFgxz -_+.,"
theorem sp_pickS {s : Str} {d : DrawSt} {n : Nat} {q : DV → Kd → List CellC → Prop} {E : EK} (hne : 0 < s.length) (hl : s.length ≤ 100000) (ok : DrawOk d (n + 1)) (h : ∀ c d', c ∈ s.cps.toList → DrawOk d' n → q (.str ⟨#[c]⟩) .new [.draw d']) : XF F_l_pick [.cel 0, .str s] [.draw d] q E := by
  unfold F_l_pick
  refine x_wf' rfl ?_
  unfold sv_l_pick
  walk_at "wx"
  refine x_wo_lenS (by rw [sl_eq]; omega) ?_
  walk_at "wx"
  refine sp_next ok (by omega) (by omega) fun r d' kd r0 r1 ok' => ?_
  walk_at "wx"
  refine x_wo_ixS (by rw [sl_eq]; omega) r0 r1 fun c _ hc => ?_
  walk_at "wx"
  exact h c d' hc ok'
theorem up_lt {l : List Nat} (h : l.all (· < 128) = true) : (l.map PyProof.Rows.up1).all (· < 128) = true := by
  rw [List.all_eq_true] at h ⊢
  intro x hx
  obtain ⟨c, hc, rfl⟩ := List.mem_map.mp hx
  have := of_decide_eq_true (h c hc)
  exact (by decide +kernel : ∀ c < 128, decide (PyProof.Rows.up1 c < 128) = true) c this
theorem ab_lt : ∀ c ∈ AB.cps.toList, c < 128 := by decide +kernel
theorem dsl_to {l : List Nat} {s : Int} (hl : l.length ≤ 900) (h0 : 0 ≤ s) : dSl (DV.str (S l)) none (some s) = some (.str (S (l.take s.toNat)), .new) := by
  unfold dSl
  simp only []
  rw [if_pos (by rw [SX.S_len, sl_eq]; omega), C8.cutS_slice, SX.slice_to h0]
theorem dsl_from {l : List Nat} {s : Int} (hl : l.length ≤ 900) (h0 : 0 ≤ s) : dSl (DV.str (S l)) (some s) none = some (.str (S (l.drop s.toNat)), .new) := by
  unfold dSl
  simp only []
  rw [if_pos (by rw [SX.S_len, sl_eq]; omega), C8.cutS_slice, SX.slice_from h0]
theorem sp_l_bent {l : List Nat} {d : DrawSt} {n : Nat} {q : DV → Kd → List CellC → Prop} {E : EK} (hl : l.length ≤ 900) (hc : l.all (· < 128) = true) (ok : DrawOk d (n + 3)) (h : ∀ l' d' kd, l'.length ≤ l.length + 1 → l'.all (· < 128) = true → DrawOk d' n → q (.str (S l')) kd [.draw d']) : XF F_l_bent [.cel 0, .str (S l)] [.draw d] q E := by
  unfold F_l_bent
  refine x_wf' rfl ?_
  unfold sv_l_bent
  walk_at "wx"
  refine sp_next (n := n + 2) (ok.mono (by omega)) (by decide) (by decide) fun w d1 kd w0 w1 ok1 => ?_
  walk_at "wx"
  refine x_wo_lenS (by rw [SX.S_len, sl_eq]; omega) ?_
  rw [SX.S_len]
  walk_at "wx"
  refine sp_next (n := n + 1) (ok1.mono (by omega)) (by omega) (by omega) fun s d2 kd s0 s1 ok2 => ?_
  walk_at "wx"
  unfold t_l_bent_1
  walk_at "wx"
  refine sp_pickS (n := n) (by decide) (by decide) ok2 fun c d3 hcm ok3 => ?_
  have hc1 := ab_lt c hcm
  walk_at "wx"
  unfold t_l_bent_2
  walk_at "wx"
  refine IfK.dec (fun h3 => ?_) (fun h3 => ?_)
  · walk_at "wx"
    have e : mUpper [.str (S l)] = some (.str (S (l.map PyProof.Rows.up1)), .new) := by
      unfold mUpper
      simp only []
      rw [if_pos (by rw [SX.S_len]; omega), SX.upper_S hc]
    refine x_wo e ?_
    walk_at "wx"
    exact h _ d3 _ (by rw [List.length_map]; omega) (up_lt hc) ok3
  · unfold t_l_bent_3
    have key : ∀ (fk : Kd → Kd) (m : List Nat) (i : Int) (z : Str), z = S m → s ≤ i → m.length ≤ 1 → m.all (· < 128) = true → (S (l.take s.toNat)).length + z.length ≤ sizeLine ∧ XOp (dSl (DV.str (S l)) (some i) none) fun c_1 kd => XOp (dBin Operator.Add (DV.str (S (l.take s.toNat) ++ z)) c_1) fun c_2 kd => q c_2 (fk kd) [.draw d3] := fun fk m i z hz hi hm hml => by
      subst hz
      refine ⟨by rw [SX.S_len, SX.S_len, List.length_take, sl_eq]; omega, ?_⟩
      refine x_wo (dsl_from hl (by omega)) ?_
      rw [SX.S_cat]
      refine x_wo_addS (by rw [SX.S_len, SX.S_len, List.length_append, List.length_take, List.length_drop, sl_eq]; omega) ?_
      rw [SX.S_cat]
      refine h _ d3 _ ?_ ?_ ok3
      · rw [List.length_append, List.length_append, List.length_take, List.length_drop]
        omega
      · rw [List.all_append, List.all_append, hml]
        rw [List.all_eq_true] at hc
        rw [Bool.and_true, Bool.and_eq_true]
        refine ⟨List.all_eq_true.mpr fun x hx => hc x (List.mem_of_mem_take hx), List.all_eq_true.mpr fun x hx => hc x (List.mem_of_mem_drop hx)⟩
    walk_at "wx"
    refine x_wo (dsl_to hl s0) ?_
    have hw : w = 0 ∨ w = 1 ∨ w = 2 := by omega
    rcases hw with rfl | rfl | rfl
    · walk_at "wx"
      · exact (key id [] s "" rfl (by omega) (by decide) rfl).1
      · refine (key _ [] _ "" rfl ?_ (by decide) rfl).2
        simp
        try omega
    · walk_at "wx"
      · exact (key id [c] s ⟨#[c]⟩ rfl (by omega) (by simp) (by simp; omega)).1
      · refine (key _ [c] _ ⟨#[c]⟩ rfl ?_ (by simp) (by simp; omega)).2
        simp
        try omega
    · walk_at "wx"
      · exact (key id [c] s ⟨#[c]⟩ rfl (by omega) (by simp) (by simp; omega)).1
      · refine (key _ [c] _ ⟨#[c]⟩ rfl ?_ (by simp) (by simp; omega)).2
        simp
        try omega
end Law

namespace Law
open PySem L2 PyProof.Rows D
def e1 : Ent := ⟨[97], [1], 1980, 1, 1, 0, 0, 0, []⟩
theorem e1g : e1.Gd := by
  constructor
  all_goals first | decide | (unfold Crc.okB e1; decide) | (unfold TimeI e1; decide +kernel) | (constructor <;> decide +kernel)
theorem sp_e1 {cs : List CellC} {q : DV → Kd → List CellC → Prop} {E : EK} (hd : cs.all isDraw = true) (h : q (eI e1) .new cs) : XF F_Entry_init [.str "a", .lst [.int 1], .tup k_FIRST_TIME, .str ""] cs q E := by
  have k := sp_Entry (e := e1) e1g (a := .lst (nL [1])) (cs := cs) (q := q) (E := E) hd ⟨.inl rfl, e1g.dO, by decide⟩ h
  exact k
theorem rl256 : rangeL 0 (256 - 0 : Int).toNat = nL (List.range 256) := by
  unfold rangeL nL
  refine List.map_congr_left fun k _ => ?_
  rw [Int.zero_add]
theorem hx_lt {l : List Nat} (h : l.all isHx = true) : l.all (· < 128) = true := by
  rw [List.all_eq_true] at h ⊢
  exact fun x hx => decide_eq_true (isHx_lt (h x hx))
def oddL : List DV := [.non, .int 5, .bl true, .lst [], .tup [], .dct [] [], .lst [.int 48, .int 48], .tup [.str "00"], eI e1]
def badL : List DV := [.non, .int 5, .bl true, .str "00", .str "", .dct [] [], .lst [.int 256], .lst [.int (-1)], .lst [.bl true], .lst [.non], .lst [.str "0"], .lst [.lst [.int 0]], .tup [.int 0, .int 300], eI e1]
theorem odd_ok : ∀ x ∈ oddL, isiR CL x (.ty "str") = some (.bl false, .new) := by
  intro x hx
  simp only [oddL, List.mem_cons, List.not_mem_nil, or_false] at hx
  rcases hx with rfl | rfl | rfl | rfl | rfl | rfl | rfl | rfl | rfl <;> rfl
theorem sp_isb_e1 {d : DrawSt} {q : DV → Kd → List CellC → Prop} (h : q (.bl false) .new [.draw d]) : XF F_is_bytes [eI e1] [.draw d] q noX := by
  unfold F_is_bytes
  refine x_wf' rfl ?_
  unfold sv_is_bytes
  generalize (evCall (Blt.run CL .all) (akCons (e_is_bytes_1) (akNil))) = X
  walk_at "wx"
  exact h
theorem bad_ok : ∀ x ∈ badL, ∀ d, XF F_is_bytes [x] [.draw d] (fun b kd cs' => b = .bl false ∧ kd = .new ∧ cs' = [.draw d]) noX := by
  intro x hx d
  have pp : ∀ y : DV, pl y = true → bytesD y = false → (∀ ds, y = .lst ds ∨ y = .tup ds → ds.length ≤ sizeLine ∧ ∀ d ∈ ds, pl d = true) → XF F_is_bytes [y] [.draw d] (fun b kd cs' => b = .bl false ∧ kd = .new ∧ cs' = [.draw d]) noX := fun y h1 h2 h3 => sp_is_bytes h1 h3 (by rw [h2]; exact ⟨rfl, rfl, rfl⟩)
  have p0 : ∀ y : DV, (∀ ds, y ≠ .lst ds ∧ y ≠ .tup ds) → ∀ ds, y = .lst ds ∨ y = .tup ds → ds.length ≤ sizeLine ∧ ∀ d ∈ ds, pl d = true := fun y h ds hd => by rcases hd with hd | hd; exact absurd hd (h ds).1; exact absurd hd (h ds).2
  have p1 : ∀ xs : List DV, xs.length ≤ 5 → (∀ d ∈ xs, pl d = true) → ∀ y : DV, (y = .lst xs ∨ y = .tup xs) → ∀ ds, y = .lst ds ∨ y = .tup ds → ds.length ≤ sizeLine ∧ ∀ d ∈ ds, pl d = true := fun xs h1 h2 y hy ds hd => by
    have : ds = xs := by rcases hy with rfl | rfl <;> rcases hd with e | e <;> cases e <;> rfl
    subst this
    exact ⟨by rw [sl_eq]; omega, h2⟩
  simp only [badL, List.mem_cons, List.not_mem_nil, or_false] at hx
  rcases hx with rfl | rfl | rfl | rfl | rfl | rfl | rfl | rfl | rfl | rfl | rfl | rfl | rfl | rfl
  · exact pp _ rfl rfl (p0 _ fun ds => ⟨nofun, nofun⟩)
  · exact pp _ rfl rfl (p0 _ fun ds => ⟨nofun, nofun⟩)
  · exact pp _ rfl rfl (p0 _ fun ds => ⟨nofun, nofun⟩)
  · exact pp _ rfl rfl (p0 _ fun ds => ⟨nofun, nofun⟩)
  · exact pp _ rfl rfl (p0 _ fun ds => ⟨nofun, nofun⟩)
  · exact pp _ rfl rfl (p0 _ fun ds => ⟨nofun, nofun⟩)
  · exact pp _ rfl rfl (p1 _ (by decide) (by intro d hd; simp at hd; subst hd; rfl) _ (.inl rfl))
  · exact pp _ rfl rfl (p1 _ (by decide) (by intro d hd; simp at hd; subst hd; rfl) _ (.inl rfl))
  · exact pp _ rfl rfl (p1 _ (by decide) (by intro d hd; simp at hd; subst hd; rfl) _ (.inl rfl))
  · exact pp _ rfl rfl (p1 _ (by decide) (by intro d hd; simp at hd; subst hd; rfl) _ (.inl rfl))
  · exact pp _ rfl rfl (p1 _ (by decide) (by intro d hd; simp at hd; subst hd; rfl) _ (.inl rfl))
  · exact pp _ rfl rfl (p1 _ (by decide) (by intro d hd; simp at hd; subst hd; rfl) _ (.inl rfl))
  · exact pp _ rfl rfl (p1 _ (by decide) (by intro d hd; simp at hd; rcases hd with rfl | rfl <;> rfl) _ (.inr rfl))
  · exact sp_isb_e1 ⟨rfl, rfl, rfl⟩
theorem law_end {d : DrawSt} {n : Nat} {ns : List Int} {s2 s3 s4 s5 s6 s7 s8 s9 s10 : D.Slot} {nx bk : DS → Prop} {rt : QE} (ok : DrawOk d (n + 2))
    (h : ∀ s2 s3 s4 s5 s6 s7 s8 s9 s10 d', DrawOk d' n → nx ⟨[some (.scr ns, false), some (.cel 0, false), s2, s3, s4, s5, s6, s7, s8, s9, s10], [.draw d']⟩) :
    XS (u2_law_10 ⟨[some (.scr ns, false), some (.cel 0, false), s2, s3, s4, s5, s6, s7, s8, s9, s10], [.draw d]⟩) ⟨nx, bk, nx, rt⟩ noX := by
  unfold u2_law_10
  walk_at "wx"
  refine sp_e1 rfl ?_
  walk_at "wx"
  refine sp_pick (n := n + 1) ok (by decide) (by decide) fun x d1 hx ok1 => ?_
  have rest : XS (u2_law_11 ⟨[some (.scr ns, false), some (.cel 0, false), s2, s3, s4, s5, s6, s7, some (x, false), s9, s10], [.draw d1]⟩) ⟨nx, bk, nx, rt⟩ noX := by
    have ho := odd_ok x hx
    unfold u2_law_11
    walk_at "wx"
    unfold u2_law_12
    walk_at "wx"
    refine sp_e1 rfl ?_
    walk_at "wx"
    refine sp_pick (n := n) ok1 (by decide) (by decide) fun y d2 hy ok2 => ?_
    have rest2 : ∀ {s9}, XS (u2_law_13 ⟨[some (.scr ns, false), some (.cel 0, false), s2, s3, s4, s5, s6, s7, some (x, false), s9, some (y, false)], [.draw d2]⟩) ⟨nx, bk, nx, rt⟩ noX := fun {s9} => by
      have hb := bad_ok y hy d2
      unfold u2_law_13
      walk_at "wx"
      refine sp_how17 rfl (sp_read_odd ho ⟨rfl, rfl⟩) ?_
      walk_at "wx"
      unfold u2_law_14
      walk_at "wx"
      refine sp_how1 rfl (sp_bt_bad hb ⟨rfl, rfl⟩) ?_
      walk_at "wx"
      exact h _ _ _ _ _ _ _ _ _ _ ok2
    simp only [List.mem_cons, List.not_mem_nil, or_false, List.cons_append, List.nil_append] at hy
    rcases hy with rfl | rfl | rfl | rfl | rfl | rfl | rfl | rfl | rfl | rfl | rfl | rfl | rfl | rfl
    all_goals
      walk_at "wx"
      exact rest2
  simp only [List.mem_cons, List.not_mem_nil, or_false] at hx
  rcases hx with rfl | rfl | rfl | rfl | rfl | rfl | rfl | rfl | rfl
  all_goals
    walk_at "wx"
    exact rest
theorem pair_okB : ∀ {l : List Nat}, l.all isHx = true → Crc.okB (pairL l)
  | [], _ => fun x hx => by simp [pairL] at hx
  | [a], _ => fun x hx => by simp [pairL] at hx
  | a :: b :: r, h => fun x hx => by
    rw [List.all_cons, List.all_cons, Bool.and_eq_true, Bool.and_eq_true] at h
    rw [pairL, List.mem_cons] at hx
    rcases hx with rfl | hx
    · have h1 := (at_hx (l := [a]) (by simp [h.1]) (i := 0) (by simp)).2
      have h2 := (at_hx (l := [b]) (by simp [h.2.1]) (i := 0) (by simp)).2
      simp only [List.getD_cons_zero] at h1 h2
      omega
    · exact pair_okB h.2.2 x hx
theorem due_ok {l b : List Nat} (e : dueL l = some b) : dOk (.lst (nL b)) = true ∧ dDp (.lst (nL b)) ≤ 64 := by
  unfold dueL at e
  split at e
  · cases e
  · rename_i hc
    cases e
    refine ⟨nL_oks (pair_okB ?_), by show dDps _ + 1 ≤ 64; rw [nL_dps]; decide⟩
    cases h : l.all isHx with
    | true => rfl
    | false => exact absurd (.inr h) hc
theorem law_turn {d : DrawSt} {n : Nat} {ns : List Int} {s2 s3 s4 s5 s6 s7 s8 s9 s10 : D.Slot} {nx bk : DS → Prop} {rt : QE} (ok : DrawOk d (n + 300))
    (h : ∀ s2 s3 s4 s5 s6 s7 s8 s9 s10 d', DrawOk d' n → nx ⟨[some (.scr ns, false), some (.cel 0, false), s2, s3, s4, s5, s6, s7, s8, s9, s10], [.draw d']⟩) :
    XS (b_law_16 ⟨[some (.scr ns, false), some (.cel 0, false), s2, s3, s4, s5, s6, s7, s8, s9, s10], [.draw d]⟩) ⟨nx, bk, nx, rt⟩ noX := by
  unfold b_law_16
  walk_at "wx"
  refine sp_next (n := n + 299) (ok.mono (by omega)) (by decide) (by decide) fun w d1 kd w0 w1 ok1 => ?_
  have rest : ∀ bs d2, Crc.okB bs → bs.length ≤ 256 → DrawOk d2 (n + 98) → XS (u2_law_1 ⟨[some (.scr ns, false), some (.cel 0, false), s2, some (.lst (nL bs), true), s4, s5, s6, s7, s8, s9, s10], [.draw d2]⟩) ⟨nx, bk, nx, rt⟩ noX := fun bs d2 hb hl ok2 => by
    unfold u2_law_1
    walk_at "wx"
    refine sp_l_hex hb (by omega) ?_
    unfold u2_law_2
    walk_at "wx"
    have rd : ∀ {q : DV → Kd → List CellC → Prop} {d : DrawSt}, q (.lst (nL bs)) .new [.draw d] → XF F_read_bytes [.str (S (hexL bs))] [.draw d] q noX := fun {q d} hq => by
      refine sp_read_bytes (by rw [hexL_len]; omega) (hx_lt (hexL_ok hb).1) (fun b2 e => ?_) (fun e => ?_)
      · rw [dueL_hex hb] at e
        cases e
        exact hq
      · rw [dueL_hex hb] at e
        cases e
    have dO : dOk (.lst (nL bs)) = true := nL_oks hb
    have dP : dDp (.lst (nL bs)) ≤ 64 := by show dDps _ + 1 ≤ 64; rw [nL_dps]; decide
    refine sp_bytes_text hb (by omega) _ (.inl rfl) ?_
    walk_at "wx"
    refine sp_bytes_text hb (by omega) _ (.inr rfl) ?_
    walk_at "wx"
    unfold u2_law_3
    walk_at "wx"
    refine rd ?_
    walk_at "wx"
    · exact rep_nL hb (by omega)
    walk_at "wx"
    · exact rep_nL hb (by omega)
    walk_at "wx"
    unfold u2_law_4
    walk_at "wx"
    refine x_appT ?_
    walk_at "wx"
    refine rd ?_
    walk_at "wx"
    refine ⟨rfl, ?_⟩
    walk_at "wx"
    unfold u2_law_5
    walk_at "wx"
    refine rd ?_
    walk_at "wx"
    refine x_wo_neR dO dP ?_
    walk_at "wx"
    unfold u2_law_6
    walk_at "wx"
    refine sp_next (n := n + 97) ok2 (by decide) (by decide) fun r d3 kd r0 r1 ok3 => ?_
    walk_at "wx"
    refine x_wo (dsl_to (by rw [hexL_len]; omega) (by omega)) ?_
    have hp1 : ((hexL bs).take (2 * r).toNat).length ≤ 38 := by rw [List.length_take]; omega
    have hp2 : ((hexL bs).take (2 * r).toNat).all (· < 128) = true := by
      have := hx_lt (hexL_ok hb).1
      rw [List.all_eq_true] at this ⊢
      exact fun x hx => this x (List.mem_of_mem_take hx)
    generalize (hexL bs).take (2 * r).toNat = p at hp1 hp2 ⊢
    walk_at "wx"
    unfold u2_law_7
    walk_at "wx"
    refine sp_next (n := n + 96) ok3 (by decide) (by decide) fun t d4 kd4 t0 t1 ok4 => ?_
    walk_at "wx"
    refine ⟨by omega, ?_⟩
    refine x_wfor (fun r st => ∃ (l : List Nat) (s6 : D.Slot) (d : DrawSt), st = ⟨[some (.scr ns, false), some (.cel 0, false), s2, some (.lst (nL bs), true), some (.str (S (hexL bs)), false), some (.str (S l), false), s6, s7, s8, s9, s10], [.draw d]⟩ ∧ l.length + r.length ≤ 42 ∧ l.all (· < 128) = true ∧ DrawOk d (n + 2 + 3 * r.length)) _ _ ⟨p, s6, d4, rfl, by simp [rangeL]; omega, hp2, ok4.mono (by simp [rangeL]; omega)⟩ ?_ ?_
    · rintro x r st ⟨l, s6, d5, rfl, h1, h2, ok5⟩
      rw [List.length_cons] at h1 ok5
      unfold b_law_1
      walk_at "wx"
      refine sp_l_bent (n := n + 2 + 3 * r.length) (by omega) h2 (ok5.mono (by omega)) fun l' d6 kd h3 h4 ok6 => ?_
      walk_at "wx"
      exact ⟨l', _, d6, rfl, by omega, h4, ok6⟩
    · rintro st ⟨l, s6, d5, rfl, h1, h2, ok5⟩
      have h1 : l.length ≤ 42 := by simpa using h1
      have ok5 : DrawOk d5 (n + 2) := by simpa using ok5
      unfold u2_law_8
      walk_at "wx"
      refine sp_l_due (by omega) h2 ?_
      cases e : dueL l with
      | none =>
        have ed : dueD l = .non := by unfold dueD; rw [e]
        rw [ed]
        walk_at "wx"
        unfold u2_law_9
        walk_at "wx"
        refine sp_how17 rfl (sp_read_bytes (by omega) h2 (fun b2 e2 => ?_) fun _ => ⟨rfl, rfl⟩) ?_
        · rw [e] at e2
          cases e2
        walk_at "wx"
        exact law_end ok5 h
      | some b2 =>
        have ed : dueD l = .lst (nL b2) := by unfold dueD; rw [e]
        rw [ed]
        walk_at "wx"
        unfold u2_law_9
        walk_at "wx"
        refine sp_read_bytes (by omega) h2 (fun b3 e2 => ?_) fun e2 => ?_
        · rw [e] at e2
          cases e2
          walk_at "wx"
          refine x_wo_neR (due_ok e).1 (due_ok e).2 ?_
          walk_at "wx"
          exact law_end ok5 h
        · rw [e] at e2
          cases e2
  walk_at "wx"
  refine IfK.dec (fun h1 => ?_) (fun h1 => ?_)
  · walk_at "wx"
    refine sp_l_some (m := 100) (n := n + 98) (by simpa using ok1) (by decide) fun bs d2 hb hl ok2 => ?_
    walk_at "wx"
    exact rest bs d2 hb (by omega) ok2
  · walk_at "wx"
    have e : rangeL 0 (256 - 0 : Int).toNat = nL (List.range 256)  := rl256
    rw [e]
    exact rest (List.range 256) d1 (by unfold Crc.okB; intro x hx; exact List.mem_range.mp hx) (by simp) (ok1.mono (by omega))
theorem law_kept : KeptBy F_law 63 := x_kept_of fun ns hl => by
  unfold F_law
  refine x_wf' rfl ?_
  unfold sv_law t_law_1
  walk_at "wx"
  refine x_begun_eqD hl fun d ok => ?_
  walk_at "wx"
  refine ⟨by omega, ?_⟩
  refine x_wfor (fun r st => ∃ (s2 s3 s4 s5 s6 s7 s8 s9 s10 : D.Slot) (d : DrawSt), st = ⟨[some (.scr ns, false), some (.cel 0, false), s2, s3, s4, s5, s6, s7, s8, s9, s10], [.draw d]⟩ ∧ DrawOk d (300 * r.length)) _ _ ⟨_, _, _, _, _, _, _, _, _, d, rfl, ok.mono (by simp [rangeL]; (repeat' split) <;> omega)⟩ ?_ ?_
  · rintro x r st ⟨s2, s3, s4, s5, s6, s7, s8, s9, s10, d, rfl, ok⟩
    rw [List.length_cons] at ok
    walk_at "wx"
    refine law_turn (n := 300 * r.length) (ok.mono (by omega)) fun s2 s3 s4 s5 s6 s7 s8 s9 s10 d' ok' => ?_
    exact ⟨s2, s3, s4, s5, s6, s7, s8, s9, s10, d', rfl, ok'⟩
  · rintro st ⟨s2, s3, s4, s5, s6, s7, s8, s9, s10, d, rfl, ok⟩
    unfold t_law_2
    walk_at "wx"
    refine sp_bytes_text (bs := []) (fun _ h => by simp at h) (by simp) _ (.inl rfl) ?_
    walk_at "wx"
    refine sp_read_bytes (l := []) (by simp) rfl (fun b e => ?_) fun e => by cases e
    cases e
    walk_at "wx"
    first | rfl | (with_unfolding_all rfl) | simp [PyData.eqv]
end Law

theorem PySem.Challenge.cw_endlist_k63_bytes_as_texts_holds : PySem.Challenge.rw_endlist_k63_bytes_as_texts.Holds :=
  Law.end_of Law.law_kept

