import PyProof.Rows.All
import Wide.All
import OpenK.AllK
import Wide.FinOn
import HandS.ForMost
import HandS.ForExc
import HandS.Lambda
import HandS.Style
import HandS.TupAny
import HandS.Wide
import HandS.Deep
import HandS.Text
import HandS.Flow
import HandS.IsInst
import HandS.WordsDict
import HandS.RaiseMore
import KE.KExcIs
import HandS.CallSlots
import HandS.Iter
import HandS.Zip
import HandS.Comp
import HandS.Dict
import HandS.WordsExc
import HandS.EndBits
import HandS.ExcIs
import HandS.ExcValue
import HandS.ExcField
import HandS.TryMany
import HandS.SetFor
import HandS.Small
import HandS.Conv
import HandS.Replace
import HandS.Defaults
import PyProof.Draws
import PyProof.EnumMake
import PyProof.TupleIter
import HandS.MakeKwOnly
import HandS.Property
import PyProof.InstNe
import HandS.ExcInit
import HandS.ClsMeth
import HandS.SetBool
import HandS.SetKeys
import HandS.OwnEq
import PyProof.EqAt
import PyProof.NeKinds
import HandS.DictTup
import HandS.SortRule
import PyProof.ReprLen
import HandS.GenList
import HandS.IterNext
import HandS.SortInts
import HandS.Strs
import HandS.More
import KE.KNestM
import HandS.Head2
import PySem.Challenge.RW_endlist_k09_records_rows_ends_written
set_option Elab.async false
set_option linter.all false
set_option maxRecDepth 100000
set_option maxHeartbeats 4000000
namespace D
open PySem PySem.W PyProof.Rows PySem.Calls HandSHeadRun
noncomputable def topEnd (r : OpenRow) (w : World) (os : OsState) : Option SharedT := endF (stepQ (denQ tabQ) r.prog w) 60000 r.prog w os
theorem map_both {α β γ : Type} {o : Option α} {f : α → β} {g : α → γ} {b : β} {c : γ} (h : o.map f = some b) (k : o.map g = some c) : o.map (fun s => (f s, g s)) = some (b, c) := by
 cases o with
 | none => cases h
 | some a => cases h; cases k; rfl
theorem head_hm {r : OpenRow} {q : Program} {K : Params → Frag} {as ts : List Addr} {e : ∀ P, as = (K P).map (·.1)} {Hk : Hook} {loose : List PySem.Str} {d : DefRec} {kwd : List (PySem.Str × PySem.Expr)}
 (r1 : ∀ w os, (topEnd r w os).map (fun s => looksF r.prog (boot_heap w.params) s.abs) = some true)
 (r2 : ∀ w os, (topEnd r w os).map (fun s => seenQ q loose (importedModules r.prog.main.body) (fun s => xlAt q [] s && recOk r.toRowW.records s) s.abs) = some (openGood q loose))
 (hH : Hk = kmHook K as e ts)
 (r3 : ∀ w os, (topEnd r w os).map (fun s => (as.map (getT s), ts.map (getT s))) = some ((K w.params).map fun x => some x.2, ts.map fun _ => some (tabObj #[])))
 (eo : opening r.prog = plainProg r.prog.main.scope.names) (f : ∀ s, fenceModules? r.prog s = some s)
 (hdef : defOf q r.name = some (d, kwd)) (hp : r.prog.theDef r.name = some (d.params, d.body, d.scope)) (hk : kwWritten? d.params.kwonlyargs d.params.kw_defaults = some kwd)
 (hwr : (!r.writes || r.records.isEmpty) = true) (k1 : r.wellSaid = true) (ok : (chainsOk q && opensWell r.prog && (frees r.toRowW && r.within.isEmpty)) = true) (hb : r.prog.bare) (hw : r.toRowW.promised)
 (call : WalkO q loose (XL q []) Hk.says r.toRowW d kwd fun f vs => PySem.call f vs) : r.Holds := by
 subst hH
 refine head_any (H := kmHook K as e ts) (ob := fun s => (as.map (getT s), ts.map (getT s))) (M := 60000) (fun s => Prod.ext (List.map_congr_left fun a _ => getT_eq s a) (List.map_congr_left fun a _ => getT_eq s a)) eo f (fun w os => ?_) hdef hp hk hwr k1 ok hb hw call
 exact map_both (r1 w os) (map_both (r2 w os) (r3 w os))
end D
namespace Law
open PySem PySem.W PyProof.Rows PySem.Calls HandSHeadRun
def loose0 : List PySem.Str := ["_wall", "ArchiveError", "NoBytes", "NoNumber", "NoTime", "NoName", "NoComment", "NoData", "MOST_BYTES", "GREATEST_BYTE", "is_number", "is_bytes", "need_bytes", "bytes_of", "GREATEST_CHECK", "STEPS", "forward", "check", "check_checks", "LONGEST_NAME", "LONGEST_COMMENT", "FIRST_SIGN", "LAST_SIGN", "PERCENT", "is_printable", "is_text", "is_name", "is_comment", "bytes_of_text", "EARLIEST"]
def loose1 : List PySem.Str := ["LATEST_YEAR", "MONTHS", "days_in", "is_time", "stamp_of", "MOST_DATA", "FIRST_TIME", "Entry", "RECORD", "ROW", "END", "VERSION", "MOST_ENTRIES", "GREATEST", "shared_bytes", "record_of", "need_number", "row_of", "end_of", "_law_begun", "_law_next", "_law_pick", "_law_signs", "_law_titles", "_law_note", "_law_moment", "_law_low", "_law_octets", "_law_crc", "_law_shared"]
def loose2 : List PySem.Str := ["_law_record", "_law_row", "_law_end", "_law_some", "_law_entry", "_law_made", "_law_tried"]
def looseN : List PySem.Str := loose0 ++ loose1 ++ loose2
abbrev rowR : OpenRow := OpenLaw.row PySem.Challenge.rw_endlist_k09_records_rows_ends_written
abbrev viewQ : Program := view rowR.prog [75, 76]
theorem run1 (w : World) (os : OsState) : (D.topEnd rowR w os).map (fun s => looksF rowR.prog (boot_heap w.params) s.abs) = some true := by kernel_rfl
theorem run2 (w : World) (os : OsState) : (D.topEnd rowR w os).map (fun s => seenQ viewQ looseN (importedModules rowR.prog.main.body) (fun s => xlAt viewQ [] s && recOk rowR.toRowW.records s) s.abs) = some (openGood viewQ looseN) := by kernel_rfl
end Law
section
open PySem PySem.W PyProof.Rows
local macro_rules | `(tactic| o_head $H:term) => `(tactic| refine D.head_hm (r := Law.rowR) (q := Law.viewQ) (Hk := $H) (d := HandSHeadRun.topDef Law.rowR.prog 76) (kwd := []) Law.run1 Law.run2 rfl (fun w os => by kernel_rfl) (by kernel_rfl) (fun s => by kernel_rfl) (by kernel_rfl) (by kernel_rfl) (by kernel_rfl) (by rfl) (by first | assumption | decide +kernel) (by decide +kernel) ⟨rfl, rfl, rfl, rfl, rfl, by decide +kernel⟩ ?hw ?hc)
set_option maxHeartbeats 0 in
open_top Law.top for PySem.Challenge.rw_endlist_k09_records_rows_ends_written
end
namespace D
open PySem L2
inductive DV where
 | non | bl (b : Bool) | int (i : Int) | str (s : Str)
 | lst (xs : List DV) | tup (xs : List DV) | dct (ks : List Key) (vs : List DV)
 | fdc (ks : List Key) (vs : List DV)
 | ins (c : Nat) (ns : List Str) (vs : List DV)
 | exc (c : Nat) (ns : List Str) (vs : List DV)
 | scr (xs : List Int)
 | cel (k : Nat)
 | ty (n : String) | cls (c : Nat)
 | opq
 | bor (xs : List DV)
 deriving Inhabited
structure DX where
 c : Nat
 ns : List Str
 vs : List DV
 deriving Inhabited
structure DrawSt where
 digits : Int
 great : List Int
 lumps : List Int
 turn : Int
 deriving Inhabited
inductive CellC where
 | draw (d : DrawSt)
 | obj (d : DV)
 | dead
 deriving Inhabited
structure CellA where
 main : Addr
 more : List Addr
inductive Kd where
 | fro | new | view (i : Nat)
 deriving Inhabited
abbrev Slot := Option (DV × Bool)
structure DS where
 sl : List Slot
 cs : List CellC
 deriving Inhabited
inductive Out (α : Type) where
 | ok (a : α) (st : DS)
 | exc (x : DX) (st : DS)
 | stuck
def Out.bind {α β : Type} (o : Out α) (k : α → DS → Out β) : Out β := match o with
 | .ok a st => k a st
 | .exc x st => .exc x st
 | .stuck => .stuck
abbrev Ev := DS → Out (DV × Kd)
structure RC where
 K : PySem.W.Frag
 cls : Nat → Addr
 T : List (Addr × Str)
section
variable (C : RC) (ρ : List CellA) (A : Addr → Prop) (H : Hp)
def KT (a : Addr) (xs : List V) : Prop := ∃ (o : Obj) (its : Array Value) (n : Nat), C.K.lookup a = some o ∧ o.cls = .type "tuple" ∧ o.data = .seq its n ∧ its.size ≤ sizeLine ∧ Vals xs its.toList
def KL (a : Addr) (xs : List V) : Prop := ∃ (o : Obj) (its : Array Value) (n : Nat), C.K.lookup a = some o ∧ o.cls = .type "list" ∧ o.dict = none ∧ o.data = .seq its n ∧ its.size ≤ sizeLine ∧ Vals xs its.toList
def XO (cls : Value) (d : Option Addr) (a : Addr) : HO := .ext fun h => ∃ (oe : Obj) (vs : Array Value), h.get? a = some oe ∧ Zc cls d oe ∧ oe.data = .fields vs
mutual
inductive Rep : V → DV → Prop where
 | non : Rep .non .non
 | bl (b : Bool) : Rep (.bl b) (.bl b)
 | int (i : Int) : Rep (.int i) (.int i)
 | str (s : Str) : Rep (.str s) (.str s)
 | ty (n : String) : Rep (.ty n) (.ty n)
 | cls (c : Nat) : Rep (.ref (C.cls c)) (.cls c)
 | lst {a : Addr} {xs : List V} {ds : List DV} : ¬ A a → H a = some (.lst xs) → RepL xs ds → Rep (.ref a) (.lst ds)
 | tup {a : Addr} {xs : List V} {ds : List DV} : ¬ A a → H a = some (.tup xs) → RepL xs ds → Rep (.ref a) (.tup ds)
 | ktup {a : Addr} {xs : List V} {ds : List DV} : KT C a xs → RepL xs ds → Rep (.ref a) (.tup ds)
 | dct {a : Addr} {xs : List V} {ks : List Key} {ds : List DV} : ¬ A a → H a = some (.dK (ks.zip xs)) → ks.length = xs.length → RepL xs ds → Rep (.ref a) (.dct ks ds)
 | ins {a dx : Addr} {c : Nat} {xs : List V} {ns : List Str} {ds : List DV} : ¬ A a → H a = some (.ins (C.cls c) dx (ns.zip xs)) → ns.length = xs.length → RepL xs ds → Rep (.ref a) (.ins c ns ds)
 | scr {a : Addr} {o : Obj} {ns : List Int} : ¬ A a → H a = some (.frz o (.lst (ns.map V.int))) → Rep (.ref a) (.scr ns)
 | kscr {a : Addr} {ns : List Int} : KL C a (ns.map V.int) → Rep (.ref a) (.scr ns)
 | cel {k : Nat} {c : CellA} : ρ[k]? = some c → Rep (.ref c.main) (.cel k)
 | opq (a : Addr) : Rep (.ref a) .opq
 | exc {a dx : Addr} {c : Nat} {xs : List V} {ns : List Str} {ds : List DV} : ¬ A a → H a = some (XO (.ref (C.cls c)) (some dx) a) → ¬ A dx → H dx = some (.xd (ns.zip xs)) → ns.length = xs.length → RepL xs ds → Rep (.ref a) (.exc c ns ds)
 | exc0 {a : Addr} {c : Nat} : ¬ A a → H a = some (XO (.ref (C.cls c)) none a) → Rep (.ref a) (.exc c [] [])
 | bor {a : Addr} {o : Obj} {xs : List V} {ds : List DV} : ¬ A a → H a = some (.frz o (.lst xs)) → RepL xs ds → Rep (.ref a) (.bor ds)
 | fdc {a : Addr} {o : Obj} {xs : List V} {ks : List Key} {ds : List DV} : ¬ A a → H a = some (.frz o (.dK (ks.zip xs))) → ks.length = xs.length → RepL xs ds → Rep (.ref a) (.fdc ks ds)
inductive RepL : List V → List DV → Prop where
 | nil : RepL [] []
 | cons {v : V} {vs : List V} {d : DV} {ds : List DV} : Rep v d → RepL vs ds → RepL (v :: vs) (d :: ds)
end
end
def NT : HO → Prop
 | .tbl _ => False
 | _ => True
section
variable {C : RC} {ρ ρ' : List CellA} {A A' : Addr → Prop} {H H' : Hp}
theorem RepL.length : ∀ {vs : List V} {ds : List DV}, RepL C ρ A H vs ds → vs.length = ds.length
 | _, _, .nil => rfl
 | _, _, .cons _ t => by simp [RepL.length t]
theorem RepL.get : ∀ {vs : List V} {ds : List DV} {i : Nat} {d : DV}, RepL C ρ A H vs ds → ds[i]? = some d → ∃ v, vs[i]? = some v ∧ Rep C ρ A H v d
 | _, _, _, _, .nil, e => by simp at e
 | _, _, 0, _, .cons r _, e => by simp at e; subst e; exact ⟨_, rfl, r⟩
 | _, _, i + 1, d, .cons _ t, e => by
  obtain ⟨v, h1, h2⟩ := RepL.get (i := i) (d := d) t (by simpa using e)
  exact ⟨v, by simpa using h1, h2⟩
theorem RepL.append : ∀ {vs ws : List V} {ds es : List DV}, RepL C ρ A H vs ds → RepL C ρ A H ws es → RepL C ρ A H (vs ++ ws) (ds ++ es)
 | _, _, _, _, .nil, s => s
 | _, _, _, _, .cons r t, s => .cons r (RepL.append t s)
theorem RepL.take : ∀ {vs : List V} {ds : List DV} (n : Nat), RepL C ρ A H vs ds → RepL C ρ A H (vs.take n) (ds.take n)
 | _, _, 0, _ => .nil
 | _, _, _ + 1, .nil => .nil
 | _, _, n + 1, .cons r t => .cons r (RepL.take n t)
theorem RepL.drop : ∀ {vs : List V} {ds : List DV} (n : Nat), RepL C ρ A H vs ds → RepL C ρ A H (vs.drop n) (ds.drop n)
 | _, _, 0, r => r
 | _, _, _ + 1, .nil => .nil
 | _, _, n + 1, .cons _ t => RepL.drop n t
theorem RepL.set {v : V} {d : DV} (r : Rep C ρ A H v d) : ∀ {vs : List V} {ds : List DV} (i : Nat), RepL C ρ A H vs ds → RepL C ρ A H (vs.set i v) (ds.set i d)
 | _, _, _, .nil => .nil
 | _, _, 0, .cons _ t => .cons r t
 | _, _, i + 1, .cons q t => .cons q (RepL.set r i t)
theorem RepL.erase : ∀ {vs : List V} {ds : List DV} (i : Nat), RepL C ρ A H vs ds → RepL C ρ A H (vs.eraseIdx i) (ds.eraseIdx i)
 | _, _, _, .nil => .nil
 | _, _, 0, .cons _ t => t
 | _, _, i + 1, .cons q t => .cons q (RepL.erase i t)
theorem RepL.reverse : ∀ {vs : List V} {ds : List DV}, RepL C ρ A H vs ds → RepL C ρ A H vs.reverse ds.reverse
 | _, _, .nil => .nil
 | _, _, .cons q t => by
  rw [List.reverse_cons, List.reverse_cons]
  exact RepL.append (RepL.reverse t) (.cons q .nil)
mutual
theorem Rep.mv (hp : ρ <+: ρ') (hk : ∀ a o, H a = some o → ¬ A a → NT o → H' a = some o) (ha : ∀ a, A' a → A a ∨ H a = none) : ∀ {v : V} {d : DV}, Rep C ρ A H v d → Rep C ρ' A' H' v d
 | _, _, .non => .non
 | _, _, .bl b => .bl b
 | _, _, .int i => .int i
 | _, _, .str s => .str s
 | _, _, .ty n => .ty n
 | _, _, .cls c => .cls c
 | _, _, .lst n e r => .lst (fun z => (ha _ z).elim n fun q => by rw [e] at q; cases q) (hk _ _ e n trivial) (RepL.mv hp hk ha r)
 | _, _, .tup n e r => .tup (fun z => (ha _ z).elim n fun q => by rw [e] at q; cases q) (hk _ _ e n trivial) (RepL.mv hp hk ha r)
 | _, _, .ktup k r => .ktup k (RepL.mv hp hk ha r)
 | _, _, .dct n e l r => .dct (fun z => (ha _ z).elim n fun q => by rw [e] at q; cases q) (hk _ _ e n trivial) l (RepL.mv hp hk ha r)
 | _, _, .ins n e l r => .ins (fun z => (ha _ z).elim n fun q => by rw [e] at q; cases q) (hk _ _ e n trivial) l (RepL.mv hp hk ha r)
 | _, _, .scr n e => .scr (fun z => (ha _ z).elim n fun q => by rw [e] at q; cases q) (hk _ _ e n trivial)
 | _, _, .kscr k => .kscr k
 | _, _, .cel e => .cel (by
  obtain ⟨t, rfl⟩ := hp
  rw [List.getElem?_append_left (List.getElem?_eq_some_iff.mp e).1]; exact e)
 | _, _, .opq a => .opq a
 | _, _, .exc n e n2 e2 l r => .exc (fun z => (ha _ z).elim n fun q => by rw [e] at q; cases q) (hk _ _ e n trivial) (fun z => (ha _ z).elim n2 fun q => by rw [e2] at q; cases q) (hk _ _ e2 n2 trivial) l (RepL.mv hp hk ha r)
 | _, _, .exc0 n e => .exc0 (fun z => (ha _ z).elim n fun q => by rw [e] at q; cases q) (hk _ _ e n trivial)
 | _, _, .bor n e r => .bor (fun z => (ha _ z).elim n fun q => by rw [e] at q; cases q) (hk _ _ e n trivial) (RepL.mv hp hk ha r)
 | _, _, .fdc n e l r => .fdc (fun z => (ha _ z).elim n fun q => by rw [e] at q; cases q) (hk _ _ e n trivial) l (RepL.mv hp hk ha r)
theorem RepL.mv (hp : ρ <+: ρ') (hk : ∀ a o, H a = some o → ¬ A a → NT o → H' a = some o) (ha : ∀ a, A' a → A a ∨ H a = none) : ∀ {vs : List V} {ds : List DV}, RepL C ρ A H vs ds → RepL C ρ' A' H' vs ds
 | _, _, .nil => .nil
 | _, _, .cons r t => .cons (Rep.mv hp hk ha r) (RepL.mv hp hk ha t)
end
end
def WR : HO → Prop
 | .lst _ => True
 | .dK _ => True
 | .ins _ _ _ => True
 | _ => False
theorem tabs_but {T : List (Addr × Str)} {H H' : Hp} (t : LamX.Tabs T H) (h : ∀ a o, H a = some o → ¬ WR o → H' a = some o) : LamX.Tabs T H' := fun q hq => by
 obtain ⟨ps, h1, h2, h3⟩ := t q hq
 refine ⟨ps, h _ _ h1 fun z => z, h2, fun pos cv hc => ?_⟩
 obtain ⟨c, e1, e2⟩ := h3 pos cv hc
 exact ⟨c, e1, h _ _ e2 fun z => z⟩
theorem tabs_write {T : List (Addr × Str)} {H : Hp} {p : Addr} {o' : HO} (t : LamX.Tabs T H) (hw : ∀ o, H p = some o → WR o) : LamX.Tabs T (upd H p o') :=
 tabs_but t fun a o e n => by rw [upd_ne (fun (z : a = p) => n (hw o (by rw [← z]; exact e)))]; exact e
def CM (ρ : List CellA) (a : Addr) : Prop := ∃ c ∈ ρ, a = c.main ∨ a ∈ c.more
def kDigits : Key := .inr "digits"
def kGreat : Key := .inr "great"
def kLumps : Key := .inr "lumps"
def kTurn : Key := .inr "turn"
def DrawAt (H : Hp) (c : CellA) (d : DrawSt) : Prop := ∃ g l, c.more = [g, l] ∧ c.main ≠ g ∧ c.main ≠ l ∧ g ≠ l ∧
 H c.main = some (.dK [(kDigits, .int d.digits), (kGreat, .ref g), (kLumps, .ref l), (kTurn, .int d.turn)]) ∧ H g = some (.lst (d.great.map V.int)) ∧ H l = some (.lst (d.lumps.map V.int))
section
variable (C : RC) (ρ : List CellA) (A : Addr → Prop) (H : Hp)
def Cont (p : Addr) : DV → Prop
 | .lst ds => ∃ xs, H p = some (.lst xs) ∧ RepL C ρ A H xs ds
 | .dct ks ds => ∃ xs, H p = some (.dK (ks.zip xs)) ∧ ks.length = xs.length ∧ RepL C ρ A H xs ds
 | .ins c ns ds => ∃ dx xs, H p = some (.ins (C.cls c) dx (ns.zip xs)) ∧ ns.length = xs.length ∧ RepL C ρ A H xs ds
 | _ => False
def CellOk (c : CellA) : CellC → Prop
 | .draw d => DrawAt H c d
 | .obj d => c.more = [] ∧ Cont C ρ A H c.main d
 | .dead => True
end
theorem Cont.mv {C : RC} {ρ ρ' : List CellA} {A A' : Addr → Prop} {H H' : Hp} {p : Addr} (hp : ρ <+: ρ') (hk : ∀ a o, H a = some o → ¬ A a → NT o → H' a = some o) (ha : ∀ a, A' a → A a ∨ H a = none)
 (hpp : H' p = H p) : ∀ {d : DV}, Cont C ρ A H p d → Cont C ρ' A' H' p d
 | .lst _, ⟨xs, e, r⟩ => ⟨xs, hpp.trans e, r.mv hp hk ha⟩
 | .dct _ _, ⟨xs, e, l, r⟩ => ⟨xs, hpp.trans e, l, r.mv hp hk ha⟩
 | .ins _ _ _, ⟨dx, xs, e, l, r⟩ => ⟨dx, xs, hpp.trans e, l, r.mv hp hk ha⟩
theorem Cont.some {C : RC} {ρ : List CellA} {A : Addr → Prop} {H : Hp} {p : Addr} : ∀ {d : DV}, Cont C ρ A H p d → H p ≠ none
 | .lst _, ⟨xs, e, r⟩ => by rw [e]; exact fun z => nomatch z
 | .dct _ _, ⟨xs, e, l, r⟩ => by rw [e]; exact fun z => nomatch z
 | .ins _ _ _, ⟨dx, xs, e, l, r⟩ => by rw [e]; exact fun z => nomatch z
theorem Cont.nt {C : RC} {ρ : List CellA} {A : Addr → Prop} {H : Hp} {p : Addr} : ∀ {d : DV}, Cont C ρ A H p d → ∃ o, H p = Option.some o ∧ NT o
 | .lst _, ⟨xs, e, r⟩ => ⟨_, e, trivial⟩
 | .dct _ _, ⟨xs, e, l, r⟩ => ⟨_, e, trivial⟩
 | .ins _ _ _, ⟨dx, xs, e, l, r⟩ => ⟨_, e, trivial⟩
theorem Cont.rep {C : RC} {ρ : List CellA} {A A' : Addr → Prop} {H : Hp} {p : Addr} (ha : ∀ a, A' a → A a) (hp : ¬ A' p) : ∀ {d : DV}, Cont C ρ A H p d → Rep C ρ A' H (.ref p) d
 | .lst _, ⟨xs, e, r⟩ => .lst hp e (r.mv (List.prefix_refl _) (fun _ _ e _ _ => e) fun a z => .inl (ha a z))
 | .dct _ _, ⟨xs, e, l, r⟩ => .dct hp e l (r.mv (List.prefix_refl _) (fun _ _ e _ _ => e) fun a z => .inl (ha a z))
 | .ins _ _ _, ⟨dx, xs, e, l, r⟩ => .ins hp e l (r.mv (List.prefix_refl _) (fun _ _ e _ _ => e) fun a z => .inl (ha a z))
section
variable (ρ : List CellA) (O : Addr → Prop) (st : DS) (σ : L2.St)
def ownAt (i : Nat) (p : Addr) : Prop := ∃ d, st.sl[i]? = some (some (d, true)) ∧ σ[i]? = some (some (.ref p))
def Av (a : Addr) : Prop := O a ∨ CM ρ a ∨ ∃ i, ownAt st σ i a
end
structure BC where
 C : RC
 O : Addr → Prop
 H0 : Hp
structure CellsOk (C : RC) (ρ : List CellA) (A : Addr → Prop) (H : Hp) (cs : List CellC) : Prop where
 len : ρ.length = cs.length
 ok : ∀ (k : Nat) (c : CellA) (x : CellC), ρ[k]? = some c → cs[k]? = some x → CellOk C ρ A H c x
 dis : ∀ (i j : Nat) (c c' : CellA), ρ[i]? = some c → ρ[j]? = some c' → i ≠ j → ∀ a, (a = c.main ∨ a ∈ c.more) → ¬ (a = c'.main ∨ a ∈ c'.more)
structure Rel (B : BC) (ρ : List CellA) (st : DS) (σ : L2.St) (H : Hp) : Prop where
 len : st.sl.length = σ.length
 fro : ∀ (i : Nat) (d : DV), st.sl[i]? = some (some (d, false)) → ∃ v, σ[i]? = some (some v) ∧ Rep B.C ρ (Av ρ B.O st σ) H v d
 own : ∀ (i : Nat) (d : DV), st.sl[i]? = some (some (d, true)) → ∃ p, σ[i]? = some (some (.ref p)) ∧ Cont B.C ρ (Av ρ B.O st σ) H p d ∧ ¬ CM ρ p ∧ ¬ B.O p ∧ B.H0 p = none
 dis : ∀ i j p, ownAt st σ i p → ownAt st σ j p → i = j
 dom : ∀ a, B.H0 a ≠ none → H a ≠ none
 odom : ∀ a, B.O a → H a ≠ none
 cel : CellsOk B.C ρ (Av ρ B.O st σ) H st.cs
 cdom : ∀ a, CM ρ a → H a ≠ none
 tabs : LamX.Tabs B.C.T H
structure Step (B : BC) (σ : L2.St) (ρ : List CellA) (st : DS) (H : Hp) (ρ' : List CellA) (st' : DS) (H' : Hp) : Prop where
 pre : ρ <+: ρ'
 rel : Rel B ρ' st' σ H'
 fr : ∀ a o, H a = some o → ¬ CM ρ a → NT o → H' a = some o
 sub : ∀ i p, ownAt st' σ i p → ownAt st σ i p
 sl : ∀ (i : Nat) (d : DV) (b : Bool), st'.sl[i]? = some (some (d, b)) → ∃ c, st.sl[i]? = some (some (d, c))
 cm : ∀ a, CM ρ' a → CM ρ a ∨ H a = none
 dm : ∀ a, H a ≠ none → H' a ≠ none
section
variable {B : BC} {σ : L2.St} {ρ ρ1 ρ2 : List CellA} {st st1 st2 : DS} {H H1 H2 : Hp}
theorem Step.refl (r : Rel B ρ st σ H) : Step B σ ρ st H ρ st H := ⟨List.prefix_refl _, r, fun _ _ e _ _ => e, fun _ _ z => z, fun _ _ b z => ⟨b, z⟩, fun _ z => .inl z, fun _ z => z⟩
theorem Step.av (s : Step B σ ρ st H ρ1 st1 H1) : ∀ a, Av ρ1 B.O st1 σ a → Av ρ B.O st σ a ∨ H a = none := fun a z => by
 rcases z with z | z | ⟨i, z⟩
 · exact .inl (.inl z)
 · exact (s.cm a z).imp (fun z => .inr (.inl z)) id
 · exact .inl (.inr (.inr ⟨i, s.sub i a z⟩))
theorem none_of_dm {a : Addr} (dm : ∀ a, H a ≠ none → H1 a ≠ none) (h : H1 a = none) : H a = none := by
 cases e : H a with
 | none => rfl
 | some o => exact absurd h (dm a (by rw [e]; exact fun z => nomatch z))
theorem Step.trans (a : Step B σ ρ st H ρ1 st1 H1) (b : Step B σ ρ1 st1 H1 ρ2 st2 H2) : Step B σ ρ st H ρ2 st2 H2 where
 pre := a.pre.trans b.pre
 rel := b.rel
 fr := fun p o e n t => b.fr p o (a.fr p o e n t) (fun z => (a.cm p z).elim n fun q => by rw [e] at q; cases q) t
 sub := fun i p z => a.sub i p (b.sub i p z)
 sl := fun i d c z => let ⟨c', z'⟩ := b.sl i d c z; a.sl i d c' z'
 cm := fun p z => (b.cm p z).elim (a.cm p) fun q => .inr (none_of_dm a.dm q)
 dm := fun p z => b.dm p (a.dm p z)
theorem Av.cm {ρ : List CellA} {O : Addr → Prop} {st : DS} {σ : L2.St} {a : Addr} (h : CM ρ a) : Av ρ O st σ a := .inr (.inl h)
theorem Rep.step (s : Step B σ ρ st H ρ1 st1 H1) {v : V} {d : DV} (r : Rep B.C ρ (Av ρ B.O st σ) H v d) : Rep B.C ρ1 (Av ρ1 B.O st1 σ) H1 v d :=
 r.mv s.pre (fun a o e n t => s.fr a o e (fun z => n (.cm z)) t) s.av
theorem RepL.step (s : Step B σ ρ st H ρ1 st1 H1) {v : List V} {d : List DV} (r : RepL B.C ρ (Av ρ B.O st σ) H v d) : RepL B.C ρ1 (Av ρ1 B.O st1 σ) H1 v d :=
 r.mv s.pre (fun a o e n t => s.fr a o e (fun z => n (.cm z)) t) s.av
end
def isCont : DV → Bool
 | .lst _ => true | .dct _ _ => true | .ins _ _ _ => true | _ => false
def NewC (B : BC) (ρ : List CellA) (st : DS) (σ : L2.St) (H : Hp) (v : V) (d : DV) : Prop := ∀ p, v = .ref p → isCont d = true → Cont B.C ρ (fun a => Av ρ B.O st σ a ∨ a = p) H p d
def RepK (B : BC) (ρ : List CellA) (st : DS) (σ : L2.St) (H : Hp) (kd : Kd) (v : V) (d : DV) : Prop := match kd with
 | .fro => Rep B.C ρ (Av ρ B.O st σ) H v d
 | .new => Rep B.C ρ (Av ρ B.O st σ) H v d ∧ NewC B ρ st σ H v d
 | .view i => ∃ p, v = .ref p ∧ σ[i]? = some (some (.ref p)) ∧ Cont B.C ρ (Av ρ B.O st σ) H p d ∧ ¬ CM ρ p ∧ ¬ B.O p ∧ (∀ j, ownAt st σ j p → j = i) ∧ B.H0 p = none
def Fresh (H : Hp) (kd : Kd) (v : V) : Prop := match kd with
 | .new => ∀ p, v = .ref p → H p = none
 | _ => True
section
variable {B : BC} {σ : L2.St} {ρ ρ1 ρ2 : List CellA} {st st1 st2 : DS} {H H1 H2 : Hp} {kd : Kd} {v : V} {d : DV}
theorem RepK.step (s : Step B σ ρ st H ρ1 st1 H1) (r : RepK B ρ st σ H kd v d) : RepK B ρ1 st1 σ H1 kd v d := by
 cases kd with
 | fro => exact Rep.step s r
 | new =>
  obtain ⟨r, n⟩ := r
  refine ⟨Rep.step s r, fun p ep hc => ?_⟩
  have c := n p ep hc
  obtain ⟨o, eo, nt⟩ := c.nt
  subst ep
  have hn : ¬ CM ρ p := fun z => by
   cases r with
   | lst n' _ _ => exact n' (.inr (.inl z))
   | dct n' _ _ _ => exact n' (.inr (.inl z))
   | ins n' _ _ _ => exact n' (.inr (.inl z))
   | _ => cases hc
  refine c.mv s.pre (fun a o e n t => s.fr a o e (fun z => n (.inl (.cm z))) t) (fun a z => ?_) ((s.fr p o eo hn nt).trans eo.symm)
  rcases z with z | z
  · exact (s.av a z).imp .inl id
  · exact .inl (.inr z)
 | view i =>
  obtain ⟨p, rfl, e, c, n1, n2, u, n3⟩ := r
  obtain ⟨o, eo, nt⟩ := c.nt
  refine ⟨p, rfl, e, c.mv s.pre (fun a o e n t => s.fr a o e (fun z => n (.cm z)) t) s.av ((s.fr p o eo n1 nt).trans eo.symm), fun z => (s.cm p z).elim n1 fun q => ?_, n2, fun j oj => u j (s.sub j p oj), n3⟩
  rw [eo] at q; cases q
theorem Fresh.dm (dm : ∀ a, H a ≠ none → H1 a ≠ none) (f : Fresh H1 kd v) : Fresh H kd v := by
 cases kd with
 | new => exact fun p e => none_of_dm dm (f p e)
 | fro => trivial
 | view i => trivial
end
end D
namespace D
open PySem L2
def XRep (B : BC) (ρ : List CellA) (st : DS) (σ : L2.St) (H : Hp) (x : DX) (cls : Value) (d : Option Addr) : Prop :=
 cls = .ref (B.C.cls x.c) ∧ ((x.ns = [] ∧ x.vs = [] ∧ d = none) ∨ ∃ a vs, d = some a ∧ ¬ Av ρ B.O st σ a ∧ H a = some (.xd (x.ns.zip vs)) ∧ x.ns.length = vs.length ∧ RepL B.C ρ (Av ρ B.O st σ) H vs x.vs)
theorem XRep.step {B : BC} {σ : L2.St} {ρ ρ1 : List CellA} {st st1 : DS} {H H1 : Hp} {x : DX} {cls : Value} {d : Option Addr} (s : Step B σ ρ st H ρ1 st1 H1) (r : XRep B ρ st σ H x cls d) : XRep B ρ1 st1 σ H1 x cls d := by
 obtain ⟨e, r⟩ := r
 refine ⟨e, ?_⟩
 rcases r with r | ⟨a, vs, e1, n, e2, l, r⟩
 · exact .inl r
 · exact .inr ⟨a, vs, e1, fun z => (s.av a z).elim n fun q => (by rw [e2] at q; cases q), s.fr a _ e2 (fun z => n (.cm z)) trivial, l, RepL.step s r⟩
section
variable (B : BC) (W : WX) (σ : L2.St)
def Res {α : Type} (ρ : List CellA) (st : DS) (H : Hp) (o : Out α) (G : α → DS → List CellA → Hp → Prop) : Prop := match o with
 | .ok a st' => ∀ ρ' H', Step B σ ρ st H ρ' st' H' → G a st' ρ' H'
 | .exc x st' => ∀ ρ' H' cls d, Step B σ ρ st H ρ' st' H' → XRep B ρ' st' σ H' x cls d → W cls d σ H'
 | .stuck => False
end
section
variable {B : BC} {W : WX} {σ : L2.St} {ρ : List CellA} {st : DS} {H : Hp} {α β : Type} {o : Out α}
theorem Res.imp {G G' : α → DS → List CellA → Hp → Prop} (r : Res B W σ ρ st H o G) (h : ∀ a st' ρ' H', Step B σ ρ st H ρ' st' H' → G a st' ρ' H' → G' a st' ρ' H') : Res B W σ ρ st H o G' := by
 cases o with
 | ok a st' => exact fun ρ' H' s => h _ _ _ _ s (r ρ' H' s)
 | exc x st' => exact r
 | stuck => exact r
theorem Res.bind {k : α → DS → Out β} {G : β → DS → List CellA → Hp → Prop} (r : Res B W σ ρ st H (o.bind k) G) : Res B W σ ρ st H o fun a st1 ρ1 H1 => Res B W σ ρ1 st1 H1 (k a st1) G := by
 cases o with
 | ok a st1 =>
  intro ρ1 H1 s
  have r' : Res B W σ ρ st H (k a st1) G := r
  cases e : k a st1 with
  | ok b st2 =>
   rw [e] at r'
   exact fun ρ2 H2 s2 => r' ρ2 H2 (s.trans s2)
  | exc x st2 =>
   rw [e] at r'
   exact fun ρ2 H2 cls d s2 q => r' ρ2 H2 cls d (s.trans s2) q
  | stuck =>
   rw [e] at r'
   exact r'
 | exc x st' => exact r
 | stuck => exact r
theorem Res.now {a : α} {G : α → DS → List CellA → Hp → Prop} (rel : Rel B ρ st σ H) (r : Res B W σ ρ st H (.ok a st) G) : G a st ρ H := r ρ H (.refl rel)
end
def GE (B : BC) (σ : L2.St) (H : Hp) (Q : VK) : DV × Kd → DS → List CellA → Hp → Prop := fun a st' ρ' H' => ∀ v, RepK B ρ' st' σ H' a.2 v a.1 → Fresh H a.2 v → Q v H'
def RD (B : BC) (W : WX) (f : Ev) : TE := fun σ H Q => ∃ ρ st, Rel B ρ st σ H ∧ Res B W σ ρ st H (f st) (GE B σ H Q)
def PD (X : Cx) (B : BC) (W : WX) (e : Expr) (f : Ev) : Prop := PE X e (RD B W f)
theorem PE.mono {X : Cx} {e : Expr} {t t' : TE} (h : PE X e t) (m : ∀ σ H Q, t' σ H Q → t σ H Q) : PE X e t' := ⟨fun pins s σ H Q I r => h.run pins s σ H Q I (m _ _ _ r)⟩
theorem PT.mono {X : Cx} {e : Expr} {t t' : TT} (h : PT X e t) (m : ∀ σ H Q, t' σ H Q → t σ H Q) : PT X e t' := ⟨fun pins s σ H Q I r => h.run pins s σ H Q I (m _ _ _ r)⟩
theorem PA.mono {X : Cx} {e : List Expr} {t t' : TA} (h : PA X e t) (m : ∀ σ H Q, t' σ H Q → t σ H Q) : PA X e t' := ⟨fun pos pins s σ H Q I r => h.run pos pins s σ H Q I (m _ _ _ r)⟩
theorem PS.mono {X : Cx} {e : Stmt} {t t' : TS} (h : PS X e t) (m : ∀ D σ H, t' D σ H → t D σ H) : PS X e t' := ⟨fun pins s σ H D I r => h.run pins s σ H D I (m _ _ _ r)⟩
theorem PSs.mono {X : Cx} {e : List Stmt} {t t' : TS} (h : PSs X e t) (m : ∀ D σ H, t' D σ H → t D σ H) : PSs X e t' := ⟨fun pins s σ H D I r => h.run pins s σ H D I (m _ _ _ r)⟩
section
variable {X : Cx} {B : BC} {W : WX} {σ : L2.St} {ρ ρ1 : List CellA} {st st1 : DS} {H H1 : Hp} {f : Ev} {e a b : Expr} {pos : Pos}
theorem RD.go {G : DV × Kd → DS → List CellA → Hp → Prop} {Q : VK} (rel : Rel B ρ st σ H) (r : Res B W σ ρ st H (f st) G)
 (h : ∀ a st' ρ' H', Step B σ ρ st H ρ' st' H' → G a st' ρ' H' → ∀ v, RepK B ρ' st' σ H' a.2 v a.1 → Fresh H a.2 v → Q v H') : RD B W f σ H Q :=
 ⟨ρ, st, rel, r.imp h⟩
def flat : DV → Bool
 | .non => true | .bl _ => true | .int _ => true | .str _ => true | .ty _ => true | _ => false
def flatV' : DV → V
 | .bl b => .bl b | .int i => .int i | .str s => .str s | .ty n => .ty n | _ => .non
theorem Rep.flat {C : RC} {ρ : List CellA} {A : Addr → Prop} {H : Hp} : ∀ {d : DV}, flat d = true → Rep C ρ A H (flatV' d) d
 | .non, _ => .non | .bl b, _ => .bl b | .int i, _ => .int i | .str s, _ => .str s | .ty n, _ => .ty n
theorem Rep.flat_eq {C : RC} {ρ : List CellA} {A : Addr → Prop} {H : Hp} {v : V} {d : DV} (h : D.flat d = true) (r : Rep C ρ A H v d) : v = flatV' d := by
 cases r <;> first | rfl | cases h
def zqc (i : Nat) : Ev := fun st => match st.sl[i]? with
 | some (some (d, false)) => .ok (d, .fro) st
 | some (some (d, true)) => .ok (d, .view i) st
 | _ => .stuck
theorem pd_var {i : Nat} (h : PE X e (tVar i)) : PD X B W e (zqc i) := by
 refine PE.mono h fun σ H Q ⟨ρ, st, rel, r⟩ => ?_
 unfold zqc at r
 split at r
 · rename_i d hs
   obtain ⟨v, e, q⟩ := rel.fro i d hs
   exact ⟨v, e, Res.now rel r v q trivial⟩
 · rename_i d hs
   obtain ⟨p, e, c, n1, n2, n3⟩ := rel.own i d hs
   exact ⟨.ref p, e, Res.now rel r _ ⟨p, rfl, e, c, n1, n2, fun j oj => rel.dis j i p oj ⟨d, hs, e⟩, n3⟩ trivial⟩
 · exact r.elim
def evC (d : DV) : Ev := fun st => .ok (d, .new) st
theorem pd_c {v : V} {d : DV} (h : PE X e (tC v)) (r : ∀ C ρ A H, Rep C ρ A H v d) (hv : ∀ p, v ≠ .ref p) : PD X B W e (evC d) :=
 PE.mono h fun σ H Q ⟨ρ, st, rel, q⟩ => Res.now rel q v ⟨r _ _ _ _, fun p z => absurd z (hv p)⟩ fun p z => absurd z (hv p)
end
section
variable {X : Cx} {B : BC} {W : WX} {σ : L2.St} {ρ ρ1 : List CellA} {st st1 : DS} {H H1 : Hp}
theorem Rel.alloc {p : Addr} {o : HO} (r : Rel B ρ st σ H) (hp : H p = none) : Rel B ρ st σ (upd H p o) := by
 have kp : ∀ a u, H a = some u → upd H p o a = some u := fun a u e => by rw [upd_ne (ne_of_none e hp)]; exact e
 have av : ∀ a, Av ρ B.O st σ a → Av ρ B.O st σ a ∨ H a = none := fun a z => .inl z
 refine ⟨r.len, fun i d h => ?_, fun i d h => ?_, r.dis, fun a z => ?_, fun a z => (by obtain ⟨u, eu⟩ := Option.ne_none_iff_exists'.mp (r.odom a z); rw [kp a u eu]; exact fun z => nomatch z), ⟨r.cel.len, fun k c x h1 h2 => ?_, r.cel.dis⟩, fun a z => ?_, r.tabs.ext kp⟩
 · obtain ⟨v, e, q⟩ := r.fro i d h
   exact ⟨v, e, q.mv (List.prefix_refl _) (fun a u e _ _ => kp a u e) av⟩
 · obtain ⟨q, e, c, n1, n2, n3⟩ := r.own i d h
   obtain ⟨u, eu⟩ := Option.ne_none_iff_exists'.mp c.some
   exact ⟨q, e, c.mv (List.prefix_refl _) (fun a u e _ _ => kp a u e) av ((kp _ _ eu).trans eu.symm), n1, n2, n3⟩
 · obtain ⟨u, eu⟩ := Option.ne_none_iff_exists'.mp (r.dom a z)
   rw [kp a u eu]; exact fun z => nomatch z
 · have q := r.cel.ok k c x h1 h2
   cases x with
   | draw d =>
    obtain ⟨g, l, e, n1, n2, n3, a, b, c⟩ := q
    exact ⟨g, l, e, n1, n2, n3, kp _ _ a, kp _ _ b, kp _ _ c⟩
   | obj d =>
    obtain ⟨e, q⟩ := q
    obtain ⟨u, eu⟩ := Option.ne_none_iff_exists'.mp q.some
    exact ⟨e, q.mv (List.prefix_refl _) (fun a u e _ _ => kp a u e) av ((kp _ _ eu).trans eu.symm)⟩
   | dead => trivial
 · obtain ⟨u, eu⟩ := Option.ne_none_iff_exists'.mp (r.cdom a z)
   rw [kp a u eu]; exact fun z => nomatch z
theorem Step.alloc {p : Addr} {o : HO} (r : Rel B ρ st σ H) (hp : H p = none) : Step B σ ρ st H ρ st (upd H p o) where
 pre := List.prefix_refl _
 rel := r.alloc hp
 fr := fun a u e _ _ => by rw [upd_ne (ne_of_none e hp)]; exact e
 sub := fun _ _ z => z
 sl := fun _ _ b z => ⟨b, z⟩
 cm := fun _ z => .inl z
 dm := fun a z => by
  obtain ⟨u, eu⟩ := Option.ne_none_iff_exists'.mp z
  rw [upd_ne (ne_of_none eu hp), eu]; exact fun z => nomatch z
theorem Rel.av_dom (r : Rel B ρ st σ H) {a : Addr} (h : Av ρ B.O st σ a) : H a ≠ none := by
 rcases h with h | h | ⟨i, d, h1, h2⟩
 · exact r.odom a h
 · exact r.cdom a h
 · obtain ⟨p, e, c, _⟩ := r.own i d h1
   rw [h2] at e
   cases e
   exact c.some
theorem Rel.av_fresh (r : Rel B ρ st σ H) {p : Addr} (hp : H p = none) : ¬ Av ρ B.O st σ p := fun z => r.av_dom z hp
theorem Rep.newLst {xs : List V} {ds : List DV} {p : Addr} (rel : Rel B ρ st σ H) (hp : H p = none) (r : RepL B.C ρ (Av ρ B.O st σ) H xs ds) : Rep B.C ρ (Av ρ B.O st σ) (upd H p (.lst xs)) (.ref p) (.lst ds) :=
 .lst (rel.av_fresh hp) upd_same (RepL.step (Step.alloc rel hp) r)
theorem RepK.newLst {xs : List V} {ds : List DV} {p : Addr} (rel : Rel B ρ st σ H) (hp : H p = none) (r : RepL B.C ρ (Av ρ B.O st σ) H xs ds) : RepK B ρ st σ (upd H p (.lst xs)) .new (.ref p) (.lst ds) :=
 ⟨Rep.newLst rel hp r, fun q e _ => by cases e; exact ⟨xs, upd_same, r.mv (List.prefix_refl _) (fun a o e _ _ => by rw [upd_ne (ne_of_none e hp)]; exact e) fun a z => z.imp id fun z => by rw [z]; exact hp⟩⟩
theorem Rep.newTup {xs : List V} {ds : List DV} {p : Addr} (rel : Rel B ρ st σ H) (hp : H p = none) (r : RepL B.C ρ (Av ρ B.O st σ) H xs ds) : Rep B.C ρ (Av ρ B.O st σ) (upd H p (.tup xs)) (.ref p) (.tup ds) :=
 .tup (rel.av_fresh hp) upd_same (RepL.step (Step.alloc rel hp) r)
theorem Rep.newDct {xs : List V} {ks : List Key} {ds : List DV} {p : Addr} (rel : Rel B ρ st σ H) (hp : H p = none) (hl : ks.length = xs.length) (r : RepL B.C ρ (Av ρ B.O st σ) H xs ds) : Rep B.C ρ (Av ρ B.O st σ) (upd H p (.dK (ks.zip xs))) (.ref p) (.dct ks ds) :=
 .dct (rel.av_fresh hp) upd_same hl (RepL.step (Step.alloc rel hp) r)
theorem RepK.newTup {xs : List V} {ds : List DV} {p : Addr} (rel : Rel B ρ st σ H) (hp : H p = none) (r : RepL B.C ρ (Av ρ B.O st σ) H xs ds) : RepK B ρ st σ (upd H p (.tup xs)) .new (.ref p) (.tup ds) :=
 ⟨Rep.newTup rel hp r, fun q e h => by cases h⟩
theorem RepK.newDct {xs : List V} {ks : List Key} {ds : List DV} {p : Addr} (rel : Rel B ρ st σ H) (hp : H p = none) (hl : ks.length = xs.length) (r : RepL B.C ρ (Av ρ B.O st σ) H xs ds) : RepK B ρ st σ (upd H p (.dK (ks.zip xs))) .new (.ref p) (.dct ks ds) :=
 ⟨Rep.newDct rel hp hl r, fun q e _ => by cases e; exact ⟨xs, upd_same, hl, r.mv (List.prefix_refl _) (fun a o e _ _ => by rw [upd_ne (ne_of_none e hp)]; exact e) fun a z => z.imp id fun z => by rw [z]; exact hp⟩⟩
end
def dropSl : List Slot → Nat → List Slot
 | [], _ => []
 | s :: r, 0 => (match s with | some (d, _) => some (d, false) | none => none) :: r
 | s :: r, i + 1 => s :: dropSl r i
theorem dropSl_len : ∀ (l : List Slot) (i : Nat), (dropSl l i).length = l.length
 | [], _ => rfl
 | _ :: _, 0 => rfl
 | s :: r, i + 1 => by show (dropSl r i).length + 1 = r.length + 1; rw [dropSl_len r i]
theorem dropSl_ne : ∀ (l : List Slot) (i j : Nat), j ≠ i → (dropSl l i)[j]? = l[j]?
 | [], _, _, _ => rfl
 | _ :: _, 0, 0, h => absurd rfl h
 | _ :: _, 0, j + 1, _ => rfl
 | _ :: _, i + 1, 0, _ => rfl
 | _ :: r, i + 1, j + 1, h => dropSl_ne r i j fun z => h (by rw [z])
theorem dropSl_at : ∀ (l : List Slot) (i : Nat) (d : DV) (b : Bool), (dropSl l i)[i]? = some (some (d, b)) → b = false ∧ ∃ c, l[i]? = some (some (d, c))
 | [], _, _, _, h => by cases h
 | none :: _, 0, _, _, h => by cases h
 | some (d', c) :: _, 0, d, b, h => by
  cases h
  exact ⟨rfl, c, rfl⟩
 | _ :: r, i + 1, d, b, h => dropSl_at r i d b h
def DS.drop (st : DS) (i : Nat) : DS := { st with sl := dropSl st.sl i }
section
variable {X : Cx} {B : BC} {W : WX} {σ : L2.St} {ρ ρ1 : List CellA} {st st1 : DS} {H H1 : Hp}
theorem drop_own {i j : Nat} {p : Addr} (h : ownAt (st.drop i) σ j p) : ownAt st σ j p ∧ j ≠ i := by
 obtain ⟨d, e, e2⟩ := h
 by_cases hj : j = i
 · subst hj
   have := (dropSl_at st.sl j d true e).1
   cases this
 · exact ⟨⟨d, by rw [← dropSl_ne st.sl i j hj]; exact e, e2⟩, hj⟩
theorem drop_av {i : Nat} {a : Addr} (h : Av ρ B.O (st.drop i) σ a) : Av ρ B.O st σ a := by
 rcases h with h | h | ⟨j, h⟩
 · exact .inl h
 · exact .inr (.inl h)
 · exact .inr (.inr ⟨j, (drop_own h).1⟩)
theorem Rel.drop (r : Rel B ρ st σ H) (i : Nat) : Rel B ρ (st.drop i) σ H := by
 have mv : ∀ a, Av ρ B.O (st.drop i) σ a → Av ρ B.O st σ a ∨ H a = none := fun a z => .inl (drop_av z)
 refine ⟨(dropSl_len _ _).trans r.len, fun j d h => ?_, fun j d h => ?_, fun j k p h1 h2 => r.dis j k p (drop_own h1).1 (drop_own h2).1, r.dom, r.odom, ⟨r.cel.len, fun k c x h1 h2 => ?_, r.cel.dis⟩, r.cdom, r.tabs⟩
 · by_cases hj : j = i
   · subst hj
     obtain ⟨_, c, e⟩ := dropSl_at st.sl j d false h
     cases c with
     | false =>
      obtain ⟨v, e1, q⟩ := r.fro j d e
      exact ⟨v, e1, q.mv (List.prefix_refl _) (fun _ _ e _ _ => e) mv⟩
     | true =>
      obtain ⟨p, e1, q, n1, n2, n3⟩ := r.own j d e
      refine ⟨.ref p, e1, q.rep (fun a z => drop_av z) fun z => ?_⟩
      rcases z with z | z | ⟨k, z⟩
      · exact n2 z
      · exact n1 z
      · obtain ⟨z1, z2⟩ := drop_own z
        exact z2 (r.dis k j p z1 ⟨d, e, e1⟩)
   · have h' : st.sl[j]? = some (some (d, false)) := by rw [← dropSl_ne st.sl i j hj]; exact h
     obtain ⟨v, e1, q⟩ := r.fro j d h'
     exact ⟨v, e1, q.mv (List.prefix_refl _) (fun _ _ e _ _ => e) mv⟩
 · by_cases hj : j = i
   · subst hj
     have := (dropSl_at st.sl j d true h).1
     cases this
   · have h' : st.sl[j]? = some (some (d, true)) := by rw [← dropSl_ne st.sl i j hj]; exact h
     obtain ⟨p, e1, q, n⟩ := r.own j d h'
     exact ⟨p, e1, q.mv (List.prefix_refl _) (fun _ _ e _ _ => e) mv rfl, n⟩
 · have q := r.cel.ok k c x h1 h2
   cases x with
   | draw d => exact q
   | obj d => exact ⟨q.1, q.2.mv (List.prefix_refl _) (fun _ _ e _ _ => e) mv rfl⟩
   | dead => trivial
theorem Step.drop (r : Rel B ρ st σ H) (i : Nat) : Step B σ ρ st H ρ (st.drop i) H where
 pre := List.prefix_refl _
 rel := r.drop i
 fr := fun _ _ e _ _ => e
 sub := fun _ _ z => (drop_own z).1
 sl := fun j d b z => by
  by_cases hj : j = i
  · subst hj
    exact (dropSl_at st.sl j d b z).2
  · exact ⟨b, by rw [← dropSl_ne st.sl i j hj]; exact z⟩
 cm := fun _ z => .inl z
 dm := fun _ z => z
def DS.eat (st : DS) : Kd → DS
 | .view i => st.drop i
 | _ => st
theorem Step.eat (r : Rel B ρ st σ H) (kd : Kd) : Step B σ ρ st H ρ (st.eat kd) H := by
 cases kd with
 | view i => exact Step.drop r i
 | fro => exact .refl r
 | new => exact .refl r
theorem RepK.eat {kd : Kd} {v : V} {d : DV} (r : RepK B ρ st σ H kd v d) : Rep B.C ρ (Av ρ B.O (st.eat kd) σ) H v d := by
 cases kd with
 | view i =>
  obtain ⟨p, rfl, e, c, n1, n2, u, n3⟩ := r
  refine c.rep (fun a z => drop_av z) fun z => ?_
  rcases z with z | z | ⟨k, z⟩
  · exact n2 z
  · exact n1 z
  · obtain ⟨z1, z2⟩ := drop_own z
    exact z2 (u k z1)
 | fro => exact r
 | new => exact r.1
end
end D
namespace D
open PySem L2 PyProof.Rows
section
variable {B : BC} {σ : L2.St} {ρ : List CellA} {st : DS} {H : Hp} {kd : Kd} {v : V}
theorem RepK.lst {ds : List DV} (r : RepK B ρ st σ H kd v (.lst ds)) : ∃ p xs, v = .ref p ∧ H p = some (.lst xs) ∧ RepL B.C ρ (Av ρ B.O st σ) H xs ds := by
 cases kd with
 | view i => obtain ⟨p, rfl, _, ⟨xs, e, q⟩, _⟩ := r; exact ⟨p, xs, rfl, e, q⟩
 | fro => cases (show Rep _ _ _ _ _ _ from r) with | lst n e q => exact ⟨_, _, rfl, e, q⟩
 | new => cases (show Rep _ _ _ _ _ _ from r.1) with | lst n e q => exact ⟨_, _, rfl, e, q⟩
theorem RepK.fdc {ks : List Key} {ds : List DV} (r : RepK B ρ st σ H kd v (.fdc ks ds)) : ∃ p o xs, v = .ref p ∧ H p = some (.frz o (.dK (ks.zip xs))) ∧ ks.length = xs.length ∧ RepL B.C ρ (Av ρ B.O st σ) H xs ds := by
 cases kd with
 | view i => obtain ⟨p, rfl, _, c, _⟩ := r; cases c
 | fro => cases (show Rep _ _ _ _ _ _ from r) with | fdc n e l q => exact ⟨_, _, _, rfl, e, l, q⟩
 | new => cases (show Rep _ _ _ _ _ _ from r.1) with | fdc n e l q => exact ⟨_, _, _, rfl, e, l, q⟩
theorem RepK.bor {ds : List DV} (r : RepK B ρ st σ H kd v (.bor ds)) : ∃ p o xs, v = .ref p ∧ H p = some (.frz o (.lst xs)) ∧ RepL B.C ρ (Av ρ B.O st σ) H xs ds := by
 cases kd with
 | view i => obtain ⟨p, rfl, _, c, _⟩ := r; exact (show False from c).elim
 | fro => cases (show Rep _ _ _ _ _ _ from r) with | bor n e q => exact ⟨_, _, _, rfl, e, q⟩
 | new => cases (show Rep _ _ _ _ _ _ from r.1) with | bor n e q => exact ⟨_, _, _, rfl, e, q⟩
theorem RepK.dct {ks : List Key} {ds : List DV} (r : RepK B ρ st σ H kd v (.dct ks ds)) : ∃ p xs, v = .ref p ∧ H p = some (.dK (ks.zip xs)) ∧ ks.length = xs.length ∧ RepL B.C ρ (Av ρ B.O st σ) H xs ds := by
 cases kd with
 | view i => obtain ⟨p, rfl, _, ⟨xs, e, l, q⟩, _⟩ := r; exact ⟨p, xs, rfl, e, l, q⟩
 | fro => cases (show Rep _ _ _ _ _ _ from r) with | dct n e l q => exact ⟨_, _, rfl, e, l, q⟩
 | new => cases (show Rep _ _ _ _ _ _ from r.1) with | dct n e l q => exact ⟨_, _, rfl, e, l, q⟩
theorem RepK.ins {c : Nat} {ns : List Str} {ds : List DV} (r : RepK B ρ st σ H kd v (.ins c ns ds)) : ∃ p dx xs, v = .ref p ∧ H p = some (.ins (B.C.cls c) dx (ns.zip xs)) ∧ ns.length = xs.length ∧ RepL B.C ρ (Av ρ B.O st σ) H xs ds := by
 cases kd with
 | view i => obtain ⟨p, rfl, _, ⟨dx, xs, e, l, q⟩, _⟩ := r; exact ⟨p, dx, xs, rfl, e, l, q⟩
 | fro => cases (show Rep _ _ _ _ _ _ from r) with | ins n e l q => exact ⟨_, _, _, rfl, e, l, q⟩
 | new => cases (show Rep _ _ _ _ _ _ from r.1) with | ins n e l q => exact ⟨_, _, _, rfl, e, l, q⟩
theorem Rep.sqt {C : RC} {A : Addr → Prop} {ds : List DV} (r : Rep C ρ A H v (.tup ds)) : ∃ p xs, v = .ref p ∧ SqT C.K H p xs ∧ RepL C ρ A H xs ds := by
 cases r with
 | tup n e q => exact ⟨_, _, rfl, .inl (.inl e), q⟩
 | ktup k q => exact ⟨_, _, rfl, .inr k, q⟩
theorem RepK.tup {ds : List DV} (r : RepK B ρ st σ H kd v (.tup ds)) : ∃ p xs, v = .ref p ∧ SqT B.C.K H p xs ∧ RepL B.C ρ (Av ρ B.O st σ) H xs ds := by
 cases kd with
 | view i => obtain ⟨p, rfl, _, c, _⟩ := r; cases c
 | fro => exact Rep.sqt r
 | new => exact Rep.sqt r.1
theorem RepK.flat {d : DV} (hf : D.flat d = true) (r : RepK B ρ st σ H kd v d) : v = flatV' d := by
 cases kd with
 | view i => obtain ⟨p, rfl, _, c, _⟩ := r; cases d <;> first | (exact absurd hf Bool.false_ne_true) | cases c
 | fro => exact Rep.flat_eq hf r
 | new => exact Rep.flat_eq hf r.1
theorem RepK.int {i : Int} (r : RepK B ρ st σ H kd v (.int i)) : v = .int i := RepK.flat rfl r
theorem RepK.bl {b : Bool} (r : RepK B ρ st σ H kd v (.bl b)) : v = .bl b := RepK.flat rfl r
theorem RepK.str {s : Str} (r : RepK B ρ st σ H kd v (.str s)) : v = .str s := RepK.flat rfl r
theorem RepK.non (r : RepK B ρ st σ H kd v .non) : v = .non := RepK.flat rfl r
theorem RepK.mkF {d : DV} (hf : D.flat d = true) : RepK B ρ st σ H .new (flatV' d) d := ⟨Rep.flat hf, fun p e _ => by cases d <;> first | cases e | cases hf⟩
theorem fresh_flat {d : DV} (hf : D.flat d = true) : Fresh H .new (flatV' d) := fun p e => by
 cases d <;> first | cases e | cases hf
end
mutual
def toP : DV → Option PyData
 | .non => some .none
 | .bl b => some (.bool b)
 | .int i => some (.int i)
 | .str s => some (.str s)
 | .lst ds => (toPs ds).map .list
 | .tup ds => (toPs ds).map .tuple
 | _ => none
def toPs : List DV → Option (List PyData)
 | [] => some []
 | d :: ds => match toP d, toPs ds with
  | some p, some ps => some (p :: ps)
  | _, _ => none
end
section
variable {C : RC} {ρ : List CellA} {A : Addr → Prop} {H : Hp}
mutual
theorem Rep.dp : ∀ {v : V} {d : DV} {p : PyData}, Rep C ρ A H v d → toP d = some p → Dp C.K H v p
 | _, _, _, .non, e => by cases e; exact .non
 | _, _, _, .bl b, e => by cases e; exact .bl b
 | _, _, _, .int i, e => by cases e; exact .int i
 | _, _, _, .str s, e => by cases e; exact .str s
 | _, _, _, .ty n, e => by cases e
 | _, _, _, .cls c, e => by cases e
 | _, _, p, .lst (ds := ds) n h r, e => by
  cases e2 : toPs ds with
  | none => simp [toP, e2] at e
  | some ps =>
   simp [toP, e2] at e
   subst e
   exact .lst (.inl (.inl h)) (RepL.dp r e2)
 | _, _, p, .tup (ds := ds) n h r, e => by
  cases e2 : toPs ds with
  | none => simp [toP, e2] at e
  | some ps =>
   simp [toP, e2] at e
   subst e
   exact .tup (.inl (.inl h)) (RepL.dp r e2)
 | _, _, p, .ktup (ds := ds) h r, e => by
  cases e2 : toPs ds with
  | none => simp [toP, e2] at e
  | some ps =>
   simp [toP, e2] at e
   subst e
   exact .tup (.inr h) (RepL.dp r e2)
 | _, _, _, .dct _ _ _ _, e => by cases e
 | _, _, _, .ins _ _ _ _, e => by cases e
 | _, _, _, .scr _ _, e => by cases e
 | _, _, _, .kscr _, e => by cases e
 | _, _, _, .bor _ _ _, e => by cases e
 | _, _, _, .fdc _ _ _ _, e => by cases e
 | _, _, _, .cel _, e => by cases e
theorem RepL.dp : ∀ {vs : List V} {ds : List DV} {ps : List PyData}, RepL C ρ A H vs ds → toPs ds = some ps → DpAll C.K H vs ps
 | _, _, _, .nil, e => by cases e; exact .nil
 | _, _, ps, .cons (d := d) (ds := ds) r t, e => by
  cases e1 : toP d with
  | none => simp [toPs, e1] at e
  | some p =>
   cases e2 : toPs ds with
   | none => simp [toPs, e1, e2] at e
   | some qs =>
    simp [toPs, e1, e2] at e
    subst e
    exact .cons (Rep.dp r e1) (RepL.dp t e2)
end
end
theorem RepK.dp {B : BC} {σ : L2.St} {ρ : List CellA} {st : DS} {H : Hp} {kd : Kd} {v : V} {d : DV} {p : PyData} (r : RepK B ρ st σ H kd v d) (e : toP d = some p) : Dp B.C.K H v p := by
 cases kd with
 | view i =>
  obtain ⟨q, rfl, _, c, _⟩ := r
  cases d with
  | lst ds =>
   obtain ⟨xs, h, r⟩ := c
   cases e2 : toPs ds with
   | none => simp [toP, e2] at e
   | some ps =>
    simp [toP, e2] at e
    subst e
    exact .lst (.inl (.inl h)) (RepL.dp r e2)
  | dct => cases e
  | ins => cases e
  | _ => cases c
 | fro => exact Rep.dp r e
 | new => exact Rep.dp r.1 e
abbrev Op2 := DV → DV → Option (DV × Kd)
def OpS (C : RC) (r : R2) (f : Op2) : Prop := ∀ (B : BC), B.C = C → ∀ (σ : L2.St) (ρ : List CellA) (st : DS) (H : Hp) (ka kb : Kd) (x y : V) (a b : DV) (c : DV × Kd) (Q : VK), Rel B ρ st σ H → RepK B ρ st σ H ka x a → RepK B ρ st σ H kb y b → f a b = some c →
 (∀ v H', Step B σ ρ st H ρ st H' → RepK B ρ st σ H' c.2 v c.1 → Fresh H c.2 v → Q v H') → r x y H Q
def zqk (f : Op2) (ea eb : Ev) : Ev := fun st => (ea st).bind fun a st1 => (eb st1).bind fun b st2 => match f a.1 b.1 with
 | some c => .ok c st2
 | none => .stuck
section
variable {X : Cx} {B : BC} {W : WX} {a b c : Expr} {fa fb fc : Ev} {pos : Pos} {r r' : R2} {f g : Op2}
theorem tOp_of (hs : OpS B.C r f) {σ : L2.St} {H : Hp} {Q : VK} (h : RD B W (zqk f fa fb) σ H Q) : tOp r (RD B W fa) (RD B W fb) σ H Q := by
 obtain ⟨ρ, st, rel, res⟩ := h
 refine RD.go rel (Res.bind res) fun a st1 ρ1 H1 s1 r1 x rx fx => ?_
 refine RD.go s1.rel (Res.bind r1) fun b st2 ρ2 H2 s2 r2 y ry fy => ?_
 cases e : f a.1 b.1 with
 | none => rw [e] at r2; exact r2.elim
 | some c =>
  rw [e] at r2
  exact hs B rfl σ ρ2 st2 H2 a.2 b.2 x y a.1 b.1 c Q s2.rel (RepK.step s2 rx) ry e fun v H' s3 rv fv => r2 _ _ s3 v rv ((fv.dm s2.dm).dm s1.dm)
theorem pd_bin {op : Operator} (ho : OpR X (binaryOp op) r) (hs : OpS B.C r f) (ha : PD X B W a fa) (hb : PD X B W b fb) : PD X B W (.BinOp a op b pos) (zqk f fa fb) :=
 PE.mono (pe_op ho ha hb) fun _ _ _ h => tOp_of hs h
theorem pd_cmp {op : CmpOp} (ho : OpR X (compareOp op) r) (hs : OpS B.C r f) (ha : PD X B W a fa) (hb : PD X B W b fb) (hm : behindInMarks op b = false) : PD X B W (.Compare a [op] [b] pos) (zqk f fa fb) :=
 PE.mono (pe_cmpR ho ha hb hm) fun _ _ _ h => tOp_of hs h
theorem OpS.or {r r' : R2} {C : RC} (h : OpS C r f) (h' : OpS C r' g) : OpS C (fun x y H Q => r x y H Q ∨ r' x y H Q) (fun a b => match f a b with | some c => some c | none => g a b) := by
 intro B hB σ ρ st H ka kb x y a b c Q rel rx ry e q
 cases e1 : f a b with
 | some c' =>
  simp only [e1] at e
  cases e
  exact .inl (h B hB σ ρ st H ka kb x y a b c Q rel rx ry e1 q)
 | none =>
  simp only [e1] at e
  exact .inr (h' B hB σ ρ st H ka kb x y a b c Q rel rx ry e q)
theorem OpS.orB {r r' : R2} {C : RC} {f g k : Op2} (h : OpS C r f) (h' : OpS C r' g) (e : ∀ a b c, k a b = some c → f a b = some c ∨ g a b = some c) : OpS C (fun x y H Q => r x y H Q ∨ r' x y H Q) k := by
 intro B hB σ ρ st H ka kb x y a b c Q rel rx ry e1 q
 rcases e a b c e1 with e2 | e2
 · exact .inl (h B hB σ ρ st H ka kb x y a b c Q rel rx ry e2 q)
 · exact .inr (h' B hB σ ρ st H ka kb x y a b c Q rel rx ry e2 q)
end
def iOp (P : Int → Int → Bool) (g : Int → Int → Int) : Op2
 | .int i, .int j => if P i j then some (.int (g i j), .new) else none
 | _, _ => none
theorem ops_int0 {C : RC} {g : Int → Int → Int} : OpS C (rI0 fun i j => .int (g i j)) (iOp (fun _ _ => true) g) := by
 intro B hB σ ρ st H ka kb x y a b c Q rel rx ry e q
 cases a <;> try (cases e; done)
 cases b <;> try (cases e; done)
 rename_i i j
 cases e
 obtain rfl := rx.int
 obtain rfl := ry.int
 exact ⟨i, j, rfl, rfl, q _ _ (.refl rel) (RepK.mkF (d := .int (g i j)) rfl) (fresh_flat (d := .int (g i j)) rfl)⟩
def catL : Op2
 | .lst xs, .lst ys => if xs.length + ys.length ≤ sizeLine then some (.lst (xs ++ ys), .new) else none
 | _, _ => none
theorem ops_catL {C : RC} : OpS C rCat catL := by
 intro B hB σ ρ st H ka kb x y a b c Q rel rx ry e q
 cases a <;> try (cases e; done)
 cases b <;> try (cases e; done)
 rename_i xs ys
 by_cases hp : xs.length + ys.length ≤ sizeLine
 · simp only [catL, hp, if_true] at e
   cases e
   obtain ⟨p, vs, rfl, e1, r1⟩ := rx.lst
   obtain ⟨p2, ws, rfl, e2, r2⟩ := ry.lst
   refine ⟨p, p2, vs, ws, rfl, rfl, e1, e2, by rw [r1.length, r2.length]; exact hp, fun n hn => ?_⟩
   exact q _ _ (Step.alloc rel hn) (RepK.newLst rel hn (r1.append r2)) fun m em => by cases em; exact hn
 · simp only [catL, hp, if_false] at e
   cases e
def catS : Op2
 | .str x, .str y => if x.length + y.length ≤ sizeLine then some (.str (x ++ y), .new) else none
 | _, _ => none
theorem ops_catS {C : RC} : OpS C (fun x y H Q => ∃ i j, x = .str i ∧ y = .str j ∧ i.length + j.length ≤ sizeLine ∧ Q (.str (i ++ j)) H) catS := by
 intro B hB σ ρ st H ka kb x y a b c Q rel rx ry e q
 cases a <;> try (cases e; done)
 cases b <;> try (cases e; done)
 rename_i i j
 by_cases hp : i.length + j.length ≤ sizeLine
 · simp only [catS, hp, if_true] at e
   cases e
   obtain rfl := rx.str
   obtain rfl := ry.str
   exact ⟨i, j, rfl, rfl, hp, q _ _ (.refl rel) (RepK.mkF (d := .str (i ++ j)) rfl) (fresh_flat (d := .str (i ++ j)) rfl)⟩
 · simp only [catS, hp, if_false] at e
   cases e
def catT : Op2
 | .tup xs, .tup ys => if xs.length + ys.length ≤ sizeLine then some (.tup (xs ++ ys), .fro) else none
 | _, _ => none
theorem Rep.ofSqt {C : RC} {ρ : List CellA} {A : Addr → Prop} {H : Hp} {v : V} {ds : List DV} {B : BC} {σ : L2.St} {st : DS} {kd : Kd} (r : RepK B ρ st σ H kd v (.tup ds)) : Rep B.C ρ (Av ρ B.O st σ) H v (.tup ds) := by
 cases kd with
 | view i => obtain ⟨p, rfl, _, c, _⟩ := r; cases c
 | fro => exact r
 | new => exact r.1
theorem ops_catT {C : RC} : OpS C (rCatA C.K) catT := by
 intro B hB σ ρ st H ka kb x y a b c Q rel rx ry e q
 subst hB
 cases a <;> try (cases e; done)
 cases b <;> try (cases e; done)
 rename_i xs ys
 by_cases hp : xs.length + ys.length ≤ sizeLine
 · simp only [catT, hp, if_true] at e
   cases e
   have wx := Rep.ofSqt (C := B.C) (A := Av ρ B.O st σ) rx
   have wy := Rep.ofSqt (C := B.C) (A := Av ρ B.O st σ) ry
   obtain ⟨p, vs, rfl, e1, r1⟩ := rx.tup
   obtain ⟨p2, ws, rfl, e2, r2⟩ := ry.tup
   refine ⟨p, p2, vs, ws, rfl, rfl, e1, e2, by rw [r1.length, r2.length]; exact hp, fun ex => ?_, fun nx ey => ?_, fun nx ny n hn => ?_⟩
   · subst ex
     have : xs = [] := List.eq_nil_of_length_eq_zero (by rw [← r1.length]; rfl)
     subst this
     exact q _ _ (.refl rel) wy trivial
   · subst ey
     have : ys = [] := List.eq_nil_of_length_eq_zero (by rw [← r2.length]; rfl)
     subst this
     rw [List.append_nil] at q
     exact q _ _ (.refl rel) wx trivial
   · exact q _ _ (Step.alloc rel hn) (Rep.newTup rel hn (r1.append r2)) trivial
 · simp only [catT, hp, if_false] at e
   cases e
def dAdd : Op2
 | .int i, .int j => some (.int (i + j), .new)
 | .lst xs, .lst ys => if xs.length + ys.length ≤ sizeLine then some (.lst (xs ++ ys), .new) else none
 | .str x, .str y => if x.length + y.length ≤ sizeLine then some (.str (x ++ y), .new) else none
 | .tup xs, .tup ys => if xs.length + ys.length ≤ sizeLine then some (.tup (xs ++ ys), .fro) else none
 | .int i, .bl k => some (.int (i + b2i k), .new)
 | _, _ => none
def rAddIB : R2 := fun x y H Q => ∃ i k, x = .int i ∧ y = .bl k ∧ Q (.int (i + b2i k)) H
def addIB : Op2
 | .int i, .bl k => some (.int (i + b2i k), .new)
 | _, _ => none
theorem ops_addIB {C : RC} : OpS C rAddIB addIB := by
 intro B hB σ ρ st H ka kb x y a b c Q rel rx ry e q
 cases a <;> try (cases e; done)
 cases b <;> try (cases e; done)
 rename_i i k
 cases e
 obtain rfl := rx.int
 obtain rfl := ry.bl
 exact ⟨i, k, rfl, rfl, q _ _ (.refl rel) (RepK.mkF (d := .int (i + b2i k)) rfl) (fresh_flat (d := .int (i + b2i k)) rfl)⟩
def rAddAll (K : PySem.W.Frag) : R2 := fun x y H Q => (rI0 fun i j => .int (i + j)) x y H Q ∨ (rCat x y H Q ∨ ((∃ i j, x = .str i ∧ y = .str j ∧ i.length + j.length ≤ sizeLine ∧ Q (.str (i ++ j)) H) ∨ (rCatA K x y H Q ∨ rAddIB x y H Q)))
theorem opr_add {X : Cx} : OpR X (binaryOp .Add) (rAddAll X.K) := OpR.or op_add (OpR.or op_cat (OpR.or op_add_str (OpR.or op_catA op_add_ib)))
theorem ops_add {C : RC} : OpS C (rAddAll C.K) dAdd := by
 refine OpS.orB ops_int0 (OpS.orB ops_catL (OpS.orB ops_catS (OpS.orB ops_catT ops_addIB (k := fun a b => match catT a b with | some c => some c | none => addIB a b) ?_) (k := fun a b => match catS a b with | some c => some c | none => match catT a b with | some c => some c | none => addIB a b) ?_)
  (k := fun a b => match catL a b with | some c => some c | none => match catS a b with | some c => some c | none => match catT a b with | some c => some c | none => addIB a b) ?_) ?_
 · intro a b c e
   split at e
   · rename_i h; rw [← e]; exact .inl h
   · exact .inr e
 · intro a b c e
   split at e
   · rename_i h; rw [← e]; exact .inl h
   · exact .inr e
 · intro a b c e
   split at e
   · rename_i h; rw [← e]; exact .inl h
   · exact .inr e
 · intro a b c e
   unfold dAdd at e
   split at e
   · exact .inl e
   all_goals first
    | (cases e; done)
    | (refine .inr ?_; simp only [catL, catS, catT, addIB]; exact e)
    | (refine .inr ?_; simp only [catL, catS, catT, addIB]; split at e <;> first | (cases e; rename_i h; simp [h]; done) | (cases e; done))
end D
namespace D
open PySem L2 PyProof.Rows
theorem ansF {B : BC} {σ : L2.St} {ρ : List CellA} {st : DS} {H : Hp} {Q : VK} {d : DV} (hf : flat d = true) (rel : Rel B ρ st σ H)
 (q : ∀ v H', Step B σ ρ st H ρ st H' → RepK B ρ st σ H' .new v d → Fresh H .new v → Q v H') : Q (flatV' d) H := q _ _ (.refl rel) (RepK.mkF hf) (fresh_flat hf)
def dSub : Op2 | .int i, .int j => some (.int (i - j), .new) | _, _ => none
theorem ops_sub {C : RC} : OpS C (rI0 fun i j => .int (i - j)) dSub := by
 intro B hB σ ρ st H ka kb x y a b c Q rel rx ry e q
 cases a <;> try (cases e; done)
 cases b <;> try (cases e; done)
 rename_i i j
 cases e
 obtain rfl := rx.int
 obtain rfl := ry.int
 exact ⟨i, j, rfl, rfl, ansF (d := .int (i - j)) rfl rel q⟩
def fits64 (i : Int) : Bool := decide (-(2 ^ 64) < i) && decide (i < 2 ^ 64)
theorem fits64_of {i : Int} (h : fits64 i = true) : -(2 ^ 64) < i ∧ i < 2 ^ 64 := by
 unfold fits64 at h
 rw [Bool.and_eq_true, decide_eq_true_iff, decide_eq_true_iff] at h
 exact h
section
open SX PySem.Builtin PySem.Builtin.Str
def repS (s : Str) (n : Nat) : Str := ⟨(List.replicate n s.cps.toList).flatten.toArray⟩
theorem repS_fold (x : Str) : ∀ n : Nat, ∀ acc : Array Nat, (List.replicate n x.cps).foldl (· ++ ·) acc = acc ++ (List.replicate n x.cps.toList).flatten.toArray
 | 0, acc => by simp
 | n + 1, acc => by
  rw [List.replicate_succ, List.foldl_cons, repS_fold x n, List.replicate_succ, List.flatten_cons]
  apply Array.toList_inj.mp
  simp [Array.toList_append]
theorem repS_eq (x : Str) (n : Nat) : repS x n = ⟨(List.replicate n x.cps).foldl (· ++ ·) #[]⟩ := by
 rw [repS_fold]
 unfold repS
 congr 1
 simp
theorem repS_len (x : Str) (n : Nat) : (repS x n).length = n * x.length := by
 show (List.toArray _).size = n * x.cps.size
 rw [List.size_toArray, List.length_flatten, List.map_replicate, List.sum_replicate_nat]
 simp
def rMulS : R2 := fun x y H Q => ∃ s k, x = .str s ∧ y = .int k ∧ 0 ≤ k ∧ k ≤ 8192 ∧ s.length ≤ 1000 ∧ Q (.str (repS s k.toNat)) H
theorem op_mulS {X : Cx} : OpR X (binaryOp .Mult) rMulS := by
 intro pins s σ H x y v u Q I rx ry h
 obtain ⟨a, k, rfl, rfl, h0, h1, hz, q⟩ := h
 obtain ⟨t, rfl⟩ := rx
 obtain ⟨t', rfl⟩ := ry
 have hk : a.length * k.toNat ≤ 1000 * 8192 := Nat.mul_le_mul hz (by omega)
 refine P.mul_str (by simp; omega) (fun h2 h3 => ?_) (fun h2 h3 => ?_) ?_
 · have hk' : (a.length : Int) * k ≤ 2 ^ 63 - 1 := by
    have : ((a.length * k.toNat : Nat) : Int) = (a.length : Int) * k := by
     rw [Int.natCast_mul, Int.toNat_of_nonneg h0]
    omega
   have := (Int.le_ediv_iff_mul_le (show 0 < k by omega)).mpr hk'
   omega
 · unfold tooLong
   have : sizeLine = 16777216 := rfl
   exact decide_eq_false (by omega)
 · have sl : sizeLine = 16777216 := rfl
   split
   · have : k = 0 := by omega
     subst this
     exact ⟨Nat.zero_le _, .str (repS a (Int.toNat 0)), H, I.tok _, ⟨_, rfl⟩, q⟩
   · split
     · rename_i h3
       have e : repS a k.toNat = a := by
        rw [Bool.or_eq_true, beq_iff_eq, beq_iff_eq] at h3
        rcases h3 with rfl | h3
        · show Str.mk _ = _
          simp
        · have : a.cps = #[] := Array.size_eq_zero_iff.mp h3
          have e2 : a = ⟨#[]⟩ := by rw [← this]
          rw [e2]
          show Str.mk _ = _
          simp
       rw [e] at q
       exact ⟨.str a, H, I, ⟨_, rfl⟩, q⟩
     · rw [repS_eq] at q
       refine ⟨?_, .str _, H, I.tok _, ⟨_, rfl⟩, q⟩
       rw [← repS_eq, repS_len, Nat.mul_comm]
       omega
end
def dMul : Op2
 | .int i, .int j => if fits64 i || fits64 j then some (.int (i * j), .new) else none
 | .lst xs, .int k => if -(2 ^ 63) ≤ k ∧ k < 2 ^ 63 ∧ xs.length * k.toNat ≤ sizeLine then some (.lst (List.replicate k.toNat xs).flatten, .new) else none
 | .str s, .int k => if 0 ≤ k ∧ k ≤ 8192 ∧ s.length ≤ 1000 then some (.str (repS s k.toNat), .new) else none
 | _, _ => none
theorem RepL.rep {C : RC} {ρ : List CellA} {A : Addr → Prop} {H : Hp} {vs : List V} {ds : List DV} (r : RepL C ρ A H vs ds) : ∀ n : Nat, RepL C ρ A H (List.replicate n vs).flatten (List.replicate n ds).flatten
 | 0 => .nil
 | n + 1 => by
  rw [List.replicate_succ, List.replicate_succ, List.flatten_cons, List.flatten_cons]
  exact r.append (RepL.rep r n)
theorem ops_mul {C : RC} : OpS C (fun x y H Q => (rI CMul (fun i j => .int (i * j)) x y H Q ∨ rRep x y H Q) ∨ rMulS x y H Q) dMul := by
 intro B hB σ ρ st H ka kb x y a b c Q rel rx ry e q
 cases a <;> try (cases e; done)
 · rename_i i
   cases b <;> try (cases e; done)
   rename_i j
   simp only [dMul] at e
   split at e
   · rename_i h
     cases e
     obtain rfl := rx.int
     obtain rfl := ry.int
     refine .inl (.inl ⟨i, j, rfl, rfl, ?_, ansF (d := .int (i * j)) rfl rel q⟩)
     rw [Bool.or_eq_true] at h
     exact h.imp fits64_of fits64_of
   · cases e
 · rename_i z
   cases b <;> try (cases e; done)
   rename_i k
   simp only [dMul] at e
   split at e
   · rename_i h
     cases e
     obtain rfl := rx.str
     obtain rfl := ry.int
     exact .inr ⟨z, k, rfl, rfl, h.1, h.2.1, h.2.2, ansF (d := .str (repS z k.toNat)) rfl rel q⟩
   · cases e
 · rename_i ds
   cases b <;> try (cases e; done)
   rename_i k
   simp only [dMul] at e
   split at e
   · rename_i h
     cases e
     obtain ⟨p, vs, rfl, e1, r1⟩ := rx.lst
     obtain rfl := ry.int
     refine .inl (.inr ⟨p, k, vs, rfl, rfl, e1, h.1, h.2.1, by rw [r1.length]; exact h.2.2, fun n hn => ?_⟩)
     exact q _ _ (Step.alloc rel hn) (RepK.newLst rel hn (r1.rep _)) fun m em => by cases em; exact hn
   · cases e
def dDiv : Op2 | .int i, .int j => if 0 < j ∧ j < 2 ^ 64 then some (.int (i / j), .new) else none | _, _ => none
theorem ops_div {C : RC} : OpS C (rI CDivW fun i j => .int (i / j)) dDiv := by
 intro B hB σ ρ st H ka kb x y a b c Q rel rx ry e q
 cases a <;> try (cases e; done)
 cases b <;> try (cases e; done)
 rename_i i j
 simp only [dDiv] at e
 split at e
 · rename_i h
   cases e
   obtain rfl := rx.int
   obtain rfl := ry.int
   refine ⟨i, j, rfl, rfl, ⟨h.1, ?_⟩, ansF (d := .int (i / j)) rfl rel q⟩
   have h0 : j.natAbs ≠ 0 := by omega
   have h1 : j.natAbs < 2 ^ 64 := by omega
   exact Nat.lt_trans ((Nat.log2_lt h0).mpr h1) (by decide)
 · cases e
def dMod : Op2 | .int i, .int j => if 0 < j then some (.int (i % j), .new) else none | _, _ => none
theorem ops_mod {C : RC} : OpS C (rI (fun _ j => 0 < j) fun i j => .int (i % j)) dMod := by
 intro B hB σ ρ st H ka kb x y a b c Q rel rx ry e q
 cases a <;> try (cases e; done)
 cases b <;> try (cases e; done)
 rename_i i j
 simp only [dMod] at e
 split at e
 · rename_i h
   cases e
   obtain rfl := rx.int
   obtain rfl := ry.int
   exact ⟨i, j, rfl, rfl, h, ansF (d := .int (i % j)) rfl rel q⟩
 · cases e
def powOk (i j : Int) : Bool := decide (0 ≤ j) && decide (j ≤ 1000000) && decide (i.natAbs < 2 ^ 64)
theorem powOk_of {i j : Int} (h : powOk i j = true) : CPow i j := by
 unfold powOk at h
 rw [Bool.and_eq_true, Bool.and_eq_true, decide_eq_true_iff, decide_eq_true_iff, decide_eq_true_iff] at h
 exact ⟨h.1.1, h.1.2, h.2⟩
def dPow : Op2 | .int i, .int j => if powOk i j then some (.int (i ^ j.toNat), .new) else none | _, _ => none
theorem ops_pow {C : RC} : OpS C (rI CPow fun i j => .int (i ^ j.toNat)) dPow := by
 intro B hB σ ρ st H ka kb x y a b c Q rel rx ry e q
 cases a <;> try (cases e; done)
 cases b <;> try (cases e; done)
 rename_i i j
 simp only [dPow] at e
 split at e
 · rename_i h
   cases e
   obtain rfl := rx.int
   obtain rfl := ry.int
   exact ⟨i, j, rfl, rfl, powOk_of h, ansF (d := .int (i ^ j.toNat)) rfl rel q⟩
 · cases e
def dShl : Op2 | .int i, .int j => if powOk i j then some (.int (i * 2 ^ j.toNat), .new) else none | _, _ => none
theorem ops_shl {C : RC} : OpS C (rI CPow fun i j => .int (i * 2 ^ j.toNat)) dShl := by
 intro B hB σ ρ st H ka kb x y a b c Q rel rx ry e q
 cases a <;> try (cases e; done)
 cases b <;> try (cases e; done)
 rename_i i j
 simp only [dShl] at e
 split at e
 · rename_i h
   cases e
   obtain rfl := rx.int
   obtain rfl := ry.int
   exact ⟨i, j, rfl, rfl, powOk_of h, ansF (d := .int (i * 2 ^ j.toNat)) rfl rel q⟩
 · cases e
def dShr : Op2 | .int i, .int j => if 0 ≤ j then some (.int (i / 2 ^ j.toNat), .new) else none | _, _ => none
theorem ops_shr {C : RC} : OpS C (rI (fun _ j => 0 ≤ j) fun i j => .int (i / 2 ^ j.toNat)) dShr := by
 intro B hB σ ρ st H ka kb x y a b c Q rel rx ry e q
 cases a <;> try (cases e; done)
 cases b <;> try (cases e; done)
 rename_i i j
 simp only [dShr] at e
 split at e
 · rename_i h
   cases e
   obtain rfl := rx.int
   obtain rfl := ry.int
   exact ⟨i, j, rfl, rfl, h, ansF (d := .int (i / 2 ^ j.toNat)) rfl rel q⟩
 · cases e
def dBit (g : Int → Int → Int) : Op2 | .int i, .int j => some (.int (g i j), .new) | _, _ => none
theorem ops_bit {C : RC} {g : Int → Int → Int} : OpS C (rI0 fun i j => .int (g i j)) (dBit g) := by
 intro B hB σ ρ st H ka kb x y a b c Q rel rx ry e q
 cases a <;> try (cases e; done)
 cases b <;> try (cases e; done)
 rename_i i j
 cases e
 obtain rfl := rx.int
 obtain rfl := ry.int
 exact ⟨i, j, rfl, rfl, ansF (d := .int (g i j)) rfl rel q⟩
abbrev dAnd := dBit Builtin.bitAnd
abbrev dOr := dBit Builtin.bitOr
abbrev dXor := dBit Builtin.bitXor
def dBin : Operator → Op2
 | .Add => dAdd | .Sub => dSub | .Mult => dMul | .FloorDiv => dDiv | .Mod => dMod | .Pow => dPow | .LShift => dShl | .RShift => dShr
 | .BitAnd => dAnd | .BitOr => dOr | .BitXor => dXor | _ => fun _ _ => none
theorem op_bin {X : Cx} {B : BC} (hC : B.C.K = X.K) : ∀ op : Operator, ∃ r, OpR X (binaryOp op) r ∧ OpS B.C r (dBin op)
 | .Add => ⟨rAddAll X.K, opr_add, by rw [← hC]; exact ops_add⟩
 | .Sub => ⟨_, op_sub, ops_sub⟩
 | .Mult => ⟨_, OpR.or (OpR.or op_mul op_rep) op_mulS, ops_mul⟩
 | .FloorDiv => ⟨_, op_fdivW, ops_div⟩
 | .Mod => ⟨_, op_mod, ops_mod⟩
 | .Pow => ⟨_, op_pow, ops_pow⟩
 | .LShift => ⟨_, op_shl, ops_shl⟩
 | .RShift => ⟨_, op_shr, ops_shr⟩
 | .BitAnd => ⟨_, op_and, ops_bit⟩
 | .BitOr => ⟨_, op_or, ops_bit⟩
 | .BitXor => ⟨_, op_xor, ops_bit⟩
 | .MatMult => ⟨fun _ _ _ _ => False, fun _ _ _ _ _ _ _ _ _ _ _ _ h => h.elim, fun _ _ _ _ _ _ _ _ _ _ _ _ _ _ _ _ _ e _ => nomatch e⟩
 | .Div => ⟨fun _ _ _ _ => False, fun _ _ _ _ _ _ _ _ _ _ _ _ h => h.elim, fun _ _ _ _ _ _ _ _ _ _ _ _ _ _ _ _ _ e _ => nomatch e⟩
def dEqv (a b : DV) : Option Bool := match toP a, toP b with
 | some p, some q => if SeqAt.shaped p && SeqAt.shaped q then some (PyData.eqv p q) else none
 | _, _ => none
def eqD : DV → DV → Option Bool
 | .int i, .int j => some (decide (i = j))
 | .str x, .str y => some (decide (x = y))
 | .bl x, .bl y => some (decide (x = y))
 | .non, .non => some true
 | .non, .int _ => some false
 | .int _, .non => some false
 | .non, .str _ => some false
 | .str _, .non => some false
 | a, b => dEqv a b
def dEq : Op2 := fun a b => (eqD a b).map fun k => (.bl k, .new)
def dNe : Op2 := fun a b => (eqD a b).map fun k => (.bl (!k), .new)
theorem eqD_cases {a b : DV} {k : Bool} (h : eqD a b = some k) : (flat a = true ∧ flat b = true ∧ scal (flatV' a) (flatV' b) = true ∧ decide (flatV' a = flatV' b) = k) ∨ dEqv a b = some k := by
 unfold eqD at h
 split at h
 all_goals first
  | exact .inr h
  | (refine .inl ⟨rfl, rfl, rfl, ?_⟩; cases h; first | rfl | (rw [decide_eq_decide]; exact ⟨fun e => by injection e, fun e => by rw [e]⟩) | (exact decide_eq_false fun z => nomatch z) | exact decide_eq_true rfl)
theorem dEqv_of {B : BC} {σ : L2.St} {ρ : List CellA} {st : DS} {H : Hp} {ka kb : Kd} {x y : V} {a b : DV} {k : Bool} (h : dEqv a b = some k) (rx : RepK B ρ st σ H ka x a) (ry : RepK B ρ st σ H kb y b) :
 ∃ d e, Dp B.C.K H x d ∧ Dp B.C.K H y e ∧ SeqAt.shaped d = true ∧ SeqAt.shaped e = true ∧ PyData.eqv d e = k := by
 unfold dEqv at h
 split at h
 · rename_i p q h1 h2
   split at h
   · rename_i hs
     rw [Bool.and_eq_true] at hs
     cases h
     exact ⟨p, q, rx.dp h1, ry.dp h2, hs.1, hs.2, rfl⟩
   · cases h
 · cases h
theorem ops_eq {C : RC} : OpS C (fun x y H Q => rEq x y H Q ∨ rEqD C.K x y H Q) dEq := by
 intro B hB σ ρ st H ka kb x y a b c Q rel rx ry e q
 subst hB
 unfold dEq at e
 cases h : eqD a b with
 | none => rw [h] at e; cases e
 | some k =>
  rw [h] at e
  cases e
  rcases eqD_cases h with ⟨f1, f2, s, e⟩ | h
  · obtain rfl := rx.flat f1
    obtain rfl := ry.flat f2
    exact .inl ⟨s, by rw [e]; exact ansF (d := .bl k) rfl rel q⟩
  · obtain ⟨d, e, h1, h2, h3, h4, h5⟩ := dEqv_of h rx ry
    exact .inr ⟨d, e, h1, h2, h3, h4, by rw [h5]; exact ansF (d := .bl k) rfl rel q⟩
theorem ops_ne {C : RC} : OpS C (fun x y H Q => rNe x y H Q ∨ rNeD C.K x y H Q) dNe := by
 intro B hB σ ρ st H ka kb x y a b c Q rel rx ry e q
 subst hB
 unfold dNe at e
 cases h : eqD a b with
 | none => rw [h] at e; cases e
 | some k =>
  rw [h] at e
  cases e
  rcases eqD_cases h with ⟨f1, f2, s, e⟩ | h
  · obtain rfl := rx.flat f1
    obtain rfl := ry.flat f2
    exact .inl ⟨s, by rw [e]; exact ansF (d := .bl (!k)) rfl rel q⟩
  · obtain ⟨d, e, h1, h2, h3, h4, h5⟩ := dEqv_of h rx ry
    exact .inr ⟨d, e, h1, h2, h3, h4, by rw [h5]; exact ansF (d := .bl (!k)) rfl rel q⟩
def dLt : Op2 | .int i, .int j => some (.bl (decide (i < j)), .new) | _, _ => none
def dLe : Op2 | .int i, .int j => some (.bl (decide (i ≤ j)), .new) | _, _ => none
def dGt : Op2 | .int i, .int j => some (.bl (decide (j < i)), .new) | _, _ => none
def dGe : Op2 | .int i, .int j => some (.bl (decide (j ≤ i)), .new) | _, _ => none
theorem ops_rel {C : RC} {g : Int → Int → Bool} {f : Op2} (hf : ∀ a b c, f a b = some c → ∃ i j, a = .int i ∧ b = .int j ∧ c = (.bl (g i j), .new)) : OpS C (rI0 fun i j => .bl (g i j)) f := by
 intro B hB σ ρ st H ka kb x y a b c Q rel rx ry e q
 obtain ⟨i, j, rfl, rfl, rfl⟩ := hf a b c e
 obtain rfl := rx.int
 obtain rfl := ry.int
 exact ⟨i, j, rfl, rfl, ansF (d := .bl (g i j)) rfl rel q⟩
theorem ints_inv {f : Int → Int → DV × Kd} {a b : DV} {c : DV × Kd} (e : (match a, b with | .int i, .int j => some (f i j) | _, _ => none) = some c) : ∃ i j, a = .int i ∧ b = .int j ∧ c = f i j := by
 split at e
 · cases e
   exact ⟨_, _, rfl, rfl, rfl⟩
 · cases e
theorem ops_lt {C : RC} : OpS C (rI0 fun i j => .bl (decide (i < j))) dLt := ops_rel fun _ _ _ e => ints_inv (f := fun i j => (.bl (decide (i < j)), .new)) e
theorem ops_le {C : RC} : OpS C (rI0 fun i j => .bl (decide (i ≤ j))) dLe := ops_rel fun _ _ _ e => ints_inv (f := fun i j => (.bl (decide (i ≤ j)), .new)) e
theorem ops_gt {C : RC} : OpS C (rI0 fun i j => .bl (decide (j < i))) dGt := ops_rel fun _ _ _ e => ints_inv (f := fun i j => (.bl (decide (j < i)), .new)) e
theorem ops_ge {C : RC} : OpS C (rI0 fun i j => .bl (decide (j ≤ i))) dGe := ops_rel fun _ _ _ e => ints_inv (f := fun i j => (.bl (decide (j ≤ i)), .new)) e
def isD : DV → DV → Option Bool
 | .non, .non => some true
 | _, .non => some false
 | .bl a, .bl b => some (decide (a = b))
 | _, _ => none
def dIs : Op2 := fun a b => (isD a b).map fun k => (.bl k, .new)
def dIsNot : Op2 := fun a b => (isD a b).map fun k => (.bl (!k), .new)
theorem RepK.non_iff {B : BC} {σ : L2.St} {ρ : List CellA} {st : DS} {H : Hp} {kd : Kd} {v : V} {d : DV} (r : RepK B ρ st σ H kd v d) (h : d ≠ .non) : v ≠ .non := by
 intro e
 subst e
 cases kd with
 | view i => obtain ⟨p, e, _⟩ := r; cases e
 | fro => cases (show Rep _ _ _ _ _ _ from r); exact h rfl
 | new => cases (show Rep _ _ _ _ _ _ from r.1); exact h rfl
theorem isD_cases {a b : DV} {k : Bool} (h : isD a b = some k) : (b = .non ∧ ((a = .non ∧ k = true) ∨ (a ≠ .non ∧ k = false))) ∨ ∃ x y, a = .bl x ∧ b = .bl y ∧ k = decide (x = y) := by
 unfold isD at h
 split at h
 · cases h
   exact .inl ⟨rfl, .inl ⟨rfl, rfl⟩⟩
 · rename_i h1
   cases h
   exact .inl ⟨rfl, .inr ⟨h1, rfl⟩⟩
 · cases h
   exact .inr ⟨_, _, rfl, rfl, rfl⟩
 · cases h
theorem ops_is {C : RC} : OpS C (fun x y H Q => (y = .non ∧ Q (.bl (decide (x = .non))) H) ∨ rIsB x y H Q) dIs := by
 intro B hB σ ρ st H ka kb x y a b c Q rel rx ry e q
 unfold dIs at e
 cases h : isD a b with
 | none => rw [h] at e; cases e
 | some k =>
  rw [h] at e
  cases e
  have hc := isD_cases h
  clear h
  rcases hc with ⟨rfl, h⟩ | ⟨i, j, rfl, rfl, rfl⟩
  · obtain rfl := ry.non
    refine .inl ⟨rfl, ?_⟩
    rcases h with ⟨rfl, rfl⟩ | ⟨h, rfl⟩
    · obtain rfl := rx.non
      rw [decide_eq_true rfl]
      exact ansF (d := .bl true) rfl rel q
    · rw [decide_eq_false (rx.non_iff h)]
      exact ansF (d := .bl false) rfl rel q
  · obtain rfl := rx.bl
    obtain rfl := ry.bl
    exact .inr ⟨i, j, rfl, rfl, ansF (d := .bl (decide (i = j))) rfl rel q⟩
theorem ops_isNot {C : RC} : OpS C (fun x y H Q => (y = .non ∧ Q (.bl (!decide (x = .non))) H) ∨ rNotB x y H Q) dIsNot := by
 intro B hB σ ρ st H ka kb x y a b c Q rel rx ry e q
 unfold dIsNot at e
 cases h : isD a b with
 | none => rw [h] at e; cases e
 | some k =>
  rw [h] at e
  cases e
  have hc := isD_cases h
  clear h
  rcases hc with ⟨rfl, h⟩ | ⟨i, j, rfl, rfl, rfl⟩
  · obtain rfl := ry.non
    refine .inl ⟨rfl, ?_⟩
    rcases h with ⟨rfl, rfl⟩ | ⟨h, rfl⟩
    · obtain rfl := rx.non
      rw [decide_eq_true rfl]
      exact ansF (d := .bl false) rfl rel q
    · rw [decide_eq_false (rx.non_iff h)]
      exact ansF (d := .bl true) rfl rel q
  · obtain rfl := rx.bl
    obtain rfl := ry.bl
    exact .inr ⟨i, j, rfl, rfl, ansF (d := .bl (!decide (i = j))) rfl rel q⟩
def flat4 : DV → Bool
 | .non => true | .bl _ => true | .int _ => true | .str _ => true | _ => false
theorem flat_of4 {d : DV} (h : flat4 d = true) : flat d = true := by cases d <;> first | rfl | cases h
theorem flatV_of4 {d : DV} (h : flat4 d = true) : flatV (flatV' d) = true := by cases d <;> first | rfl | cases h
def eqF : DV → DV → Bool
 | .non, .non => true
 | .bl a, .bl b => a == b
 | .bl a, .int b => (if a then 1 else 0) == b
 | .int a, .bl b => a == (if b then 1 else 0)
 | .int a, .int b => a == b
 | .str a, .str b => a == b
 | _, _ => false
theorem eqF_V {a b : DV} (ha : flat4 a = true) (hb : flat4 b = true) : eqV (flatV' a) (flatV' b) = eqF a b := by
 cases a <;> cases b <;> first | rfl | (cases ha; done) | (cases hb; done)
theorem RepL.flat {C : RC} {ρ : List CellA} {A : Addr → Prop} {H : Hp} : ∀ {vs : List V} {ds : List DV}, RepL C ρ A H vs ds → ds.all flat4 = true → vs = ds.map flatV'
 | _, _, .nil, _ => rfl
 | _, _, .cons r t, h => by
  rw [List.all_cons, Bool.and_eq_true] at h
  rw [List.map_cons, Rep.flat_eq (flat_of4 h.1) r, RepL.flat t h.2]
theorem all_flatV : ∀ {ds : List DV}, ds.all flat4 = true → (ds.map flatV').all flatV = true
 | [], _ => rfl
 | d :: ds, h => by
  rw [List.all_cons, Bool.and_eq_true] at h
  rw [List.map_cons, List.all_cons, flatV_of4 h.1, all_flatV h.2]
  rfl
theorem inV_F {a : DV} (ha : flat4 a = true) : ∀ {ds : List DV}, ds.all flat4 = true → inV (flatV' a) (ds.map flatV') = ds.any fun d => eqF d a
 | [], _ => rfl
 | d :: ds, h => by
  rw [List.all_cons, Bool.and_eq_true] at h
  have ih := inV_F ha h.2
  unfold inV at ih ⊢
  rw [List.map_cons, List.any_cons, List.any_cons, ih, eqF_V h.1 ha]
def keyD : DV → Option Key
 | .int i => some (.inl i)
 | .str s => some (.inr s)
 | _ => none
theorem keyD_V {d : DV} {k : Key} (h : keyD d = some k) : flat d = true ∧ flatV' d = kV k := by
 cases d <;> first | (cases h; done) | (cases h; exact ⟨rfl, rfl⟩)
def inD : DV → DV → Option Bool
 | .str i, .str j => some (!(Builtin.Str.occurrences j i 0 j.length 1).isEmpty)
 | a, .lst ds => if flat4 a && ds.all flat4 then some (ds.any fun d => eqF d a) else
  match toP a, toPs ds with
  | some p, some ps => if SeqAt.shaped p && SeqAt.shaped (.list ps) then some (ps.any fun z => PyData.eqv z p) else none
  | _, _ => none
 | a, .tup ds => if flat4 a && ds.all flat4 then some (ds.any fun d => eqF d a) else none
 | a, .dct ks _ => (keyD a).map fun k => ks.any fun j => decide (j = k)
 | _, _ => none
def dIn : Op2 := fun a b => (inD a b).map fun k => (.bl k, .new)
def dNotIn : Op2 := fun a b => (inD a b).map fun k => (.bl (!k), .new)
def rInDct (neg : Bool) : R2 := fun y x H Q => ∃ a o, x = .ref a ∧ DGet H a y o ∧ Q (.bl (if neg then !o.isSome else o.isSome)) H
theorem op_inDct {X : Cx} (hu : X.A.units + 1 < cLine) : OpR X (compareOp .In) (rInDct false) := by
 intro pins s σ H y x u v Q I ry rx h
 obtain ⟨a, o, rfl, g, q⟩ := h
 cases rx
 exact d_in hu I g ry fun s' I' => ⟨.bl _, H, I', rfl, q⟩
theorem op_notInDct {X : Cx} (hu : X.A.units + 1 < cLine) : OpR X (compareOp .NotIn) (rInDct true) := by
 intro pins s σ H y x u v Q I ry rx h
 obtain ⟨a, o, rfl, g, q⟩ := h
 cases rx
 exact d_notIn hu I g ry fun s' I' => ⟨.bl _, H, I', rfl, q⟩
theorem valV_zip (k : Key) : ∀ (ks : List Key) (xs : List V), ks.length = xs.length → (valV (ks.zip xs) k).isSome = ks.any fun j => decide (j = k) := by
 intro ks xs hl
 rw [← valV_any]
 induction ks generalizing xs with
 | nil => rfl
 | cons j ks ih =>
  cases xs with
  | nil => cases hl
  | cons x xs =>
   rw [List.zip_cons_cons, List.any_cons, List.any_cons, ih xs (by simpa using hl)]
def rInStr (neg : Bool) : R2 := fun x y H Q => ∃ i j, x = .str i ∧ y = .str j ∧ Q (.bl (if neg then !(!(Builtin.Str.occurrences j i 0 j.length 1).isEmpty) else !(Builtin.Str.occurrences j i 0 j.length 1).isEmpty)) H
def rInDD (K : PySem.W.Frag) (neg : Bool) : R2 := fun x y H Q => ∃ d ds, Dp K H x d ∧ Dp K H y (.list ds) ∧ SeqAt.shaped d = true ∧ SeqAt.shaped (.list ds) = true ∧ Q (.bl (if neg then !(ds.any fun z => PyData.eqv z d) else ds.any fun z => PyData.eqv z d)) H
def rInAll (K : PySem.W.Frag) (neg : Bool) : R2 := fun x y H Q => rInStr neg x y H Q ∨ (rIn K neg x y H Q ∨ (rInDD K neg x y H Q ∨ rInDct neg x y H Q))
theorem opr_in {X : Cx} (hu : X.A.units + 65 < cLine) : OpR X (compareOp .In) (rInAll X.K false) :=
 OpR.or op_in_str (OpR.or op_in_seq (OpR.or (op_inD hu) (op_inDct (by omega))))
theorem opr_notIn {X : Cx} (hu : X.A.units + 65 < cLine) : OpR X (compareOp .NotIn) (rInAll X.K true) :=
 OpR.or op_notin_str (OpR.or op_notIn_seq (OpR.or (op_notInD hu) (op_notInDct (by omega))))
theorem in_all {B : BC} {σ : L2.St} {ρ : List CellA} {st : DS} {H : Hp} {ka kb : Kd} {x y : V} {a b : DV} {k : Bool} {Q : VK} (neg : Bool) (rx : RepK B ρ st σ H ka x a) (ry : RepK B ρ st σ H kb y b) (h : inD a b = some k)
 (q : Q (.bl (if neg then !k else k)) H) : rInAll B.C.K neg x y H Q := by
 cases b with
 | str j =>
  cases a <;> try (cases h; done)
  rename_i i
  cases h
  obtain rfl := rx.str
  obtain rfl := ry.str
  exact .inl ⟨i, j, rfl, rfl, q⟩
 | lst ds =>
  simp only [inD] at h
  split at h
  · rename_i hf
    cases h
    rw [Bool.and_eq_true] at hf
    obtain rfl := rx.flat (flat_of4 hf.1)
    obtain ⟨p, vs, rfl, e1, r1⟩ := ry.lst
    have ev := r1.flat hf.2
    subst ev
    exact .inr (.inl ⟨p, _, rfl, .inl (.inl (.inl e1)), flatV_of4 hf.1, all_flatV hf.2, by rw [inV_F hf.1 hf.2]; exact q⟩)
  · split at h
    · rename_i p ps h1 h2
      split at h
      · rename_i hs
        cases h
        rw [Bool.and_eq_true] at hs
        refine .inr (.inr (.inl ⟨p, ps, rx.dp h1, ry.dp (by simp [toP, h2]), hs.1, hs.2, q⟩))
      · cases h
    · cases h
 | tup ds =>
  simp only [inD] at h
  split at h
  · rename_i hf
    cases h
    rw [Bool.and_eq_true] at hf
    obtain rfl := rx.flat (flat_of4 hf.1)
    obtain ⟨p, vs, rfl, e1, r1⟩ := ry.tup
    have ev := r1.flat hf.2
    subst ev
    exact .inr (.inl ⟨p, _, rfl, .inr e1, flatV_of4 hf.1, all_flatV hf.2, by rw [inV_F hf.1 hf.2]; exact q⟩)
  · cases h
 | dct ks ds =>
  have h' : (keyD a).map (fun k => ks.any fun j => decide (j = k)) = some k := by cases a <;> exact h
  cases hk : keyD a with
  | none => rw [hk] at h'; cases h'
  | some key =>
   rw [hk] at h'
   cases h'
   obtain ⟨f, e⟩ := keyD_V hk
   obtain rfl := rx.flat f
   obtain ⟨p, xs, rfl, e1, hl, r1⟩ := ry.dct
   refine .inr (.inr (.inr ⟨p, valV (ks.zip xs) key, rfl, ?_, ?_⟩))
   · rw [e]
     exact DGet.k e1
   · rw [valV_zip key ks xs hl]
     exact q
 | _ =>
  unfold inD at h
  split at h
  all_goals first
   | (rename_i z; cases z; done)
   | (cases h; done)
theorem ops_in {C : RC} : OpS C (rInAll C.K false) dIn := by
 intro B hB σ ρ st H ka kb x y a b c Q rel rx ry e q
 subst hB
 unfold dIn at e
 cases h : inD a b with
 | none => rw [h] at e; cases e
 | some k =>
  rw [h] at e
  cases e
  exact in_all false rx ry h (ansF (d := .bl k) rfl rel q)
theorem ops_notIn {C : RC} : OpS C (rInAll C.K true) dNotIn := by
 intro B hB σ ρ st H ka kb x y a b c Q rel rx ry e q
 subst hB
 unfold dNotIn at e
 cases h : inD a b with
 | none => rw [h] at e; cases e
 | some k =>
  rw [h] at e
  cases e
  exact in_all true rx ry h (ansF (d := .bl (!k)) rfl rel q)
def dCmp : CmpOp → Op2
 | .Eq => dEq | .NotEq => dNe | .Lt => dLt | .LtE => dLe | .Gt => dGt | .GtE => dGe | .Is => dIs | .IsNot => dIsNot | .In => dIn | .NotIn => dNotIn
theorem op_cmp {X : Cx} {B : BC} (hC : B.C.K = X.K) (hu : X.A.units + 65 < cLine) : ∀ op : CmpOp, ∃ r, OpR X (compareOp op) r ∧ OpS B.C r (dCmp op)
 | .Eq => ⟨_, OpR.or op_eq (op_eqD (by omega)), by rw [← hC]; exact ops_eq⟩
 | .NotEq => ⟨_, OpR.or op_ne (op_neD (by omega)), by rw [← hC]; exact ops_ne⟩
 | .Lt => ⟨_, op_lt, ops_lt⟩
 | .LtE => ⟨_, op_le, ops_le⟩
 | .Gt => ⟨_, op_gt, ops_gt⟩
 | .GtE => ⟨_, op_ge, ops_ge⟩
 | .Is => ⟨_, OpR.or op_isN op_isBl, ops_is⟩
 | .IsNot => ⟨_, OpR.or op_notN op_notBl, ops_isNot⟩
 | .In => ⟨_, opr_in hu, by rw [← hC]; exact ops_in⟩
 | .NotIn => ⟨_, opr_notIn hu, by rw [← hC]; exact ops_notIn⟩
end D
namespace D
open PySem L2 PyProof.Rows
def truD : DV → Option Bool
 | .non => some false
 | .bl b => some b
 | .int i => some (i != 0)
 | .str s => if s.length ≤ sizeLine then some ((s.length : Int) != 0) else none
 | .lst ds => some (!ds.isEmpty)
 | .tup ds => some (!ds.isEmpty)
 | .dct ks _ => some (!ks.isEmpty)
 | _ => none
theorem RepL.isEmpty {C : RC} {ρ : List CellA} {A : Addr → Prop} {H : Hp} {vs : List V} {ds : List DV} (r : RepL C ρ A H vs ds) : vs.isEmpty = ds.isEmpty := by cases r <;> rfl
theorem truD_of {B : BC} {σ : L2.St} {ρ : List CellA} {st : DS} {H : Hp} {kd : Kd} {x : V} {a : DV} {k : Bool} (rx : RepK B ρ st σ H kd x a) (h : truD a = some k) : TruV B.C.K x H k := by
 cases a <;> try (cases h; done)
 · obtain rfl := rx.non; cases h; rfl
 · obtain rfl := rx.bl; cases h; rfl
 · obtain rfl := rx.int; cases h; rfl
 · obtain rfl := rx.str
   simp only [truD] at h
   split at h
   · rename_i hs; cases h; exact ⟨hs, rfl⟩
   · cases h
 · obtain ⟨p, xs, rfl, e, r⟩ := rx.lst
   cases h
   exact .inl ⟨xs, .inl (.inl e), by rw [r.isEmpty]⟩
 · obtain ⟨p, xs, rfl, e, r⟩ := rx.tup
   cases h
   exact .inr (.inl ⟨xs, e, by rw [r.isEmpty]⟩)
 · obtain ⟨p, xs, rfl, e, l, r⟩ := rx.dct
   cases h
   refine .inr (.inr ⟨_, e, ?_⟩)
   rename_i ks vs
   cases ks with
   | nil => rfl
   | cons k ks =>
    cases xs with
    | nil => cases l
    | cons x xs => rfl
abbrev Tv := DS → Out Bool
def GT (σ : L2.St) (Q : Bool → Hp → Prop) : Bool → DS → List CellA → Hp → Prop := fun b _ _ H' => Q b H'
def RT (B : BC) (W : WX) (f : Tv) : TT := fun σ H Q => ∃ ρ st, Rel B ρ st σ H ∧ Res B W σ ρ st H (f st) (GT σ Q)
def PTD (X : Cx) (B : BC) (W : WX) (e : Expr) (f : Tv) : Prop := PT X e (RT B W f)
theorem RT.go {B : BC} {W : WX} {f : Tv} {σ : L2.St} {ρ : List CellA} {st : DS} {H : Hp} {G : Bool → DS → List CellA → Hp → Prop} {Q : Bool → Hp → Prop} (rel : Rel B ρ st σ H) (r : Res B W σ ρ st H (f st) G)
 (h : ∀ b st' ρ' H', Step B σ ρ st H ρ' st' H' → G b st' ρ' H' → Q b H') : RT B W f σ H Q := ⟨ρ, st, rel, r.imp h⟩
def tvE (f : Ev) : Tv := fun st => (f st).bind fun a st1 => match truD a.1 with
 | some k => .ok k st1
 | none => .stuck
def tvB (f : Ev) : Tv := fun st => (f st).bind fun a st1 => match a.1 with
 | .bl k => .ok k st1
 | _ => .stuck
section
variable {X : Cx} {B : BC} {W : WX} {a b c e : Expr} {rest : List Expr} {fa fb fc f : Ev} {ta tb : Tv} {pos : Pos} {r r' : R2} {g g' : Op2}
theorem ptd_truth (hC : B.C.K = X.K) (h : PD X B W e f) (he : ∀ whole, isTrue e X.env whole = (do let v ← whole; standAt e.pos; holding [v] (truthy v))) : PTD X B W e (tvE f) := by
 refine PT.mono (pt_truth h he) fun σ H Q ⟨ρ, st, rel, res⟩ => ?_
 refine RD.go rel (Res.bind res) fun a st1 ρ1 H1 s1 r1 x rx fx => ?_
 cases e : truD a.1 with
 | none => rw [e] at r1; exact r1.elim
 | some k =>
  rw [e] at r1
  exact ⟨k, by rw [← hC]; exact truD_of rx e, Res.now s1.rel r1⟩
theorem ptd_of {t : TE} (h : PT X e (tTest t)) (ht : ∀ σ H Q, RD B W f σ H Q → t σ H Q) : PTD X B W e (tvB f) := by
 refine PT.mono h fun σ H Q ⟨ρ, st, rel, res⟩ => ?_
 refine ht σ H _ ?_
 refine RD.go rel (Res.bind res) fun a st1 ρ1 H1 s1 r1 x rx fx => ?_
 obtain ⟨d, kd⟩ := a
 cases d <;> try exact r1.elim
 obtain rfl := rx.bl
 exact ⟨_, rfl, Res.now s1.rel r1⟩
theorem ptd_cmp {op : CmpOp} (ho : OpR X (compareOp op) r) (hs : OpS B.C r g) (ha : PD X B W a fa) (hb : PD X B W b fb) (hm : behindInMarks op b = false) : PTD X B W (.Compare a [op] [b] pos) (tvB (zqk g fa fb)) :=
 ptd_of (pt_cmpR ho ha hb hm) fun _ _ _ h => tOp_of hs h
def evChain (g g' : Op2) (ea eb ec : Ev) : Ev := fun st => (ea st).bind fun a st1 => (eb st1).bind fun b st2 => match g a.1 b.1 with
 | some (.bl true, _) => (ec st2).bind fun c st3 => (match g' b.1 c.1 with
  | some r => .ok r st3
  | none => .stuck)
 | some (.bl false, _) => .ok (.bl false, .new) st2
 | _ => .stuck
theorem tChain_of (hs : OpS B.C r g) (hs' : OpS B.C r' g') {σ : L2.St} {H : Hp} {Q : VK} (h : RD B W (evChain g g' fa fb fc) σ H Q) : tChain r r' (RD B W fa) (RD B W fb) (RD B W fc) σ H Q := by
 obtain ⟨ρ, st, rel, res⟩ := h
 refine RD.go rel (Res.bind res) fun a st1 ρ1 H1 s1 r1 x rx fx => ?_
 refine RD.go s1.rel (Res.bind r1) fun b st2 ρ2 H2 s2 r2 y ry fy => ?_
 split at r2
 · rename_i kd e
   refine hs B rfl σ ρ2 st2 H2 a.2 b.2 x y a.1 b.1 _ _ s2.rel (RepK.step s2 rx) ry e fun v H3 s3 rv fv => ?_
   have ev : v = .bl true := RepK.bl rv
   refine ⟨true, ev, ?_⟩
   rw [if_pos rfl]
   have r3 := (show Res B W σ ρ2 st2 H2 ((fc st2).bind _) _ from r2)
   -- from the heap behind the comparison
   have r3' : Res B W σ ρ2 st2 H3 ((fc st2).bind fun c st3 => match g' b.1 c.1 with | some r => Out.ok r st3 | none => Out.stuck) (GE B σ H Q) := by
    revert r3
    cases ((fc st2).bind fun c st3 => match g' b.1 c.1 with | some r => Out.ok r st3 | none => Out.stuck) with
    | ok a st' => exact fun r3 ρ' H' s => r3 ρ' H' (s3.trans s)
    | exc x st' => exact fun r3 ρ' H' cls d s => r3 ρ' H' cls d (s3.trans s)
    | stuck => exact id
   refine RD.go s3.rel (Res.bind r3') fun c st4 ρ4 H4 s4 r4 z rz fz => ?_
   cases e4 : g' b.1 c.1 with
   | none => rw [e4] at r4; exact r4.elim
   | some u =>
    rw [e4] at r4
    exact hs' B rfl σ ρ4 st4 H4 b.2 c.2 y z b.1 c.1 u Q s4.rel (RepK.step s4 (RepK.step s3 ry)) rz e4 fun v H' s5 rv fv =>
     r4 _ _ s5 v rv ((((fv.dm s4.dm).dm s3.dm).dm s2.dm).dm s1.dm)
 · rename_i kd e
   refine hs B rfl σ ρ2 st2 H2 a.2 b.2 x y a.1 b.1 _ _ s2.rel (RepK.step s2 rx) ry e fun v H3 s3 rv fv => ?_
   have ev : v = .bl false := RepK.bl rv
   refine ⟨false, ev, ?_⟩
   rw [if_neg Bool.false_ne_true]
   exact r2 _ _ s3 _ (RepK.mkF (d := .bl false) rfl) (fresh_flat (d := .bl false) rfl)
 · exact r2.elim
theorem pd_chain {op op' : CmpOp} (ho : OpR X (compareOp op) r) (ho' : OpR X (compareOp op') r') (hs : OpS B.C r g) (hs' : OpS B.C r' g') (ha : PD X B W a fa) (hb : PD X B W b fb) (hc : PD X B W c fc) (hm : lastMarks [op, op'] [b, c] = false) :
 PD X B W (.Compare a [op, op'] [b, c] pos) (evChain g g' fa fb fc) := PE.mono (pe_chain ho ho' ha hb hc hm) fun _ _ _ h => tChain_of hs hs' h
def tvAnd (ta tb : Tv) : Tv := fun st => (ta st).bind fun k st1 => if k = true then tb st1 else .ok false st1
def tvOr (ta tb : Tv) : Tv := fun st => (ta st).bind fun k st1 => if k = true then .ok true st1 else tb st1
def tvNot (ta : Tv) : Tv := fun st => (ta st).bind fun k st1 => .ok (!k) st1
def PWD (X : Cx) (B : BC) (W : WX) (e : Expr) (f : Tv) : Prop := PW X e (RT B W f)
theorem PW.mono {t t' : TT} (h : PW X e t) (m : ∀ σ H Q, t' σ H Q → t σ H Q) : PW X e t' := ⟨fun whole pins s σ H Q I r => h.run whole pins s σ H Q I (m _ _ _ r)⟩
theorem pwd_and1 (ha : PTD X B W a ta) : PWD X B W (.BoolOp .And [a] pos) ta := pw_and1 ha
theorem pwd_or1 (ha : PTD X B W a ta) : PWD X B W (.BoolOp .Or [a] pos) ta := pw_or1 ha
theorem pwd_and (ha : PTD X B W a ta) (hb : PWD X B W (.BoolOp .And (b :: rest) pos) tb) : PWD X B W (.BoolOp .And (a :: b :: rest) pos) (tvAnd ta tb) := by
 refine PW.mono (pw_and ha hb) fun σ H Q ⟨ρ, st, rel, res⟩ => ?_
 refine RT.go rel (Res.bind res) fun k st1 ρ1 H1 s1 r1 => ?_
 cases k with
 | true => exact ⟨ρ1, st1, s1.rel, r1⟩
 | false => exact Res.now s1.rel r1
theorem pwd_or (ha : PTD X B W a ta) (hb : PWD X B W (.BoolOp .Or (b :: rest) pos) tb) : PWD X B W (.BoolOp .Or (a :: b :: rest) pos) (tvOr ta tb) := by
 refine PW.mono (pw_or ha hb) fun σ H Q ⟨ρ, st, rel, res⟩ => ?_
 refine RT.go rel (Res.bind res) fun k st1 ρ1 H1 s1 r1 => ?_
 cases k with
 | false => exact ⟨ρ1, st1, s1.rel, r1⟩
 | true => exact Res.now s1.rel r1
theorem PWD.pt (h : PWD X B W e ta) : PTD X B W e ta := L2.PW.pt h
theorem ptd_not (ha : PTD X B W a ta) : PTD X B W (.UnaryOp .Not a pos) (tvNot ta) := by
 refine PT.mono (pt_not ha) fun σ H Q ⟨ρ, st, rel, res⟩ => ?_
 exact RT.go rel (Res.bind res) fun k st1 ρ1 H1 s1 r1 => Res.now s1.rel r1
def evAnd (fa fb : Ev) : Ev := fun st => (fa st).bind fun a st1 => match truD a.1 with
 | some true => fb st1
 | some false => .ok a st1
 | none => .stuck
def evOr (fa fb : Ev) : Ev := fun st => (fa st).bind fun a st1 => match truD a.1 with
 | some true => .ok a st1
 | some false => fb st1
 | none => .stuck
def evNot (fa : Ev) : Ev := fun st => (fa st).bind fun a st1 => match truD a.1 with
 | some k => .ok (.bl (!k), .new) st1
 | none => .stuck
theorem GE.dm {σ : L2.St} {H H1 : Hp} {Q : VK} (dm : ∀ a, H a ≠ none → H1 a ≠ none) : ∀ a st ρ H', GE B σ H Q a st ρ H' → GE B σ H1 Q a st ρ H' := fun a st ρ H' q v r f => q v r (f.dm dm)
theorem pd_and (hC : B.C.K = X.K) (ha : PD X B W a fa) (hb : PD X B W (.BoolOp .And (b :: rest) pos) fb) : PD X B W (.BoolOp .And (a :: b :: rest) pos) (evAnd fa fb) := by
 refine PE.mono (pe_andT ha hb) fun σ H Q ⟨ρ, st, rel, res⟩ => ?_
 refine RD.go rel (Res.bind res) fun a st1 ρ1 H1 s1 r1 x rx fx => ?_
 cases e : truD a.1 with
 | none => rw [e] at r1; exact r1.elim
 | some k =>
  refine ⟨k, by rw [← hC]; exact truD_of rx e, ?_⟩
  rw [e] at r1
  cases k with
  | true => exact ⟨ρ1, st1, s1.rel, r1.imp fun _ _ _ _ _ => GE.dm s1.dm _ _ _ _⟩
  | false => exact Res.now s1.rel r1 x rx fx
theorem pd_or (hC : B.C.K = X.K) (ha : PD X B W a fa) (hb : PD X B W (.BoolOp .Or (b :: rest) pos) fb) : PD X B W (.BoolOp .Or (a :: b :: rest) pos) (evOr fa fb) := by
 refine PE.mono (pe_orT ha hb) fun σ H Q ⟨ρ, st, rel, res⟩ => ?_
 refine RD.go rel (Res.bind res) fun a st1 ρ1 H1 s1 r1 x rx fx => ?_
 cases e : truD a.1 with
 | none => rw [e] at r1; exact r1.elim
 | some k =>
  refine ⟨k, by rw [← hC]; exact truD_of rx e, ?_⟩
  rw [e] at r1
  cases k with
  | false => exact ⟨ρ1, st1, s1.rel, r1.imp fun _ _ _ _ _ => GE.dm s1.dm _ _ _ _⟩
  | true => exact Res.now s1.rel r1 x rx fx
theorem pd_one {op : BoolOp} (ha : PD X B W a fa) : PD X B W (.BoolOp op [a] pos) fa := pe_one ha
theorem pd_not (hC : B.C.K = X.K) (ha : PD X B W a fa) : PD X B W (.UnaryOp .Not a pos) (evNot fa) := by
 refine PE.mono (pe_notT ha) fun σ H Q ⟨ρ, st, rel, res⟩ => ?_
 refine RD.go rel (Res.bind res) fun a st1 ρ1 H1 s1 r1 x rx fx => ?_
 cases e : truD a.1 with
 | none => rw [e] at r1; exact r1.elim
 | some k =>
  rw [e] at r1
  exact ⟨k, by rw [← hC]; exact truD_of rx e, Res.now s1.rel r1 _ (RepK.mkF (d := .bl (!k)) rfl) (fresh_flat (d := .bl (!k)) rfl)⟩
def evIf (t : Tv) (fa fb : Ev) : Ev := fun st => (t st).bind fun k st1 => if k = true then fa st1 else fb st1
theorem pd_ifExp (hc : PTD X B W c ta) (ha : PD X B W a fa) (hb : PD X B W b fb) : PD X B W (.IfExp c a b pos) (evIf ta fa fb) := by
 refine PE.mono (pe_ifExp hc ha hb) fun σ H Q ⟨ρ, st, rel, res⟩ => ?_
 refine RT.go rel (Res.bind res) fun k st1 ρ1 H1 s1 r1 => ?_
 cases k with
 | true => exact ⟨ρ1, st1, s1.rel, (show Res B W σ ρ1 st1 H1 (fa st1) _ from r1).imp fun _ _ _ _ _ => GE.dm s1.dm _ _ _ _⟩
 | false => exact ⟨ρ1, st1, s1.rel, (show Res B W σ ρ1 st1 H1 (fb st1) _ from r1).imp fun _ _ _ _ _ => GE.dm s1.dm _ _ _ _⟩
def evNeg (fa : Ev) : Ev := fun st => (fa st).bind fun a st1 => match a.1 with
 | .int i => .ok (.int (-i), .new) st1
 | _ => .stuck
theorem pd_neg (ha : PD X B W a fa) : PD X B W (.UnaryOp .USub a pos) (evNeg fa) := by
 refine PE.mono (pe_un un_neg ha) fun σ H Q ⟨ρ, st, rel, res⟩ => ?_
 refine RD.go rel (Res.bind res) fun a st1 ρ1 H1 s1 r1 x rx fx => ?_
 obtain ⟨d, kd⟩ := a
 cases d <;> try exact r1.elim
 rename_i i
 obtain rfl := rx.int
 exact ⟨i, rfl, Res.now s1.rel r1 _ (RepK.mkF (d := .int (-i)) rfl) (fresh_flat (d := .int (-i)) rfl)⟩
end
abbrev Av' := DS → Out (List DV)
def zqz : Av' := fun st => .ok [] st
def zqg (f : Ev) (g : Av') : Av' := fun st => (f st).bind fun a st1 => (g (st1.eat a.2)).bind fun ds st2 => .ok (a.1 :: ds) st2
def GA (B : BC) (σ : L2.St) (Q : List V → Hp → Prop) : List DV → DS → List CellA → Hp → Prop := fun ds st' ρ' H' => ∀ vs, RepL B.C ρ' (Av ρ' B.O st' σ) H' vs ds → Q vs H'
def RA (B : BC) (W : WX) (f : Av') : TA := fun σ H Q => ∃ ρ st, Rel B ρ st σ H ∧ Res B W σ ρ st H (f st) (GA B σ Q)
def PAD (X : Cx) (B : BC) (W : WX) (es : List Expr) (f : Av') : Prop := PA X es (RA B W f)
theorem RA.go {B : BC} {W : WX} {f : Av'} {σ : L2.St} {ρ : List CellA} {st : DS} {H : Hp} {G : List DV → DS → List CellA → Hp → Prop} {Q : List V → Hp → Prop} (rel : Rel B ρ st σ H) (r : Res B W σ ρ st H (f st) G)
 (h : ∀ ds st' ρ' H', Step B σ ρ st H ρ' st' H' → G ds st' ρ' H' → ∀ vs, RepL B.C ρ' (Av ρ' B.O st' σ) H' vs ds → Q vs H') : RA B W f σ H Q := ⟨ρ, st, rel, r.imp h⟩
section
variable {X : Cx} {B : BC} {W : WX} {e : Expr} {es : List Expr} {f : Ev} {g : Av'} {pos : Pos}
theorem Res.from {σ : L2.St} {ρ ρ1 : List CellA} {st st1 : DS} {H H1 : Hp} {α : Type} {o : Out α} {G : α → DS → List CellA → Hp → Prop} (s : Step B σ ρ st H ρ1 st1 H1) (r : Res B W σ ρ st H o G) : Res B W σ ρ1 st1 H1 o G := by
 cases o with
 | ok a st' => exact fun ρ' H' s2 => r ρ' H' (s.trans s2)
 | exc x st' => exact fun ρ' H' cls d s2 => r ρ' H' cls d (s.trans s2)
 | stuck => exact r
theorem pad_nil : PAD X B W [] zqz := PA.mono pa_nil fun σ H Q ⟨ρ, st, rel, res⟩ => Res.now rel res [] .nil
theorem pad_cons (he : PD X B W e f) (hr : PAD X B W es g) (hs : starEach (e :: es) X.env = (false, eval e X.env) :: starEach es X.env) : PAD X B W (e :: es) (zqg f g) := by
 refine PA.mono (pa_cons he hr hs) fun σ H Q ⟨ρ, st, rel, res⟩ => ?_
 refine RD.go rel (Res.bind res) fun a st1 ρ1 H1 s1 r1 x rx fx => ?_
 have s2 := Step.eat s1.rel a.2
 refine RA.go s2.rel (Res.bind (Res.from s2 r1)) fun ds st3 ρ3 H3 s3 r3 vs rv => ?_
 exact Res.now s3.rel r3 (x :: vs) (.cons (Rep.step s3 rx.eat) rv)
def zqF (g : Av') : Ev := fun st => (g st).bind fun ds st1 => if ds.length ≤ sizeLine then .ok (.lst ds, .new) st1 else .stuck
def evTup (g : Av') : Ev := fun st => (g st).bind fun ds st1 => if ds.length ≤ sizeLine then .ok (.tup ds, .new) st1 else .stuck
theorem pd_lst (h : PAD X B W es g) : PD X B W (.List es pos) (zqF g) := by
 refine PE.mono (pe_lst h) fun σ H Q ⟨ρ, st, rel, res⟩ => ?_
 refine RA.go rel (Res.bind res) fun ds st1 ρ1 H1 s1 r1 vs rv => ?_
 split at r1
 · rename_i hl
   refine ⟨by rw [rv.length]; exact hl, fun p hp => ?_⟩
   exact r1 _ _ (Step.alloc s1.rel hp) _ (RepK.newLst s1.rel hp rv) fun q e => by cases e; exact none_of_dm s1.dm hp
 · exact r1.elim
theorem pd_tup {k : Nat} (h : PAD X B W es g) : PD X B W (.Tuple es k pos) (evTup g) := by
 refine PE.mono (pe_tup h) fun σ H Q ⟨ρ, st, rel, res⟩ => ?_
 refine RA.go rel (Res.bind res) fun ds st1 ρ1 H1 s1 r1 vs rv => ?_
 split at r1
 · rename_i hl
   refine ⟨by rw [rv.length]; exact hl, fun p hp => ?_⟩
   exact r1 _ _ (Step.alloc s1.rel hp) _ (RepK.newTup s1.rel hp rv) fun q e => by cases e; exact none_of_dm s1.dm hp
 · exact r1.elim
end
end D
namespace D
open PySem L2 PyProof.Rows
def dctGet : List Key → List DV → Key → Option DV
 | k :: ks, d :: ds, j => if k = j then some d else dctGet ks ds j
 | _, _, _ => none
def ixD : DV → DV → Option DV
 | .lst ds, .int i => atI ds i
 | .tup ds, .int i => atI ds i
 | .bor ds, .int i => atI ds i
 | .fdc ks ds, .int i => dctGet ks ds (.inl i)
 | .fdc ks ds, .str s => dctGet ks ds (.inr s)
 | .str z, .int i => if z.length ≤ sizeLine then (atI z.cps.toList i).map fun c => .str ⟨#[c]⟩ else none
 | .dct ks ds, .int i => dctGet ks ds (.inl i)
 | .dct ks ds, .str s => dctGet ks ds (.inr s)
 | _, _ => none
def dIx : Op2 := fun a b => (ixD a b).map fun d => (d, .fro)
def rIxDct : R2 := fun x y H Q => ∃ a v, x = .ref a ∧ DGet H a y (some v) ∧ Q v H
theorem ix_dct {X : Cx} (hu : X.A.units + 1 < cLine) : IxR X rIxDct := by
 intro value slice pins s σ H x y v u Q I rx ry h hs
 obtain ⟨a, w, rfl, g, q⟩ := h
 obtain rfl : v = Value.ref a := rx
 exact tail_any (dict_typeIs I g) slot_dict_getitem.lookup (d_getItem hu I g ry fun w' s' I' r => ⟨w, H, I', r, q⟩) hs
def rIxAll (K : PySem.W.Frag) : R2 := fun x y H Q => rIxL K x y H Q ∨ (rIxT K x y H Q ∨ (rIxS x y H Q ∨ rIxDct x y H Q))
theorem ixr_all {X : Cx} (hu : X.A.units + 1 < cLine) : IxR X (rIxAll X.K) := IxR.or ix_list (IxR.or ix_tup (IxR.or ix_str (ix_dct hu)))
theorem atI_rep {C : RC} {ρ : List CellA} {A : Addr → Prop} {H : Hp} {vs : List V} {ds : List DV} {i : Int} {d : DV} (r : RepL C ρ A H vs ds) (h : atI ds i = some d) : ∃ v, atI vs i = some v ∧ Rep C ρ A H v d := by
 unfold atI at h ⊢
 rw [r.length]
 cases e : ixN ds.length i with
 | none => rw [e] at h; cases h
 | some j =>
  rw [e, Option.bind_some] at h
  obtain ⟨v, h1, h2⟩ := r.get h
  exact ⟨v, by rw [Option.bind_some]; exact h1, h2⟩
theorem dctGet_rep {C : RC} {ρ : List CellA} {A : Addr → Prop} {H : Hp} {j : Key} {d : DV} : ∀ {ks : List Key} {vs : List V} {ds : List DV}, ks.length = vs.length → RepL C ρ A H vs ds → dctGet ks ds j = some d →
 ∃ v, valV (ks.zip vs) j = some v ∧ Rep C ρ A H v d
 | [], _, _, _, _, h => by cases h
 | k :: ks, _, _, hl, .nil, h => by cases hl
 | k :: ks, v :: vs, d' :: ds, hl, .cons r t, h => by
  unfold dctGet at h
  rw [List.zip_cons_cons]
  by_cases e : k = j
  · rw [if_pos e] at h
    cases h
    exact ⟨v, valV_pos e, r⟩
  · rw [if_neg e] at h
    obtain ⟨w, h1, h2⟩ := dctGet_rep (by simpa using hl) t h
    exact ⟨w, by rw [valV_neg e]; exact h1, h2⟩
theorem fro_of {B : BC} {σ : L2.St} {ρ : List CellA} {st : DS} {H : Hp} {Q : VK} {d : DV} {v : V} (rel : Rel B ρ st σ H) (r : Rep B.C ρ (Av ρ B.O st σ) H v d)
 (q : ∀ v H', Step B σ ρ st H ρ st H' → RepK B ρ st σ H' .fro v d → Fresh H .fro v → Q v H') : Q v H := q v H (.refl rel) r trivial
theorem ops_ix {C : RC} : OpS C (rIxAll C.K) dIx := by
 intro B hB σ ρ st H ka kb x y a b c Q rel rx ry e q
 subst hB
 unfold dIx at e
 cases h : ixD a b with
 | none => rw [h] at e; cases e
 | some d =>
  rw [h] at e
  cases e
  cases a <;> try (cases h; done)
  · rename_i z
    cases b <;> try (cases h; done)
    rename_i i
    simp only [ixD] at h
    split at h
    · rename_i hz
      cases h2 : atI z.cps.toList i with
      | none => rw [h2] at h; cases h
      | some c =>
       rw [h2] at h
       cases h
       obtain rfl := rx.str
       obtain rfl := ry.int
       exact .inr (.inr (.inl ⟨z, i, c, rfl, rfl, hz, h2, fro_of rel (.str _) q⟩))
    · cases h
  · rename_i ds
    cases b <;> try (cases h; done)
    rename_i i
    obtain ⟨p, vs, rfl, e1, r1⟩ := rx.lst
    obtain rfl := ry.int
    obtain ⟨v, h1, h2⟩ := atI_rep r1 h
    exact .inl ⟨p, vs, i, v, rfl, rfl, .inl (.inl e1), h1, fro_of rel h2 q⟩
  · rename_i ds
    cases b <;> try (cases h; done)
    rename_i i
    obtain ⟨p, vs, rfl, e1, r1⟩ := rx.tup
    obtain rfl := ry.int
    obtain ⟨v, h1, h2⟩ := atI_rep r1 h
    exact .inr (.inl ⟨p, vs, i, v, rfl, rfl, e1, h1, fro_of rel h2 q⟩)
  · rename_i ks ds
    cases b <;> try (cases h; done)
    · rename_i i
      obtain ⟨p, vs, rfl, e1, hl, r1⟩ := rx.dct
      obtain rfl := ry.int
      obtain ⟨v, h1, h2⟩ := dctGet_rep hl r1 h
      exact .inr (.inr (.inr ⟨p, v, rfl, by rw [← h1]; exact DGet.k (k := .inl i) e1, fro_of rel h2 q⟩))
    · rename_i s
      obtain ⟨p, vs, rfl, e1, hl, r1⟩ := rx.dct
      obtain rfl := ry.str
      obtain ⟨v, h1, h2⟩ := dctGet_rep hl r1 h
      exact .inr (.inr (.inr ⟨p, v, rfl, by rw [← h1]; exact DGet.k (k := .inr s) e1, fro_of rel h2 q⟩))
  · rename_i ks ds
    cases b <;> try (cases h; done)
    · rename_i i
      obtain ⟨p, o, vs, rfl, e1, hl, r1⟩ := rx.fdc
      obtain rfl := ry.int
      obtain ⟨v, h1, h2⟩ := dctGet_rep hl r1 h
      exact .inr (.inr (.inr ⟨p, v, rfl, by rw [← h1]; exact .inl ⟨_, .inl i, .inr ⟨o, e1⟩, rfl, rfl⟩, fro_of rel h2 q⟩))
    · rename_i s
      obtain ⟨p, o, vs, rfl, e1, hl, r1⟩ := rx.fdc
      obtain rfl := ry.str
      obtain ⟨v, h1, h2⟩ := dctGet_rep hl r1 h
      exact .inr (.inr (.inr ⟨p, v, rfl, by rw [← h1]; exact .inl ⟨_, .inr s, .inr ⟨o, e1⟩, rfl, rfl⟩, fro_of rel h2 q⟩))
  · rename_i ds
    cases b <;> try (cases h; done)
    rename_i i
    obtain ⟨p, o, vs, rfl, e1, r1⟩ := rx.bor
    obtain rfl := ry.int
    obtain ⟨v, h1, h2⟩ := atI_rep r1 h
    exact .inl ⟨p, vs, i, v, rfl, rfl, .inl (.inr ⟨o, e1⟩), h1, fro_of rel h2 q⟩
section
variable {X : Cx} {B : BC} {W : WX} {a b e : Expr} {fa fb f : Ev} {pos : Pos}
theorem pd_ix (hC : B.C.K = X.K) (hu : X.A.units + 1 < cLine) (ha : PD X B W a fa) (hb : PD X B W b fb) (hs : PlainIx b) : PD X B W (.Subscript a b pos) (zqk dIx fa fb) :=
 PE.mono (pe_ix (ixr_all hu) ha hb hs) fun _ _ _ h => tOp_of (by rw [← hC]; exact ops_ix) h
end
def cutL {α : Type} (xs : List α) (lo hi : Option Int) : List α := (xs.drop (HT.sIx xs.length 0 lo)).take (HT.sIx xs.length xs.length hi - HT.sIx xs.length 0 lo)
theorem RepL.cut {C : RC} {ρ : List CellA} {A : Addr → Prop} {H : Hp} {vs : List V} {ds : List DV} (lo hi : Option Int) (r : RepL C ρ A H vs ds) : RepL C ρ A H (cutV vs lo hi) (cutL ds lo hi) := by
 unfold cutV cutL
 rw [r.length]
 exact (r.drop _).take _
def dSl (a : DV) (lo hi : Option Int) : Option (DV × Kd) := match a with
 | .lst ds => some (.lst (cutL ds lo hi), .new)
 | .tup ds => some (.tup (cutL ds lo hi), .fro)
 | .bor ds => some (.lst (cutL ds lo hi), .new)
 | .str z => if z.length ≤ sizeLine then some (.str (cutS z lo hi), .new) else none
 | _ => none
abbrev Pv := DS → Out (Option Int)
def pvNone : Pv := fun st => .ok none st
def pvSome (f : Ev) : Pv := fun st => (f st).bind fun a st1 => match a.1 with
 | .int i => .ok (some i) st1
 | _ => .stuck
def GO (Q : Option Int → Hp → Prop) : Option Int → DS → List CellA → Hp → Prop := fun o _ _ H' => Q o H'
def RO (B : BC) (W : WX) (f : Pv) : TO := fun σ H Q => ∃ ρ st, Rel B ρ st σ H ∧ Res B W σ ρ st H (f st) (GO Q)
def POD (X : Cx) (B : BC) (W : WX) (e : Option Expr) (f : Pv) : Prop := PO X e (RO B W f)
theorem PO.mono {X : Cx} {e : Option Expr} {t t' : TO} (h : PO X e t) (m : ∀ σ H Q, t' σ H Q → t σ H Q) : PO X e t' := ⟨fun pins s σ H Q I r => h.run pins s σ H Q I (m _ _ _ r)⟩
theorem RO.go {B : BC} {W : WX} {f : Pv} {σ : L2.St} {ρ : List CellA} {st : DS} {H : Hp} {G : Option Int → DS → List CellA → Hp → Prop} {Q : Option Int → Hp → Prop} (rel : Rel B ρ st σ H) (r : Res B W σ ρ st H (f st) G)
 (h : ∀ o st' ρ' H', Step B σ ρ st H ρ' st' H' → G o st' ρ' H' → Q o H') : RO B W f σ H Q := ⟨ρ, st, rel, r.imp h⟩
def evSl (fa : Ev) (lo hi : Pv) : Ev := fun st => (fa st).bind fun a st1 => (lo st1).bind fun l st2 => (hi st2).bind fun u st3 => match dSl a.1 l u with
 | some r => .ok r st3
 | none => .stuck
section
variable {X : Cx} {B : BC} {W : WX} {a b e : Expr} {lo hi : Option Expr} {fa fb f : Ev} {fl fh : Pv} {pos p2 : Pos}
theorem pod_none : POD X B W none pvNone := PO.mono po_none fun σ H Q ⟨ρ, st, rel, res⟩ => Res.now rel res
theorem pod_some (h : PD X B W e f) : POD X B W (some e) (pvSome f) := by
 refine PO.mono (po_some h) fun σ H Q ⟨ρ, st, rel, res⟩ => ?_
 refine RD.go rel (Res.bind res) fun a st1 ρ1 H1 s1 r1 x rx fx => ?_
 obtain ⟨d, kd⟩ := a
 cases d <;> try exact r1.elim
 obtain rfl := rx.int
 exact ⟨_, rfl, Res.now s1.rel r1⟩
def rSlAll (K : PySem.W.Frag) : V → Option Int → Option Int → Hp → VK → Prop := fun x lo hi H Q => (∃ a xs, x = .ref a ∧ SqL K H a xs ∧ ∀ p, H p = none → Q (.ref p) (upd H p (.lst (cutV xs lo hi)))) ∨ (rSlA K x lo hi H Q ∨ rSlS x lo hi H Q)
theorem slr_all : SlR X (rSlAll X.K) := SlR.or sl_list (SlR.or sl_tupA sl_str)
theorem cut_whole {α : Type} {xs : List α} {lo hi : Option Int} (h1 : HT.sIx xs.length 0 lo = 0) (h2 : HT.sIx xs.length xs.length hi = xs.length) : cutL xs lo hi = xs := by
 unfold cutL
 rw [h1, h2, List.drop_zero, Nat.sub_zero, List.take_length]
theorem pd_slice (hC : B.C.K = X.K) (ha : PD X B W a fa) (hl : POD X B W lo fl) (hh : POD X B W hi fh) : PD X B W (.Subscript a (.Slice lo hi none p2) pos) (evSl fa fl fh) := by
 refine PE.mono (pe_slice slr_all ha hl hh) fun σ H Q ⟨ρ, st, rel, res⟩ => ?_
 refine RD.go rel (Res.bind res) fun a st1 ρ1 H1 s1 r1 x rx fx => ?_
 refine RO.go s1.rel (Res.bind r1) fun l st2 ρ2 H2 s2 r2 => ?_
 refine RO.go s2.rel (Res.bind r2) fun u st3 ρ3 H3 s3 r3 => ?_
 have s13 := s2.trans s3
 have rx3 := RepK.step s13 rx
 have s03 := s1.trans s13
 rw [← hC]
 obtain ⟨d, kd⟩ := a
 dsimp only at rx3 r3
 cases e : dSl d l u with
 | none => rw [e] at r3; exact r3.elim
 | some c =>
  rw [e] at r3
  cases d <;> try (cases e; done)
  · rename_i z
    simp only [dSl] at e
    split at e
    · rename_i hz
      cases e
      obtain rfl := rx3.str
      exact .inr (.inr ⟨z, rfl, hz, Res.now s3.rel r3 _ (RepK.mkF (d := .str (cutS z l u)) rfl) (fresh_flat (d := .str (cutS z l u)) rfl)⟩)
    · cases e
  · rename_i ds
    cases e
    obtain ⟨p, vs, rfl, e1, rl⟩ := rx3.lst
    refine .inl ⟨p, vs, rfl, .inl (.inl e1), fun n hn => ?_⟩
    exact r3 _ _ (Step.alloc s3.rel hn) _ (RepK.newLst s3.rel hn (rl.cut l u)) fun q e => by cases e; exact none_of_dm s03.dm hn
  · rename_i ds
    cases e
    have wx := Rep.ofSqt (C := B.C) (A := Av ρ3 B.O st3 σ) rx3
    obtain ⟨p, vs, rfl, e1, rl⟩ := rx3.tup
    refine .inr (.inl ⟨p, vs, rfl, e1, fun hw => ?_, fun hw n hn => ?_⟩)
    · rw [rl.length] at hw
      rw [cut_whole hw.1 hw.2] at r3
      exact Res.now s3.rel r3 _ wx trivial
    · exact r3 _ _ (Step.alloc s3.rel hn) _ (Rep.newTup s3.rel hn (rl.cut l u)) trivial
  · rename_i ds
    cases e
    obtain ⟨p, o, vs, rfl, e1, rl⟩ := rx3.bor
    refine .inl ⟨p, vs, rfl, .inl (.inr ⟨o, e1⟩), fun n hn => ?_⟩
    exact r3 _ _ (Step.alloc s3.rel hn) _ (RepK.newLst s3.rel hn (rl.cut l u)) fun q e => by cases e; exact none_of_dm s03.dm hn
end
section
variable {prog : Program} {w : World} {A : Around} {E : Value → Shared → Prop} {s : Shared}
end
section
variable {X : Cx} {B : BC} {W : WX}
def evRev (fa : Ev) : Ev := fun st => (fa st).bind fun a st1 => match a.1 with
 | .lst ds => .ok (.lst ds.reverse, .new) st1
 | .tup ds => .ok (.tup ds.reverse, .fro) st1
 | _ => .stuck
end
def fldGet : List Str → List DV → Str → Option DV
 | k :: ks, d :: ds, j => if k = j then some d else fldGet ks ds j
 | _, _, _ => none
theorem fldGet_rep {C : RC} {ρ : List CellA} {A : Addr → Prop} {H : Hp} {j : Str} {d : DV} : ∀ {ks : List Str} {vs : List V} {ds : List DV}, ks.length = vs.length → RepL C ρ A H vs ds → fldGet ks ds j = some d →
 ∃ v, (ks.zip vs).lookup j = some v ∧ Rep C ρ A H v d
 | [], _, _, _, _, h => by cases h
 | k :: ks, _, _, hl, .nil, h => by cases hl
 | k :: ks, v :: vs, d' :: ds, hl, .cons r t, h => by
  unfold fldGet at h
  rw [List.zip_cons_cons, List.lookup_cons]
  by_cases e : k = j
  · rw [if_pos e] at h
    cases h
    exact ⟨v, by rw [e, beq_self_eq_true], r⟩
  · rw [if_neg e] at h
    obtain ⟨w, h1, h2⟩ := fldGet_rep (by simpa using hl) t h
    refine ⟨w, ?_, h2⟩
    rw [show (j == k) = false from beq_eq_false_iff_ne.mpr fun z => e z.symm]
    exact h1
end D
namespace D
open PySem L2 PyProof.Rows
abbrev Ak := DS → Out (List (DV × Kd))
def zqh : Ak := fun st => .ok [] st
def zqa (f : Ev) (g : Ak) : Ak := fun st => (f st).bind fun a st1 => (g st1).bind fun as st2 => .ok (a :: as) st2
inductive RepKs (B : BC) (ρ : List CellA) (st : DS) (σ : L2.St) (H : Hp) : List V → List (DV × Kd) → Prop where
 | nil : RepKs B ρ st σ H [] []
 | cons {v : V} {vs : List V} {a : DV × Kd} {as : List (DV × Kd)} : RepK B ρ st σ H a.2 v a.1 → RepKs B ρ st σ H vs as → RepKs B ρ st σ H (v :: vs) (a :: as)
def GK (B : BC) (σ : L2.St) (Q : List V → Hp → Prop) : List (DV × Kd) → DS → List CellA → Hp → Prop := fun as st' ρ' H' => ∀ vs, RepKs B ρ' st' σ H' vs as → Q vs H'
def RK (B : BC) (W : WX) (f : Ak) : TA := fun σ H Q => ∃ ρ st, Rel B ρ st σ H ∧ Res B W σ ρ st H (f st) (GK B σ Q)
def PKD (X : Cx) (B : BC) (W : WX) (es : List Expr) (f : Ak) : Prop := PA X es (RK B W f)
section
variable {X : Cx} {B : BC} {W : WX} {e : Expr} {es : List Expr} {f : Ev} {g : Ak} {pos : Pos}
theorem RK.go {σ : L2.St} {ρ : List CellA} {st : DS} {H : Hp} {G : List (DV × Kd) → DS → List CellA → Hp → Prop} {Q : List V → Hp → Prop} (rel : Rel B ρ st σ H) (r : Res B W σ ρ st H (g st) G)
 (h : ∀ as st' ρ' H', Step B σ ρ st H ρ' st' H' → G as st' ρ' H' → ∀ vs, RepKs B ρ' st' σ H' vs as → Q vs H') : RK B W g σ H Q := ⟨ρ, st, rel, r.imp h⟩
theorem zqb : PKD X B W [] zqh := PA.mono pa_nil fun σ H Q ⟨ρ, st, rel, res⟩ => Res.now rel res [] .nil
theorem pkd_cons (he : PD X B W e f) (hr : PKD X B W es g) (hs : starEach (e :: es) X.env = (false, eval e X.env) :: starEach es X.env) : PKD X B W (e :: es) (zqa f g) := by
 refine PA.mono (pa_cons he hr hs) fun σ H Q ⟨ρ, st, rel, res⟩ => ?_
 refine RD.go rel (Res.bind res) fun a st1 ρ1 H1 s1 r1 x rx fx => ?_
 refine RK.go s1.rel (Res.bind r1) fun as st3 ρ3 H3 s3 r3 vs rv => ?_
 exact Res.now s3.rel r3 (x :: vs) (.cons (RepK.step s3 rx) rv)
end
abbrev OpN := List DV → Option (DV × Kd)
def CallS (C : RC) (r : List V → Hp → VK → Prop) (f : OpN) : Prop := ∀ (B : BC), B.C = C → ∀ (σ : L2.St) (ρ : List CellA) (st : DS) (H : Hp) (xs : List V) (as : List (DV × Kd)) (c : DV × Kd) (Q : VK), Rel B ρ st σ H → RepKs B ρ st σ H xs as → f (as.map (·.1)) = some c →
 (∀ v H', Step B σ ρ st H ρ st H' → RepK B ρ st σ H' c.2 v c.1 → Fresh H c.2 v → Q v H') → r xs H Q
theorem CallS.or {C : RC} {r r' : List V → Hp → VK → Prop} {f g k : OpN} (h : CallS C r f) (h' : CallS C r' g) (e : ∀ as c, k as = some c → f as = some c ∨ g as = some c) : CallS C (fun xs H Q => r xs H Q ∨ r' xs H Q) k := by
 intro B hB σ ρ st H xs as c Q rel rx e1 q
 rcases e _ c e1 with e2 | e2
 · exact .inl (h B hB σ ρ st H xs as c Q rel rx e2 q)
 · exact .inr (h' B hB σ ρ st H xs as c Q rel rx e2 q)
theorem one_of {B : BC} {ρ : List CellA} {st : DS} {σ : L2.St} {H : Hp} {xs : List V} {as : List (DV × Kd)} {d : DV} (r : RepKs B ρ st σ H xs as) (e : as.map (·.1) = [d]) : ∃ v kd, xs = [v] ∧ RepK B ρ st σ H kd v d := by
 cases r with
 | nil => cases e
 | @cons v vs a as h t =>
  cases t with
  | nil => rw [List.map_cons, List.map_nil, List.cons.injEq] at e; obtain ⟨rfl, _⟩ := e; exact ⟨v, _, rfl, h⟩
  | cons h2 t => cases e
theorem two_of {B : BC} {ρ : List CellA} {st : DS} {σ : L2.St} {H : Hp} {xs : List V} {as : List (DV × Kd)} {d d' : DV} (r : RepKs B ρ st σ H xs as) (e : as.map (·.1) = [d, d']) : ∃ v w kd kd', xs = [v, w] ∧ RepK B ρ st σ H kd v d ∧ RepK B ρ st σ H kd' w d' := by
 cases r with
 | nil => cases e
 | @cons v vs a as h t =>
  cases t with
  | nil => cases e
  | @cons v2 vs a2 as h2 t =>
   cases t with
   | nil =>
    rw [List.map_cons, List.map_cons, List.map_nil, List.cons.injEq, List.cons.injEq] at e
    obtain ⟨rfl, rfl, _⟩ := e
    exact ⟨v, v2, _, _, rfl, h, h2⟩
   | cons h3 t => cases e
def f1 (g : DV → Option (DV × Kd)) : OpN
 | [a] => g a
 | _ => none
theorem calls1 {C : RC} {r : V → Hp → VK → Prop} {g : DV → Option (DV × Kd)} (h : ∀ (B : BC), B.C = C → ∀ (σ : L2.St) (ρ : List CellA) (st : DS) (H : Hp) (ka : Kd) (x : V) (a : DV) (c : DV × Kd) (Q : VK), Rel B ρ st σ H → RepK B ρ st σ H ka x a → g a = some c →
 (∀ v H', Step B σ ρ st H ρ st H' → RepK B ρ st σ H' c.2 v c.1 → Fresh H c.2 v → Q v H') → r x H Q) : CallS C (fun xs H Q => ∃ x, xs = [x] ∧ r x H Q) (f1 g) := by
 intro B hB σ ρ st H xs as c Q rel rx e q
 cases e1 : as.map (·.1) with
 | nil => rw [e1] at e; cases e
 | cons d ds =>
  cases ds with
  | cons d' ds => rw [e1] at e; cases e
  | nil =>
   rw [e1] at e
   obtain ⟨v, kd, rfl, rv⟩ := one_of rx e1
   exact ⟨v, rfl, h B hB σ ρ st H kd v d c Q rel rv e q⟩
def f2 (g : DV → DV → Option (DV × Kd)) : OpN
 | [a, b] => g a b
 | _ => none
theorem calls2 {C : RC} {r : V → V → Hp → VK → Prop} {g : DV → DV → Option (DV × Kd)} (h : ∀ (B : BC), B.C = C → ∀ (σ : L2.St) (ρ : List CellA) (st : DS) (H : Hp) (ka kb : Kd) (x y : V) (a b : DV) (c : DV × Kd) (Q : VK), Rel B ρ st σ H → RepK B ρ st σ H ka x a → RepK B ρ st σ H kb y b → g a b = some c →
 (∀ v H', Step B σ ρ st H ρ st H' → RepK B ρ st σ H' c.2 v c.1 → Fresh H c.2 v → Q v H') → r x y H Q) : CallS C (fun xs H Q => ∃ x y, xs = [x, y] ∧ r x y H Q) (f2 g) := by
 intro B hB σ ρ st H xs as c Q rel rx e q
 cases e1 : as.map (·.1) with
 | nil => rw [e1] at e; cases e
 | cons d ds =>
  cases ds with
  | nil => rw [e1] at e; cases e
  | cons d' ds =>
   cases ds with
   | cons d'' ds => rw [e1] at e; cases e
   | nil =>
    rw [e1] at e
    obtain ⟨v, w, kd, kd', rfl, rv, rw'⟩ := two_of rx e1
    exact ⟨v, w, rfl, h B hB σ ρ st H kd kd' v w d d' c Q rel rv rw' e q⟩
def zqp (f : OpN) (g : Ak) : Ev := fun st => (g st).bind fun as st1 => match f (as.map (·.1)) with
 | some c => .ok c st1
 | none => .stuck
theorem tCB_of {B : BC} {W : WX} {r : List V → Hp → VK → Prop} {f : OpN} {g : Ak} (hs : CallS B.C r f) {σ : L2.St} {H : Hp} {Q : VK} (h : RD B W (zqp f g) σ H Q) : tCB r (RK B W g) σ H Q := by
 obtain ⟨ρ, st, rel, res⟩ := h
 refine RK.go rel (Res.bind res) fun as st1 ρ1 H1 s1 r1 xs rx => ?_
 cases e : f (as.map (·.1)) with
 | none => rw [e] at r1; exact r1.elim
 | some c =>
  rw [e] at r1
  exact hs B rfl σ ρ1 st1 H1 xs as c Q s1.rel rx e fun v H' s3 rv fv => r1 _ _ s3 v rv (fv.dm s1.dm)
inductive Blt where
 | len | abs | ord | isinstance | all | any | sum | max | min | repr | int | bool | str | list | tuple
 deriving DecidableEq
def Blt.name : Blt → String
 | .len => "len" | .abs => "abs" | .ord => "ord" | .isinstance => "isinstance" | .all => "all" | .any => "any" | .sum => "sum" | .max => "max" | .min => "min" | .repr => "repr"
 | .int => "int" | .bool => "bool" | .str => "str" | .list => "list" | .tuple => "tuple"
def Blt.isTy : Blt → Bool
 | .int => true | .bool => true | .str => true | .list => true | .tuple => true | _ => false
def Blt.val (b : Blt) : Value := if b.isTy then .type b.name else .builtin b.name
theorem Blt.boot (b : Blt) : bootBuiltins b.name = some b.val := by
 cases b
 · exact PySem.boot_len
 · exact boot_abs
 · exact boot_ord
 · exact boot_isinstance
 · decide +kernel
 · decide +kernel
 · decide +kernel
 · decide +kernel
 · decide +kernel
 · exact boot_repr
 · exact boot_int
 · exact boot_bool
 · exact boot_str
 · exact boot_list
 · exact boot_tuple
theorem Blt.nn (b : Blt) : ((b.name : String) : Str) ≠ "__name__" := by cases b <;> decide +kernel
theorem Blt.nd (b : Blt) : (((b.name : String) : Str) == ("__debug__" : Str)) = false := by cases b <;> decide +kernel
def lenD : DV → Option (DV × Kd)
 | .lst ds => some (.int ds.length, .new)
 | .tup ds => some (.int ds.length, .new)
 | .str s => if s.length ≤ sizeLine then some (.int s.length, .new) else none
 | .dct ks _ => some (.int ks.length, .new)
 | .scr ns => some (.int ns.length, .new)
 | .bor ds => some (.int ds.length, .new)
 | _ => none
theorem RepK.scr {B : BC} {σ : L2.St} {ρ : List CellA} {st : DS} {H : Hp} {kd : Kd} {v : V} {ns : List Int} (r : RepK B ρ st σ H kd v (.scr ns)) : ∃ p, v = .ref p ∧ SqL B.C.K H p (ns.map V.int) := by
 have key : ∀ {A : Addr → Prop}, Rep B.C ρ A H v (.scr ns) → ∃ p, v = .ref p ∧ SqL B.C.K H p (ns.map V.int) := fun r => by
  cases r with
  | scr n e => exact ⟨_, rfl, .inl (.inr ⟨_, e⟩)⟩
  | kscr k => exact ⟨_, rfl, .inr k⟩
 cases kd with
 | view i => obtain ⟨p, rfl, _, c, _⟩ := r; exact (show False from c).elim
 | fro => exact key r
 | new => exact key r.1
theorem s_len {C : RC} : CallS C (fun xs H Q => (∃ x n, xs = [x] ∧ LenV C.K x H n ∧ Q (.int n) H) ∨ ∃ a kvs, xs = [V.ref a] ∧ H a = some (.dK kvs) ∧ Q (.int kvs.length) H) (f1 lenD) := by
 have h := calls1 (C := C) (r := fun x H Q => (∃ n, LenV C.K x H n ∧ Q (.int n) H) ∨ ∃ a kvs, x = V.ref a ∧ H a = some (.dK kvs) ∧ Q (.int kvs.length) H) (g := lenD) ?_
 · intro B hB σ ρ st H xs as c Q rel rx e q
   obtain ⟨x, rfl, h | ⟨a, kvs, rfl, h⟩⟩ := h B hB σ ρ st H xs as c Q rel rx e q
   · obtain ⟨n, h⟩ := h
     exact .inl ⟨x, n, rfl, h⟩
   · exact .inr ⟨a, kvs, rfl, h⟩
 · intro B hB σ ρ st H ka x a c Q rel rx e q
   subst hB
   cases a <;> try (cases e; done)
   · rename_i s
     simp only [lenD] at e
     split at e
     · rename_i hs
       cases e
       obtain rfl := rx.str
       exact .inl ⟨s.length, ⟨hs, rfl⟩, ansF (d := .int s.length) rfl rel q⟩
     · cases e
   · rename_i ds
     cases e
     obtain ⟨p, vs, rfl, e1, r1⟩ := rx.lst
     exact .inl ⟨ds.length, .inl ⟨vs, .inl (.inl e1), r1.length.symm⟩, ansF (d := .int ds.length) rfl rel q⟩
   · rename_i ds
     cases e
     obtain ⟨p, vs, rfl, e1, r1⟩ := rx.tup
     exact .inl ⟨ds.length, .inr ⟨vs, e1, r1.length.symm⟩, ansF (d := .int ds.length) rfl rel q⟩
   rotate_left
   · rename_i ns
     cases e
     obtain ⟨p, rfl, e1⟩ := rx.scr
     exact .inl ⟨ns.length, .inl ⟨_, e1, by simp⟩, ansF (d := .int ns.length) rfl rel q⟩
   · rename_i ds
     cases e
     obtain ⟨p, o, xs, rfl, e1, r1⟩ := rx.bor
     exact .inl ⟨ds.length, .inl ⟨xs, .inl (.inr ⟨o, e1⟩), r1.length.symm⟩, ansF (d := .int ds.length) rfl rel q⟩
   · rename_i ks ds
     cases e
     obtain ⟨p, vs, rfl, e1, hl, r1⟩ := rx.dct
     refine .inr ⟨p, _, rfl, e1, ?_⟩
     rw [List.length_zip, ← hl, Nat.min_self]
     exact ansF (d := .int ks.length) rfl rel q
def absD : DV → Option (DV × Kd)
 | .int i => some (.int (if i < 0 then -i else i), .new)
 | _ => none
theorem s_abs {C : RC} : CallS C (fun xs H Q => ∃ i, xs = [.int i] ∧ Q (.int (if i < 0 then -i else i)) H) (f1 absD) := by
 have h := calls1 (C := C) (r := fun x H Q => ∃ i, x = .int i ∧ Q (.int (if i < 0 then -i else i)) H) (g := absD) ?_
 · intro B hB σ ρ st H xs as c Q rel rx e q
   obtain ⟨x, rfl, i, rfl, h⟩ := h B hB σ ρ st H xs as c Q rel rx e q
   exact ⟨i, rfl, h⟩
 · intro B hB σ ρ st H ka x a c Q rel rx e q
   cases a <;> try (cases e; done)
   rename_i i
   cases e
   obtain rfl := rx.int
   exact ⟨i, rfl, ansF (d := .int (if i < 0 then -i else i)) rfl rel q⟩
def ordD : DV → Option (DV × Kd)
 | .str x => if x.length = 1 then some (.int (x.cps.getD 0 0 : Nat), .new) else none
 | _ => none
theorem s_ord {C : RC} : CallS C (fun xs H Q => ∃ x, xs = [.str x] ∧ x.length = 1 ∧ Q (.int (x.cps.getD 0 0 : Nat)) H) (f1 ordD) := by
 have h := calls1 (C := C) (r := fun x H Q => ∃ s, x = .str s ∧ s.length = 1 ∧ Q (.int (s.cps.getD 0 0 : Nat)) H) (g := ordD) ?_
 · intro B hB σ ρ st H xs as c Q rel rx e q
   obtain ⟨x, rfl, i, rfl, h⟩ := h B hB σ ρ st H xs as c Q rel rx e q
   exact ⟨i, rfl, h⟩
 · intro B hB σ ρ st H ka x a c Q rel rx e q
   cases a <;> try (cases e; done)
   rename_i s
   simp only [ordD] at e
   split at e
   · rename_i hs
     cases e
     obtain rfl := rx.str
     exact ⟨s, rfl, hs, ansF (d := .int (s.cps.getD 0 0 : Nat)) rfl rel q⟩
   · cases e
def boolsD : List DV → Option (List Bool)
 | [] => some []
 | .bl b :: ds => (boolsD ds).map (b :: ·)
 | _ => none
theorem boolsD_rep {C : RC} {ρ : List CellA} {A : Addr → Prop} {H : Hp} : ∀ {vs : List V} {ds : List DV} {bs : List Bool}, RepL C ρ A H vs ds → boolsD ds = some bs → vs = bs.map V.bl
 | _, _, _, .nil, e => by cases e; rfl
 | _, _, bs, .cons (d := d) (ds := ds) r t, e => by
  cases d <;> try (cases e; done)
  rename_i b
  cases e2 : boolsD ds with
  | none => simp [boolsD, e2] at e
  | some cs =>
   simp [boolsD, e2] at e
   subst e
   rw [List.map_cons, boolsD_rep t e2, Rep.flat_eq rfl r]
   rfl
def allD : DV → Option (DV × Kd)
 | .lst ds => (boolsD ds).map fun bs => (.bl (bs.all id), .new)
 | _ => none
def anyD : DV → Option (DV × Kd)
 | .lst ds => (boolsD ds).map fun bs => (.bl (bs.any id), .new)
 | _ => none
theorem s_all {C : RC} : CallS C (rAll C.K) (f1 allD) := by
 have h := calls1 (C := C) (r := fun x H Q => ∃ (a : Addr) (bs : List Bool), x = V.ref a ∧ SqL C.K H a (bs.map V.bl) ∧ Q (.bl (bs.all id)) H) (g := allD) ?_
 · intro B hB σ ρ st H xs as c Q rel rx e q
   obtain ⟨x, rfl, i, bs, rfl, h⟩ := h B hB σ ρ st H xs as c Q rel rx e q
   exact ⟨i, bs, rfl, h⟩
 · intro B hB σ ρ st H ka x a c Q rel rx e q
   cases a <;> try (cases e; done)
   rename_i ds
   cases e2 : boolsD ds with
   | none => simp [allD, e2] at e
   | some bs =>
    simp [allD, e2] at e
    subst e
    obtain ⟨p, vs, rfl, e1, r1⟩ := rx.lst
    obtain rfl := boolsD_rep r1 e2
    exact ⟨p, bs, rfl, .inl (.inl e1), ansF (d := .bl (bs.all id)) rfl rel (by simpa using q)⟩
theorem s_any {C : RC} : CallS C (rAny C.K) (f1 anyD) := by
 have h := calls1 (C := C) (r := fun x H Q => ∃ (a : Addr) (bs : List Bool), x = V.ref a ∧ SqL C.K H a (bs.map V.bl) ∧ Q (.bl (bs.any id)) H) (g := anyD) ?_
 · intro B hB σ ρ st H xs as c Q rel rx e q
   obtain ⟨x, rfl, i, bs, rfl, h⟩ := h B hB σ ρ st H xs as c Q rel rx e q
   exact ⟨i, bs, rfl, h⟩
 · intro B hB σ ρ st H ka x a c Q rel rx e q
   cases a <;> try (cases e; done)
   rename_i ds
   cases e2 : boolsD ds with
   | none => simp [anyD, e2] at e
   | some bs =>
    simp [anyD, e2] at e
    subst e
    obtain ⟨p, vs, rfl, e1, r1⟩ := rx.lst
    obtain rfl := boolsD_rep r1 e2
    exact ⟨p, bs, rfl, .inl (.inl e1), ansF (d := .bl (bs.any id)) rfl rel (by simpa using q)⟩
def intsD : List DV → Option (List Int)
 | [] => some []
 | .int b :: ds => (intsD ds).map (b :: ·)
 | _ => none
theorem intsD_rep {C : RC} {ρ : List CellA} {A : Addr → Prop} {H : Hp} : ∀ {vs : List V} {ds : List DV} {bs : List Int}, RepL C ρ A H vs ds → intsD ds = some bs → vs = bs.map V.int
 | _, _, _, .nil, e => by cases e; rfl
 | _, _, bs, .cons (d := d) (ds := ds) r t, e => by
  cases d <;> try (cases e; done)
  rename_i b
  cases e2 : intsD ds with
  | none => simp [intsD, e2] at e
  | some cs =>
   simp [intsD, e2] at e
   subst e
   rw [List.map_cons, intsD_rep t e2, Rep.flat_eq rfl r]
   rfl
theorem intsD_map : ∀ ns : List Int, intsD (ns.map DV.int) = some ns
 | [] => rfl
 | n :: ns => by rw [List.map_cons, intsD, intsD_map ns]; rfl
theorem boolsD_map : ∀ ns : List Bool, boolsD (ns.map DV.bl) = some ns
 | [] => rfl
 | n :: ns => by rw [List.map_cons, boolsD, boolsD_map ns]; rfl
def sumD : DV → Option (DV × Kd)
 | .lst ds => (intsD ds).map fun bs => (.int bs.sum, .new)
 | _ => none
theorem s_sum {C : RC} : CallS C (rSum C.K) (f1 sumD) := by
 have h := calls1 (C := C) (r := fun x H Q => ∃ (a : Addr) (bs : List Int), x = V.ref a ∧ SqL C.K H a (bs.map V.int) ∧ Q (.int bs.sum) H) (g := sumD) ?_
 · intro B hB σ ρ st H xs as c Q rel rx e q
   obtain ⟨x, rfl, i, bs, rfl, h⟩ := h B hB σ ρ st H xs as c Q rel rx e q
   exact ⟨i, bs, rfl, h⟩
 · intro B hB σ ρ st H ka x a c Q rel rx e q
   cases a <;> try (cases e; done)
   rename_i ds
   cases e2 : intsD ds with
   | none => simp [sumD, e2] at e
   | some bs =>
    simp [sumD, e2] at e
    subst e
    obtain ⟨p, vs, rfl, e1, r1⟩ := rx.lst
    obtain rfl := intsD_rep r1 e2
    exact ⟨p, bs, rfl, .inl (.inl e1), ansF (d := .int bs.sum) rfl rel (by simpa using q)⟩
def maxL : List Int → Int
 | [] => 0
 | [x] => x
 | x :: y :: r => if maxL (y :: r) > x then maxL (y :: r) else x
def minL : List Int → Int
 | [] => 0
 | [x] => x
 | x :: y :: r => if minL (y :: r) < x then minL (y :: r) else x
theorem maxL_spec : ∀ (l : List Int), l ≠ [] → maxL l ∈ l ∧ ∀ y ∈ l, y ≤ maxL l
 | [], h => absurd rfl h
 | [x], _ => ⟨List.mem_singleton.mpr rfl, fun y h => by rw [List.mem_singleton.mp h]; exact Int.le_refl _⟩
 | x :: z :: r, _ => by
  obtain ⟨h1, h2⟩ := maxL_spec (z :: r) (List.cons_ne_nil _ _)
  unfold maxL
  split
  · rename_i c
    refine ⟨List.mem_cons_of_mem _ h1, fun y hy => ?_⟩
    rcases List.mem_cons.mp hy with rfl | hy
    · omega
    · exact h2 y hy
  · rename_i c
    refine ⟨List.mem_cons_self, fun y hy => ?_⟩
    rcases List.mem_cons.mp hy with rfl | hy
    · omega
    · have := h2 y hy; omega
theorem minL_spec : ∀ (l : List Int), l ≠ [] → minL l ∈ l ∧ ∀ y ∈ l, minL l ≤ y
 | [], h => absurd rfl h
 | [x], _ => ⟨List.mem_singleton.mpr rfl, fun y h => by rw [List.mem_singleton.mp h]; exact Int.le_refl _⟩
 | x :: z :: r, _ => by
  obtain ⟨h1, h2⟩ := minL_spec (z :: r) (List.cons_ne_nil _ _)
  unfold minL
  split
  · rename_i c
    refine ⟨List.mem_cons_of_mem _ h1, fun y hy => ?_⟩
    rcases List.mem_cons.mp hy with rfl | hy
    · omega
    · exact h2 y hy
  · rename_i c
    refine ⟨List.mem_cons_self, fun y hy => ?_⟩
    rcases List.mem_cons.mp hy with rfl | hy
    · omega
    · have := h2 y hy; omega
def maxD : OpN
 | [.int i, .int j] => some (.int (if j > i then j else i), .new)
 | [.lst ds] => match intsD ds with
  | some ns => if 0 < ns.length then some (.int (maxL ns), .new) else none
  | none => none
 | _ => none
def minD : OpN
 | [.int i, .int j] => some (.int (if j < i then j else i), .new)
 | [.lst ds] => match intsD ds with
  | some ns => if 0 < ns.length then some (.int (minL ns), .new) else none
  | none => none
 | _ => none
theorem s_max {C : RC} : CallS C (fun xs H Q => (∃ i j, xs = [.int i, .int j] ∧ Q (.int (if j > i then j else i)) H) ∨ rMax C.K xs H Q) maxD := by
 intro B hB σ ρ st H xs as c Q rel rx e q
 subst hB
 generalize e1 : as.map (·.1) = ds at e
 unfold maxD at e
 split at e
 · rename_i i j
   cases e
   obtain ⟨v, w, _, _, rfl, r1, r2⟩ := two_of rx e1
   obtain rfl := r1.int
   obtain rfl := r2.int
   exact .inl ⟨i, j, rfl, ansF (d := .int (if j > i then j else i)) rfl rel q⟩
 · rename_i es
   split at e
   · rename_i ns e2
     split at e
     · rename_i h0
       cases e
       obtain ⟨v, _, rfl, r1⟩ := one_of rx e1
       obtain ⟨p, vs, rfl, e3, rl⟩ := r1.lst
       obtain rfl := intsD_rep rl e2
       refine .inr ⟨p, ns, rfl, .inl (.inl e3), h0, fun m h1 h2 => ?_⟩
       have hne : ns ≠ [] := by intro z; subst z; cases h0
       obtain ⟨g1, g2⟩ := maxL_spec ns hne
       have : m = maxL ns := Int.le_antisymm (g2 m h1) (h2 _ g1)
       subst this
       exact ansF (d := .int (maxL ns)) rfl rel q
     · cases e
   · cases e
 · cases e
theorem s_min {C : RC} : CallS C (fun xs H Q => (∃ i j, xs = [.int i, .int j] ∧ Q (.int (if j < i then j else i)) H) ∨ rMin C.K xs H Q) minD := by
 intro B hB σ ρ st H xs as c Q rel rx e q
 subst hB
 generalize e1 : as.map (·.1) = ds at e
 unfold minD at e
 split at e
 · rename_i i j
   cases e
   obtain ⟨v, w, _, _, rfl, r1, r2⟩ := two_of rx e1
   obtain rfl := r1.int
   obtain rfl := r2.int
   exact .inl ⟨i, j, rfl, ansF (d := .int (if j < i then j else i)) rfl rel q⟩
 · rename_i es
   split at e
   · rename_i ns e2
     split at e
     · rename_i h0
       cases e
       obtain ⟨v, _, rfl, r1⟩ := one_of rx e1
       obtain ⟨p, vs, rfl, e3, rl⟩ := r1.lst
       obtain rfl := intsD_rep rl e2
       refine .inr ⟨p, ns, rfl, .inl (.inl e3), h0, fun m h1 h2 => ?_⟩
       have hne : ns ≠ [] := by intro z; subst z; cases h0
       obtain ⟨g1, g2⟩ := minL_spec ns hne
       have : m = minL ns := Int.le_antisymm (h2 _ g1) (g2 m h1)
       subst this
       exact ansF (d := .int (minL ns)) rfl rel q
     · cases e
   · cases e
 · cases e
def intC : DV → Option (DV × Kd)
 | .int i => some (.int i, .new)
 | .bl k => some (.int (if k then 1 else 0), .new)
 | _ => none
theorem s_int {C : RC} : CallS C (fun xs H Q => (∃ i, xs = [.int i] ∧ Q (.int i) H) ∨ ∃ k, xs = [.bl k] ∧ Q (.int (if k then 1 else 0)) H) (f1 intC) := by
 have h := calls1 (C := C) (r := fun x H Q => (∃ i, x = .int i ∧ Q (.int i) H) ∨ ∃ k, x = .bl k ∧ Q (.int (if k then 1 else 0)) H) (g := intC) ?_
 · intro B hB σ ρ st H xs as c Q rel rx e q
   obtain ⟨x, rfl, ⟨i, rfl, h⟩ | ⟨k, rfl, h⟩⟩ := h B hB σ ρ st H xs as c Q rel rx e q
   · exact .inl ⟨i, rfl, h⟩
   · exact .inr ⟨k, rfl, h⟩
 · intro B hB σ ρ st H ka x a c Q rel rx e q
   cases a <;> try (cases e; done)
   · rename_i k
     cases e
     obtain rfl := rx.bl
     exact .inr ⟨k, rfl, ansF (d := .int (if k then 1 else 0)) rfl rel q⟩
   · rename_i i
     cases e
     obtain rfl := rx.int
     exact .inl ⟨i, rfl, ansF (d := .int i) rfl rel q⟩
def boolC : DV → Option (DV × Kd)
 | .int i => some (.bl (i != 0), .new)
 | .bl k => some (.bl k, .new)
 | _ => none
theorem s_bool {C : RC} : CallS C (fun xs H Q => (∃ i, xs = [.int i] ∧ Q (.bl (i != 0)) H) ∨ ∃ k, xs = [.bl k] ∧ Q (.bl k) H) (f1 boolC) := by
 have h := calls1 (C := C) (r := fun x H Q => (∃ i, x = .int i ∧ Q (.bl (i != 0)) H) ∨ ∃ k, x = .bl k ∧ Q (.bl k) H) (g := boolC) ?_
 · intro B hB σ ρ st H xs as c Q rel rx e q
   obtain ⟨x, rfl, ⟨i, rfl, h⟩ | ⟨k, rfl, h⟩⟩ := h B hB σ ρ st H xs as c Q rel rx e q
   · exact .inl ⟨i, rfl, h⟩
   · exact .inr ⟨k, rfl, h⟩
 · intro B hB σ ρ st H ka x a c Q rel rx e q
   cases a <;> try (cases e; done)
   · rename_i k
     cases e
     obtain rfl := rx.bl
     exact .inr ⟨k, rfl, ansF (d := .bl k) rfl rel q⟩
   · rename_i i
     cases e
     obtain rfl := rx.int
     exact .inl ⟨i, rfl, ansF (d := .bl (i != 0)) rfl rel q⟩
def strC : DV → Option (DV × Kd)
 | .int i => if i.natAbs.log2 < 1920 then some (.str (toString i), .new) else none
 | .str s => some (.str s, .new)
 | _ => none
theorem s_str {C : RC} : CallS C (fun xs H Q => (∃ i, xs = [.int i] ∧ i.natAbs.log2 < 1920 ∧ Q (.str (toString i)) H) ∨ ∃ a, xs = [.str a] ∧ Q (.str a) H) (f1 strC) := by
 have h := calls1 (C := C) (r := fun x H Q => (∃ i, x = .int i ∧ i.natAbs.log2 < 1920 ∧ Q (.str (toString i)) H) ∨ ∃ a, x = .str a ∧ Q (.str a) H) (g := strC) ?_
 · intro B hB σ ρ st H xs as c Q rel rx e q
   obtain ⟨x, rfl, ⟨i, rfl, h⟩ | ⟨k, rfl, h⟩⟩ := h B hB σ ρ st H xs as c Q rel rx e q
   · exact .inl ⟨i, rfl, h⟩
   · exact .inr ⟨k, rfl, h⟩
 · intro B hB σ ρ st H ka x a c Q rel rx e q
   cases a <;> try (cases e; done)
   · rename_i i
     simp only [strC] at e
     split at e
     · rename_i hi
       cases e
       obtain rfl := rx.int
       exact .inl ⟨i, rfl, hi, ansF (d := .str (toString i)) rfl rel q⟩
     · cases e
   · rename_i s
     cases e
     obtain rfl := rx.str
     exact .inr ⟨s, rfl, ansF (d := .str s) rfl rel q⟩
def strItems (s : Str) : List DV := s.cps.toList.map fun c => DV.str ⟨#[c]⟩
def strItemsV (s : Str) : List V := s.cps.toList.map fun c => V.str ⟨#[c]⟩
theorem strItems_rep {C : RC} {ρ : List CellA} {A : Addr → Prop} {H : Hp} (s : Str) : RepL C ρ A H (strItemsV s) (strItems s) := by
 unfold strItemsV strItems
 induction s.cps.toList with
 | nil => exact .nil
 | cons c cs ih => exact .cons (.str _) ih
def listC : DV → Option (DV × Kd)
 | .str s => if s.cps.size ≤ sizeLine then some (.lst (strItems s), .new) else none
 | .lst ds => some (.lst ds, .new)
 | .tup ds => some (.lst ds, .new)
 | .bor ds => some (.lst ds, .new)
 | _ => none
def rListStr : List V → Hp → VK → Prop := fun xs H Q => ∃ s, xs = [.str s] ∧ s.cps.size ≤ sizeLine ∧ ∀ l, H l = none → Q (.ref l) (upd H l (.lst (strItemsV s)))
theorem items_vals : ∀ (cs : List Nat) (acc : List Value), acc.length = cs.length → (∀ (j : Nat) (v : Value), acc[j]? = some v → ∃ (c : Nat) (u : Tok), cs[j]? = some c ∧ v = Value.str ⟨#[c]⟩ u) → Vals (cs.map fun c => V.str ⟨#[c]⟩) acc
 | [], [], _, _ => .nil
 | [], _ :: _, h, _ => by cases h
 | _ :: _, [], h, _ => by cases h
 | c :: cs, v :: acc, h, hv => by
  refine .cons ?_ (items_vals cs acc (by simpa using h) fun j w hw => ?_)
  · obtain ⟨c', u, h1, h2⟩ := hv 0 v rfl
    cases h1
    exact ⟨u, h2⟩
  · obtain ⟨c', u, h1, h2⟩ := hv (j + 1) w (by simpa using hw)
    exact ⟨c', u, by simpa using h1, h2⟩
theorem call_listStr {X : Cx} (hc : X.calm = true) : CallR X (.type "list") rListStr := by
 intro pins s σ H xs us Q I r h
 obtain ⟨x, rfl, hz, q⟩ := h
 cases r with
 | cons r rr =>
  cases rr
  obtain ⟨t, rfl⟩ := r
  refine PySem.call_list_str (I.ok.hd hc) x t (fun h' tk acc' c' kp e it => ?_) hz
  refine ⟨.ref s.heap.objs.size, _, I.laid (t' := tk) kp (Nat.le_refl _) (show ObjOk X.prog X.w _ h' _ (.lst (strItemsV x)) from ⟨by simpa [strItemsV] using hz, acc'.toList, c', ?_, by simpa using e⟩), rfl, q _ (I.hok.fresh (Nat.le_refl _))⟩
  refine items_vals x.cps.toList acc'.toList (by simpa using it.1) fun j v hv => ?_
  obtain ⟨c, u, h1, h2⟩ := it.2 j v (by rw [← Array.getElem?_toList]; exact hv)
  exact ⟨c, u, by rw [Array.getElem?_toList]; exact h1, h2⟩
def rListOf (K : PySem.W.Frag) : List V → Hp → VK → Prop := fun xs H Q => ∃ p ys, xs = [.ref p] ∧ (SqL K H p ys ∨ SqT K H p ys) ∧ ∀ l, H l = none → Q (.ref l) (upd H l (.lst ys))
theorem s_list {C : RC} : CallS C (fun xs H Q => rListOf C.K xs H Q ∨ rListStr xs H Q) (f1 listC) := by
 have h := calls1 (C := C) (r := fun x H Q => rListOf C.K [x] H Q ∨ rListStr [x] H Q) (g := listC) ?_
 · intro B hB σ ρ st H xs as c Q rel rx e q
   obtain ⟨x, rfl, h⟩ := h B hB σ ρ st H xs as c Q rel rx e q
   exact h
 · intro B hB σ ρ st H ka x a c Q rel rx e q
   subst hB
   cases a <;> try (cases e; done)
   · rename_i s
     simp only [listC] at e
     split at e
     · rename_i hs
       cases e
       obtain rfl := rx.str
       exact .inr ⟨s, rfl, hs, fun l hl => q _ _ (Step.alloc rel hl) (RepK.newLst rel hl (strItems_rep s)) fun m em => by cases em; exact hl⟩
     · cases e
   · rename_i ds
     cases e
     obtain ⟨p, vs, rfl, e1, r1⟩ := rx.lst
     exact .inl ⟨p, vs, rfl, .inl (.inl (.inl e1)), fun l hl => q _ _ (Step.alloc rel hl) (RepK.newLst rel hl r1) fun m em => by cases em; exact hl⟩
   · rename_i ds
     cases e
     obtain ⟨p, vs, rfl, e1, r1⟩ := rx.tup
     exact .inl ⟨p, vs, rfl, .inr e1, fun l hl => q _ _ (Step.alloc rel hl) (RepK.newLst rel hl r1) fun m em => by cases em; exact hl⟩
   · rename_i ds
     cases e
     obtain ⟨p, o, vs, rfl, e1, r1⟩ := rx.bor
     exact .inl ⟨p, vs, rfl, .inl (.inl (.inr ⟨o, e1⟩)), fun l hl => q _ _ (Step.alloc rel hl) (RepK.newLst rel hl r1) fun m em => by cases em; exact hl⟩
def tupleC : DV → Option (DV × Kd)
 | .lst ds => some (.tup ds, .fro)
 | .tup ds => some (.tup ds, .fro)
 | .bor ds => some (.tup ds, .fro)
 | _ => none
theorem s_tuple {C : RC} : CallS C (fun xs H Q => ∃ p ys, xs = [.ref p] ∧ ((SqL C.K H p ys ∧ ∀ l, H l = none → Q (.ref l) (upd H l (.tup ys))) ∨ (SqT C.K H p ys ∧ Q (.ref p) H))) (f1 tupleC) := by
 have h := calls1 (C := C) (r := fun x H Q => ∃ p ys, x = .ref p ∧ ((SqL C.K H p ys ∧ ∀ l, H l = none → Q (.ref l) (upd H l (.tup ys))) ∨ (SqT C.K H p ys ∧ Q (.ref p) H))) (g := tupleC) ?_
 · intro B hB σ ρ st H xs as c Q rel rx e q
   obtain ⟨x, rfl, p, ys, rfl, h⟩ := h B hB σ ρ st H xs as c Q rel rx e q
   exact ⟨p, ys, rfl, h⟩
 · intro B hB σ ρ st H ka x a c Q rel rx e q
   subst hB
   cases a <;> try (cases e; done)
   · rename_i ds
     cases e
     obtain ⟨p, vs, rfl, e1, r1⟩ := rx.lst
     exact ⟨p, vs, rfl, .inl ⟨.inl (.inl e1), fun l hl => q _ _ (Step.alloc rel hl) (Rep.newTup rel hl r1) trivial⟩⟩
   · rename_i ds
     cases e
     have wx := Rep.ofSqt (C := B.C) (A := Av ρ B.O st σ) rx
     obtain ⟨p, vs, rfl, e1, r1⟩ := rx.tup
     exact ⟨p, vs, rfl, .inr ⟨e1, q _ _ (.refl rel) wx trivial⟩⟩
   · rename_i ds
     cases e
     obtain ⟨p, o, vs, rfl, e1, r1⟩ := rx.bor
     exact ⟨p, vs, rfl, .inl ⟨.inl (.inr ⟨o, e1⟩), fun l hl => q _ _ (Step.alloc rel hl) (Rep.newTup rel hl r1) trivial⟩⟩
def reprD : DV → Option (DV × Kd)
 | .dct [] [] => some (.str "{}", .new)
 | d => match toP d with
  | some p => if p.showable && decide (p.shown.length ≤ sizeLine) && decide (p.depth ≤ 64) then some (.str p.shown, .new) else none
  | none => none
end D
namespace D
open PySem L2 PyProof.Rows
mutual
theorem toP_noDict : ∀ (d : DV) (p : PyData), toP d = some p → p.hasDict = false
 | .non, p, h => by cases h; rfl
 | .bl b, p, h => by cases h; rfl
 | .int i, p, h => by cases h; rfl
 | .str s, p, h => by cases h; rfl
 | .lst ds, p, h => by
  cases e : toPs ds with
  | none => simp [toP, e] at h
  | some ps => simp [toP, e] at h; subst h; rw [PyData.hasDict]; exact toPs_noDict ds ps e
 | .tup ds, p, h => by
  cases e : toPs ds with
  | none => simp [toP, e] at h
  | some ps => simp [toP, e] at h; subst h; rw [PyData.hasDict]; exact toPs_noDict ds ps e
 | .dct _ _, p, h => by cases h
 | .fdc _ _, p, h => by cases h
 | .ins _ _ _, p, h => by cases h
 | .exc _ _ _, p, h => by cases h
 | .scr _, p, h => by cases h
 | .bor _, p, h => by cases h
 | .cel _, p, h => by cases h
 | .ty _, p, h => by cases h
 | .cls _, p, h => by cases h
theorem toPs_noDict : ∀ (ds : List DV) (ps : List PyData), toPs ds = some ps → PyData.hasDictAll ps = false
 | [], ps, h => by cases h; rfl
 | d :: ds, ps, h => by
  cases e1 : toP d with
  | none => simp [toPs, e1] at h
  | some p =>
   cases e2 : toPs ds with
   | none => simp [toPs, e1, e2] at h
   | some qs =>
    simp [toPs, e1, e2] at h
    subst h
    rw [PyData.hasDictAll, toP_noDict d p e1, toPs_noDict ds qs e2]
    rfl
end
def rRepr (K : PySem.W.Frag) : List V → Hp → VK → Prop := fun xs H Q => ∃ x p, xs = [x] ∧ Dp K H x p ∧ p.hasDict = false ∧ p.showable = true ∧ p.shown.length ≤ sizeLine ∧ p.depth ≤ 64 ∧ Q (.str p.shown) H
theorem call_repr0 {X : Cx} (hg : X.A.guards = some []) (hu : X.A.units + 65 < cLine) : CallR X (.builtin "repr") (rRepr X.K) := by
 intro pins s σ H xs us Q I r h
 obtain ⟨x, p, rfl, dp, hd, hs, hl, hdp, q⟩ := h
 obtain ⟨u, rfl, ru⟩ := vals1 r
 cases dp with
 | non =>
  cases ru
  exact P.repr_of_none ⟨.str _, H, I.tok _, ⟨_, rfl⟩, q⟩
 | bl b =>
  cases ru
  exact P.repr_of_bool ⟨.str _, H, I.tok _, ⟨_, rfl⟩, q⟩
 | int i =>
  obtain ⟨t, rfl⟩ := ru
  exact P.repr_of_int (of_decide_eq_true hs) ⟨.str _, H, I.tok _, ⟨_, rfl⟩, q⟩
 | str z =>
  obtain ⟨t, rfl⟩ := ru
  exact P.repr_of_str ⟨.str _, H, I.tok _, ⟨_, rfl⟩, q⟩ hl
 | lst h1 h2 =>
  obtain ⟨as, rd⟩ := Dp.reads I _ _ u (.lst h1 h2) ru
  cases ru
  exact repr_of_reads' rd hs (PyData.noDict_hsm hd) hg (by omega) (fun _ _ e => e) (fun h' v tk hk => ⟨.str _, H, I.kept (t' := tk) hk, ⟨_, rfl⟩, q⟩) hl
 | tup h1 h2 =>
  obtain ⟨as, rd⟩ := Dp.reads I _ _ u (.tup h1 h2) ru
  cases ru
  exact repr_of_reads' rd hs (PyData.noDict_hsm hd) hg (by omega) (fun _ _ e => e) (fun h' v tk hk => ⟨.str _, H, I.kept (t' := tk) hk, ⟨_, rfl⟩, q⟩) hl
def rReprE (K : PySem.W.Frag) : List V → Hp → VK → Prop := fun xs H Q => (∃ x p, xs = [x] ∧ Dp K H x p ∧ p.hasDict = false ∧ p.showable = true ∧ p.shown.length ≤ sizeLine ∧ p.depth ≤ 64 ∧ Q (.str p.shown) H) ∨ ∃ a, xs = [.ref a] ∧ Rd H a (.dK []) ∧ Q (.str "{}") H
theorem call_repr {X : Cx} (hg : X.A.guards = some []) (hu : X.A.units + 65 < cLine) : CallR X (.builtin "repr") (rReprE X.K) := by
 intro pins s σ H xs us Q I r h
 rcases h with h | ⟨a, rfl, hr, q⟩
 · exact call_repr0 hg hu _ _ _ _ _ _ _ I r h
 · obtain ⟨u, rfl, ru⟩ := vals1 r
   cases ru
   obtain ⟨_, hsys, vs, kv, o, es, ep, e1, e2, e3, _, e4, _⟩ := dk_rd I.hok hr
   have hvs : vs = [] := by cases kv; rfl
   subst hvs
   have hes : es.toList = [] := by cases h4 : es.toList with
    | nil => rfl
    | cons x r => rw [h4] at e4; cases e4
   have rd : Reads s.heap (.ref a) (.dict []) (a :: [] ++ []) := Reads.dict e1 e2.1 e3 (by rw [hes]; exact .nil) (by rw [hes]; exact .nil)
   exact repr_of_reads' rd rfl (fun _ hm => by
    rw [List.append_nil, List.mem_singleton] at hm
    rw [← hm] at hsys
    simp at hsys) hg (by show X.A.units + (1 + 1) < cLine; omega) (fun _ _ e => e) (fun h' v tk hk => ⟨.str _, H, I.kept (t' := tk) hk, ⟨_, rfl⟩, q⟩) (by decide +kernel)
theorem s_repr {C : RC} : CallS C (rReprE C.K) (f1 reprD) := by
 have h := calls1 (C := C) (r := fun x H Q => (∃ p, Dp C.K H x p ∧ p.hasDict = false ∧ p.showable = true ∧ p.shown.length ≤ sizeLine ∧ p.depth ≤ 64 ∧ Q (.str p.shown) H) ∨ ∃ a, x = .ref a ∧ Rd H a (.dK []) ∧ Q (.str "{}") H) (g := reprD) ?_
 · intro B hB σ ρ st H xs as c Q rel rx e q
   obtain ⟨x, rfl, h⟩ := h B hB σ ρ st H xs as c Q rel rx e q
   rcases h with ⟨p, h⟩ | ⟨a, rfl, h⟩
   · exact .inl ⟨x, p, rfl, h⟩
   · exact .inr ⟨a, rfl, h⟩
 · intro B hB σ ρ st H ka x a c Q rel rx e q
   subst hB
   unfold reprD at e
   split at e
   · cases e
     obtain ⟨p, vs, rfl, hr, _⟩ := rx.dct
     exact .inr ⟨p, rfl, .inl hr, ansF (d := .str "{}") rfl rel q⟩
   · split at e
     · rename_i p hp
       split at e
       · rename_i hc
         cases e
         rw [Bool.and_eq_true, Bool.and_eq_true, decide_eq_true_iff, decide_eq_true_iff] at hc
         exact .inl ⟨p, rx.dp hp, toP_noDict a p hp, hc.1.1, hc.1.2, hc.2, ansF (d := .str p.shown) rfl rel q⟩
       · cases e
     · cases e
def tyName : DV → Option String
 | .non => some "NoneType" | .bl _ => some "bool" | .int _ => some "int" | .str _ => some "str" | .lst _ => some "list" | .tup _ => some "tuple" | .dct _ _ => some "dict" | .scr _ => some "list" | .bor _ => some "list" | _ => none
def kinds : List String := ["NoneType", "bool", "int", "str", "list", "tuple", "dict"]
def tested : List String := ["int", "bool", "str", "list", "tuple", "dict", "ValueError"]
def isiTab (m n : String) : Option Bool := if tested.contains n then some (m == n || (m == "bool" && n == "int")) else none
theorem isiTab_ok : ∀ m ∈ kinds, ∀ n ∈ tested, kitB m n = some (m == n || (m == "bool" && n == "int")) := by decide +kernel
theorem tyName_in {d : DV} {m : String} (h : tyName d = some m) : m ∈ kinds := by
 cases d <;> first | (cases h; done) | (cases h; decide)
structure CT where
 ins : List Nat
 ex : List Nat
 sub : Nat → Nat → Bool
 pl : List Nat
 fi : List (Nat × Str)
 fe : List (Nat × Str)
structure KitC (C : RC) (ct : CT) : Prop where
 cls : ∀ c ∈ ct.ins, Cls C.K (C.cls c)
 ha : ∀ c ∈ ct.ins ++ ct.ex, PySem.W.findIn C.K (.ref (C.cls c)) "__class__" = some (some (.builtin "object.__class__"))
 hn : ∀ c ∈ ct.ins ++ ct.ex, PySem.W.specialIn C.K (.builtin "object.__class__") "__get__" = some (some (.builtin "getset_descriptor.__get__"))
 tk : ∀ c ∈ ct.ins ++ ct.ex, PySem.W.takesIn C.K (.builtin "object.__class__") = some true
 mr : ∀ c ∈ ct.ins ++ ct.ex, PySem.W.mroIn C.K (C.cls c) (.type "object") = some true
 tc : ∀ c ∈ ct.ins ++ ct.ex, ∀ T ∈ kinds, PySem.W.kitOne C.K (.type T) (.ref (C.cls c)) = some false
 tt : ∀ c ∈ ct.ins ++ ct.ex, ∀ T ∈ tested, PySem.W.kitOne C.K (.ref (C.cls c)) (.type T) = some (decide (T = "ValueError") && ct.ex.contains c)
 cc : ∀ c ∈ ct.ins, ∀ c' ∈ ct.ins, PySem.W.kitOne C.K (.ref (C.cls c)) (.ref (C.cls c')) = some (decide (c = c'))
 ce : ∀ c ∈ ct.ins, ∀ c' ∈ ct.ex, PySem.W.kitOne C.K (.ref (C.cls c)) (.ref (C.cls c')) = some false
 ec : ∀ c ∈ ct.ex, ∀ c' ∈ ct.ins, PySem.W.kitOne C.K (.ref (C.cls c)) (.ref (C.cls c')) = some false
 ee : ∀ c ∈ ct.ex, ∀ c' ∈ ct.ex, PySem.W.kitOne C.K (.ref (C.cls c)) (.ref (C.cls c')) = some (ct.sub c c')
 ek : ∀ c ∈ ct.ex, ∀ c' ∈ ct.ex, PySem.W.exmOne C.K (.ref (C.cls c)) (.ref (C.cls c')) = some (ct.sub c c')
 xs : ∀ c ∈ ct.ex, (PySem.W.clsIn C.K (C.cls c)).isSome = true
 xa : ∀ c ∈ ct.ex, PySem.W.findIn C.K (.ref (C.cls c)) "__getattribute__" = some (some (.builtin "BaseException.__getattribute__"))
 xg : ∀ c ∈ ct.ex, PySem.W.findIn C.K (.ref (C.cls c)) "__getattr__" = some none
 xb : ∀ c ∈ ct.ex, PySem.W.subIn C.K (.ref (C.cls c)) (.type "BaseException") = some true
 xd : ∀ c ∈ ct.ex, PySem.W.hasDictIn C.K (C.cls c) = true
 xt : ∀ c ∈ ct.ex, PySem.W.typeIn C.K (.ref (C.cls c)) = some (.type "type")
 xk : ∀ c ∈ ct.ex, PySem.W.keepIn C.K (.ref (C.cls c)) = true
 xq : ∀ c ∈ ct.pl, c ∈ ct.ex ∧ PySem.W.excIn C.K (C.cls c) [.type "ValueError", .type "Exception", .type "BaseException", .type "object"] "ValueError.__new__" = true
 nf : ∀ p ∈ ct.fi, p.1 ∈ ct.ins ∧ NoAttr C.K (C.cls p.1) p.2
 nx : ∀ p ∈ ct.fe, p.1 ∈ ct.ex ∧ PySem.W.findIn C.K (.ref (C.cls p.1)) p.2 = some none
def ownN : DV → Option Nat
 | .ins c _ _ => some c
 | .exc c _ _ => some c
 | _ => none
def ownOf (ct : CT) : DV → Option Nat
 | .ins c _ _ => if ct.ins.contains c then some c else none
 | .exc c _ _ => if ct.ex.contains c then some c else none
 | _ => none
def isi1 (ct : CT) (d : DV) : DV → Option Bool
 | .ty n => if tested.contains n then (match ownOf ct d with
  | some c => some (decide (n = "ValueError") && ct.ex.contains c)
  | none => match tyName d with
   | some m => isiTab m n
   | none => none) else none
 | .cls k => if (ct.ins ++ ct.ex).contains k then (match ownOf ct d with
  | some c => (match ct.ex.contains c, ct.ex.contains k with
   | true, true => some (ct.sub c k)
   | true, false => some false
   | false, true => some false
   | false, false => some (decide (c = k)))
  | none => (tyName d).map fun _ => false) else none
 | _ => none
def isiAny (ct : CT) (d : DV) : List DV → Option Bool
 | [] => some false
 | t :: ts => match isi1 ct d t with
  | some true => some true
  | some false => isiAny ct d ts
  | none => none
def tyV' (C : RC) (d : DV) : Value := match ownN d with
 | some c => .ref (C.cls c)
 | none => match tyName d with
  | some m => .type m
  | none => .none
def clsV (C : RC) : DV → Value
 | .ty n => .type n
 | .cls k => .ref (C.cls k)
 | _ => .none
section
variable {C : RC} {ct : CT}
theorem ownOf_in {d : DV} {c : Nat} (h : ownOf ct d = some c) : ownN d = some c ∧ c ∈ ct.ins ++ ct.ex := by
 cases d <;> try (cases h; done)
 · simp only [ownOf] at h
   split at h
   · rename_i hc; cases h; exact ⟨rfl, List.mem_append_left _ (List.contains_iff_mem.mp hc)⟩
   · cases h
 · simp only [ownOf] at h
   split at h
   · rename_i hc; cases h; exact ⟨rfl, List.mem_append_right _ (List.contains_iff_mem.mp hc)⟩
   · cases h
theorem tyV_own {d : DV} {c : Nat} (h : ownOf ct d = some c) : tyV' C d = .ref (C.cls c) := by unfold tyV'; rw [(ownOf_in h).1]
theorem tyV_ty {d : DV} {m : String} (h : tyName d = some m) : tyV' C d = .type m := by
 have e : ownN d = none := by cases d <;> first | rfl | cases h
 unfold tyV'; rw [e]; simp only [h]
theorem notEx {c : Nat} (h : c ∈ ct.ins ++ ct.ex) (hx : ct.ex.contains c = false) : c ∈ ct.ins := by
 rcases List.mem_append.mp h with z | z
 · exact z
 · rw [List.contains_iff_mem.mpr z] at hx; cases hx
theorem isi1_ok (kc : KitC C ct) {d t : DV} {k : Bool} (h : isi1 ct d t = some k) : PySem.W.kitOne C.K (tyV' C d) (clsV C t) = some k := by
 unfold isi1 at h
 split at h
 · rename_i n
   split at h
   · rename_i hn
     rw [List.contains_iff_mem] at hn
     cases ho : ownOf ct d with
     | some c =>
      rw [ho] at h
      cases h
      rw [tyV_own ho]
      exact kc.tt c (ownOf_in ho).2 n hn
     | none =>
      rw [ho] at h
      dsimp only at h
      cases hm : tyName d with
      | none => rw [hm] at h; cases h
      | some m =>
       rw [hm] at h
       dsimp only at h
       unfold isiTab at h
       rw [if_pos (List.contains_iff_mem.mpr hn)] at h
       cases h
       rw [tyV_ty hm]
       exact kit_ty (isiTab_ok m (tyName_in hm) n hn)
   · cases h
 · rename_i k'
   split at h
   · rename_i hk
     rw [List.contains_iff_mem] at hk
     cases ho : ownOf ct d with
     | some c =>
      rw [ho] at h
      rw [tyV_own ho]
      have hc := (ownOf_in ho).2
      dsimp only at h
      cases h1 : ct.ex.contains c <;> cases h2 : ct.ex.contains k' <;> rw [h1, h2] at h <;> cases h
      · exact kc.cc c (notEx hc h1) k' (notEx hk h2)
      · exact kc.ce c (notEx hc h1) k' (List.contains_iff_mem.mp h2)
      · exact kc.ec c (List.contains_iff_mem.mp h1) k' (notEx hk h2)
      · exact kc.ee c (List.contains_iff_mem.mp h1) k' (List.contains_iff_mem.mp h2)
     | none =>
      rw [ho] at h
      dsimp only at h
      cases hm : tyName d with
      | none => rw [hm] at h; cases h
      | some m =>
       rw [hm] at h
       cases h
       rw [tyV_ty hm]
       exact kc.tc k' hk m (tyName_in hm)
   · cases h
 · cases h
theorem isiAny_ok (kc : KitC C ct) {d : DV} {k : Bool} : ∀ {ts : List DV}, isiAny ct d ts = some k → PySem.W.kitAny C.K (tyV' C d) (ts.map (clsV C)) = some k
 | [], h => by cases h; rfl
 | t :: ts, h => by
  unfold isiAny at h
  rw [List.map_cons]
  unfold PySem.W.kitAny
  cases e : isi1 ct d t with
  | none => rw [e] at h; cases h
  | some b =>
   rw [e] at h
   rw [isi1_ok kc e]
   cases b with
   | true => exact h
   | false => exact isiAny_ok kc h
def isiable (ct : CT) (d : DV) : Bool := (ownOf ct d).isSome || (tyName d).isSome
theorem isi1_able {d t : DV} {k : Bool} (h : isi1 ct d t = some k) : isiable ct d = true := by
 unfold isi1 at h
 unfold isiable
 split at h
 · split at h
   · cases ho : ownOf ct d with
     | some c => rfl
     | none =>
      rw [ho] at h
      cases hm : tyName d with
      | some m => rfl
      | none => rw [hm] at h; cases h
   · cases h
 · split at h
   · cases ho : ownOf ct d with
     | some c => rfl
     | none =>
      rw [ho] at h
      cases hm : tyName d with
      | some m => rfl
      | none => rw [hm] at h; cases h
   · cases h
 · cases h
inductive TyZ (C : RC) (ct : CT) (H : Hp) : V → Value → Prop where
 | base {x : V} {t : Value} (h : TyX C.K H x t) : TyZ C ct H x t
 | exc {a : Addr} {c : Nat} {d : Option Addr} (e : H a = some (XO (.ref (C.cls c)) d a)) (hd : d = none ∨ ∃ dd fs, d = some dd ∧ H dd = some (.xd fs)) (hc : c ∈ ct.ex) : TyZ C ct H (.ref a) (.ref (C.cls c))
theorem kit_ofZ {X : Cx} {pins : List (Addr × Obj)} {σ : L2.St} {H : Hp} {s : Shared} {x : V} {u t : Value} (hC : C.K = X.K) (kc : KitC C ct) (I : L2.Inv X pins σ H s) (rx : RelV x u) (ty : TyZ C ct H x t) :
 ∃ P : Heap → Prop, PySem.W.KitX X.K u t P ∧ P s.heap ∧ u ≠ .builtin "__main__.__loader__#opaque" := by
 cases ty with
 | base h => rw [hC] at h; exact kit_of I rx h
 | @exc a c d e hd hc =>
  cases (show u = Value.ref a from rx)
  obtain ⟨⟨oe, vs, h1, hz, h2⟩, _, _⟩ := I.hok a _ e
  have hc' := List.mem_append_right ct.ins hc
  have no : PySem.W.notCls oe = true := by unfold PySem.W.notCls; rw [h2]
  have k : ∀ od, PySem.W.KitX X.K (.ref a) (.ref (C.cls c)) (fun h => PySem.W.InstAt h a oe (C.cls c) od) := fun od => PySem.W.kitx_exc (by rw [← hC]; exact kc.xs c hc) (by rw [← hC]; exact kc.xa c hc) (by rw [← hC]; exact kc.xg c hc) (by rw [← hC]; exact kc.xb c hc) (by rw [← hC]; exact kc.ha c hc') (by rw [← hC]; exact kc.hn c hc') (by rw [← hC]; exact kc.tk c hc') (by rw [← hC]; exact kc.mr c hc')
  rcases hd with rfl | ⟨dd, fs, rfl, hx⟩
  · exact ⟨_, k none, ⟨h1, hz.1, no, by rw [hz.2]; trivial⟩, fun z => nomatch z⟩
  · obtain ⟨mA, hns, _⟩ := I.hok dd _ hx
    obtain ⟨od, ho, _⟩ := lookIn_ns hns
    exact ⟨_, k (some od), ⟨h1, hz.1, no, by rw [hz.2]; exact ho⟩, fun z => nomatch z⟩
def rIsZ (C : RC) (ct : CT) : List V → Hp → VK → Prop := fun xs H Q => ∃ (x y : V) (t : Value) (b : Bool), xs = [x, y] ∧ TyZ C ct H x t ∧ Q (.bl b) H ∧
 ((∃ u, ClsV y u ∧ PySem.W.kitOne C.K t u = some b) ∨ (∃ tp cs us, y = .ref tp ∧ H tp = some (.tup cs) ∧ Paired ClsV cs us ∧ PySem.W.kitAny C.K t us = some b) ∨
  ∃ tp dd us n sl, y = .ref tp ∧ C.K.lookup tp = some ⟨.type "tuple", dd, .seq (List.toArray us) n, sl⟩ ∧ PySem.W.kitAny C.K t us = some b)
theorem call_isZ {X : Cx} (hC : C.K = X.K) (kc : KitC C ct) : CallR X (.builtin "isinstance") (rIsZ C ct) := fun pins s σ H xs us Q I r h => by
 obtain ⟨x, y, t, b, rfl, ty, q, h⟩ := h
 obtain ⟨u1, u2, rfl, r1, r2⟩ := vals2 r
 obtain ⟨P, Z, p, hx⟩ := kit_ofZ hC kc I r1 ty
 have done : ∀ tk, EP X pins σ Q (.bool b) { s with toks := tk } := fun tk => ⟨.bl b, H, I.tok tk, rfl, q⟩
 rcases h with ⟨u, k, e⟩ | ⟨tp, cs, ws, rfl, hT, k, e⟩ | ⟨tp, dd, ws, n, sl, rfl, hk, e⟩
 · obtain rfl := k.eq r2
   rw [hC] at e
   exact PySem.W.kia_one Z I.kIn p e hx done
 · cases (show u2 = Value.ref tp from r2)
   obtain ⟨_, its, rv, ⟨oc, od, dt, sl⟩, h1, h2, n, h3⟩ := (show ObjOk X.prog X.w H s.heap tp (.tup cs) from I.hok tp _ hT)
   obtain rfl := ClsV.all k rv
   dsimp only at h2 h3
   subst h2 h3
   rw [hC] at e
   exact PySem.W.kia_tup Z I.kIn p h1 e hx done
 · cases (show u2 = Value.ref tp from r2)
   rw [hC] at e hk
   exact PySem.W.kia_tup Z I.kIn p (I.kIn _ _ hk) e hx done
theorem tyx_scr {ρ : List CellA} {A : Addr → Prop} {H : Hp} {x : V} {ns : List Int} (r : Rep C ρ A H x (.scr ns)) : TyX C.K H x (.type "list") := by
 cases r with
 | scr n e => exact .base (.frz e)
 | kscr k =>
  obtain ⟨o, its, n, e1, e2, _⟩ := k
  exact .kList e1 e2
theorem tyx_of {B : BC} (hB : B.C = C) (kc : KitC C ct) {σ : L2.St} {ρ : List CellA} {st : DS} {H : Hp} {kd : Kd} {x : V} {d : DV} (h : isiable ct d = true) (r : RepK B ρ st σ H kd x d) : TyZ C ct H x (tyV' C d) := by
 subst hB
 cases d <;> try (cases h; done)
 · obtain rfl := r.non; exact .base (.base .non)
 · obtain rfl := r.bl; exact .base (.base (.bl _))
 · obtain rfl := r.int; exact .base (.base (.int _))
 · obtain rfl := r.str; exact .base (.base (.str _))
 · obtain ⟨p, vs, rfl, e, _⟩ := r.lst; exact .base (.base (.lst e))
 · obtain ⟨p, vs, rfl, e, _⟩ := r.tup
   rcases e with (e | ⟨o, e⟩) | ⟨o, its, n, e1, e2, _⟩
   · exact .base (.base (.tup e))
   · exact .base (.fTuple e)
   · exact .base (.kTuple e1 e2)
 · obtain ⟨p, vs, rfl, e, _⟩ := r.dct; exact .base (.base (.dK e))
 · rename_i c ns vs
   obtain ⟨p, dx, xs, rfl, e, _⟩ := r.ins
   have hc : c ∈ ct.ins := by
    simp only [isiable, ownOf, tyName] at h
    split at h
    · rename_i z; exact List.contains_iff_mem.mp z
    · cases h
   have hc' := List.mem_append_left ct.ex hc
   exact .base (.base (.ins e (kc.cls c hc) (kc.ha c hc') (kc.hn c hc') (kc.tk c hc') (kc.mr c hc')))
 · rename_i c ns vs
   have hc : c ∈ ct.ex := by
    simp only [isiable, ownOf, tyName] at h
    split at h
    · rename_i z; exact List.contains_iff_mem.mp z
    · cases h
   have r' : Rep B.C ρ (Av ρ B.O st σ) H x (.exc c ns vs) := by
    cases kd with
    | view i => obtain ⟨p, rfl, _, c, _⟩ := r; cases c
    | fro => exact r
    | new => exact r.1
   cases r' with
   | exc n e n2 e2 l r => exact .exc e (.inr ⟨_, _, rfl, e2⟩) hc
   | exc0 n e => exact .exc e (.inl rfl) hc
 · cases kd with
   | view i => obtain ⟨p, rfl, _, c, _⟩ := r; cases c
   | fro => exact .base (tyx_scr (show Rep _ _ _ _ _ _ from r))
   | new => exact .base (tyx_scr (show Rep _ _ _ _ _ _ from r.1))
 · obtain ⟨p, o, vs, rfl, e, _⟩ := r.bor; exact .base (.base (.frz e))
theorem clsv_of {ρ : List CellA} {A : Addr → Prop} {H : Hp} {v : V} {t : DV} (h : ∃ d k, isi1 ct d t = some k) (r : Rep C ρ A H v t) : ClsV v (clsV C t) := by
 obtain ⟨d, k, h⟩ := h
 cases t <;> try (cases h; done)
 · cases r; exact .ty _
 · cases r; exact .own _
end
theorem clsvs_of {C : RC} {ct : CT} {ρ : List CellA} {A : Addr → Prop} {H : Hp} : ∀ {vs : List V} {ts : List DV}, RepL C ρ A H vs ts → (∀ t ∈ ts, ∃ d k, isi1 ct d t = some k) → Paired ClsV vs (ts.map (clsV C))
 | _, _, .nil, _ => .nil
 | _, _, .cons r t, h => .cons (clsv_of (h _ List.mem_cons_self) r) (clsvs_of t fun u hu => h u (List.mem_cons_of_mem _ hu))
def isCls (ct : CT) : DV → Bool
 | .ty n => tested.contains n
 | .cls k => (ct.ins ++ ct.ex).contains k
 | _ => false
theorem isCls_ok {ct : CT} {t : DV} (h : isCls ct t = true) : ∃ d k, isi1 ct d t = some k := by
 cases t <;> try (cases h; done)
 · rename_i n
   refine ⟨.non, ("NoneType" == n || ("NoneType" == "bool" && n == "int")), ?_⟩
   have h : tested.contains n = true := h
   simp only [isi1, h, if_true, ownOf, tyName, isiTab]
 · rename_i k
   refine ⟨.non, false, ?_⟩
   have h : (ct.ins ++ ct.ex).contains k = true := h
   simp only [isi1, h, if_true, ownOf, tyName, Option.map_some]
def isiR (ct : CT) (a t : DV) : Option (DV × Kd) := match t with
 | .tup ts => if ts.all (isCls ct) && isiable ct a then (isiAny ct a ts).map fun k => (.bl k, .new) else none
 | t => (isi1 ct a t).map fun k => (.bl k, .new)
theorem s_isi {C : RC} {ct : CT} (kc : KitC C ct) : CallS C (rIsZ C ct) (f2 (isiR ct)) := by
 have h := calls2 (C := C) (r := fun x y H Q => rIsZ C ct [x, y] H Q) (g := isiR ct) ?_
 · intro B hB σ ρ st H xs as c Q rel rx e q
   obtain ⟨x, y, rfl, h⟩ := h B hB σ ρ st H xs as c Q rel rx e q
   exact h
 · intro B hB σ ρ st H ka kb x y a t c Q rel rx ry e q
   by_cases ht : ∃ ts, t = .tup ts
   · obtain ⟨ts, rfl⟩ := ht
     simp only [isiR] at e
     split at e
     · rename_i hc
       rw [Bool.and_eq_true] at hc
       cases h : isiAny ct a ts with
       | none => rw [h] at e; cases e
       | some k =>
        rw [h] at e
        cases e
        subst hB
        have hall : ∀ t ∈ ts, ∃ d k, isi1 ct d t = some k := fun t ht => isCls_ok (List.all_eq_true.mp hc.1 t ht)
        have rt := Rep.ofSqt (C := B.C) (A := Av ρ B.O st σ) ry
        refine ⟨x, y, _, k, rfl, tyx_of rfl kc hc.2 rx, ansF (d := .bl k) rfl rel q, .inr ?_⟩
        cases rt with
        | @tup p xs _ n e2 r2 => exact .inl ⟨p, xs, _, rfl, e2, clsvs_of r2 hall, isiAny_ok kc h⟩
        | @ktup p xs _ hk r2 =>
         obtain ⟨⟨oc, od, dt, sl⟩, its, n, h1, h2, h3, h4, h5⟩ := hk
         have e5 : its.toList = ts.map (clsV B.C) := ClsV.all (clsvs_of r2 hall) h5
         dsimp only at h2 h3
         subst h2 h3
         refine .inr ⟨p, od, ts.map (clsV B.C), n, sl, rfl, ?_, isiAny_ok kc h⟩
         rw [← e5]
         exact h1
     · cases e
   · have e' : (isi1 ct a t).map (fun k => (DV.bl k, Kd.new)) = some c := by cases t <;> first | exact e | exact absurd ⟨_, rfl⟩ ht
     clear e
     cases h : isi1 ct a t with
     | none => rw [h] at e'; cases e'
     | some k =>
      rw [h] at e'
      cases e'
      have rt : Rep B.C ρ (Av ρ B.O st σ) H y t := by
       cases kb with
       | fro => exact ry
       | new => exact ry.1
       | view i => obtain ⟨p, rfl, _, c, _⟩ := ry; cases t <;> first | (cases h; done) | cases c
      subst hB
      exact ⟨x, y, _, k, rfl, tyx_of rfl kc (isi1_able h) rx, ansF (d := .bl k) rfl rel q, .inl ⟨_, clsv_of ⟨a, k, h⟩ rt, isi1_ok kc h⟩⟩
def Blt.run (ct : CT) : Blt → OpN
 | .len => f1 lenD | .abs => f1 absD | .ord => f1 ordD | .isinstance => f2 (isiR ct) | .all => f1 allD | .any => f1 anyD | .sum => f1 sumD | .max => maxD | .min => minD | .repr => f1 reprD
 | .int => f1 intC | .bool => f1 boolC | .str => f1 strC | .list => f1 listC | .tuple => f1 tupleC
theorem Blt.ok {X : Cx} {C : RC} {ct : CT} (hC : C.K = X.K) (kc : KitC C ct) (hc : X.calm = true) (hg : X.A.guards = some []) (hu : X.A.units + 65 < cLine) (b : Blt) : ∃ r, CallR X b.val r ∧ CallS C r (b.run ct) := by
 cases b
 · exact ⟨_, L2.CallR.or call_len call_lenD, by rw [← hC]; exact s_len⟩
 · exact ⟨_, call_abs, s_abs⟩
 · exact ⟨_, call_ord, s_ord⟩
 · exact ⟨_, call_isZ hC kc, s_isi kc⟩
 · exact ⟨_, cr_all hc, by rw [← hC]; exact s_all⟩
 · exact ⟨_, cr_any hc, by rw [← hC]; exact s_any⟩
 · exact ⟨_, cr_sum hc, by rw [← hC]; exact s_sum⟩
 · exact ⟨_, L2.CallR.or (call_max2 hc) (cr_max hc), by rw [← hC]; exact s_max⟩
 · exact ⟨_, L2.CallR.or (call_min2 hc) (cr_min hc), by rw [← hC]; exact s_min⟩
 · exact ⟨_, call_repr hg hu, by rw [← hC]; exact s_repr⟩
 · exact ⟨_, call_int1, s_int⟩
 · exact ⟨_, call_bool1, s_bool⟩
 · exact ⟨_, L2.CallR.or call_str_int SkE.call_str_str, s_str⟩
 · exact ⟨_, L2.CallR.or call_list_of (call_listStr hc), by rw [← hC]; exact s_list⟩
 · exact ⟨_, call_tuple_of, by rw [← hC]; exact s_tuple⟩
section
variable {X : Cx} {B : BC} {W : WX} {e : Expr} {es : List Expr} {g : Ak} {pos p : Pos} {ct : CT}
theorem pd_blt (b : Blt) (hC : B.C.K = X.K) (kc : KitC B.C ct) (hc : X.calm = true) (hg : X.A.guards = some []) (hu : X.A.units + 65 < cLine) (hgl : Gl X b.name) (hm : X.mg b.name = none) (ha : PKD X B W (e :: es) g)
 (he : starEach (e :: es) X.env = (false, eval e X.env) :: starEach es X.env) (hpl : (backTo pos (starEach es X.env)).any (·.1) = false) : PD X B W (.Call (.Name b.name p) (e :: es) [] pos) (zqp (b.run ct) g) := by
 obtain ⟨r, h1, h2⟩ := b.ok hC kc hc hg hu
 have hv := b.boot
 unfold Blt.val at h1 hv
 cases ht : b.isTy with
 | true =>
  rw [ht, if_pos rfl] at h1 hv
  exact PE.mono (pe_callTy h1 hgl hm hv ha b.nn b.nd he hpl) fun _ _ _ h => tCB_of h2 h
 | false =>
  rw [ht, if_neg Bool.false_ne_true] at h1 hv
  exact PE.mono (pe_callB h1 hgl hm hv ha b.nn b.nd he hpl) fun _ _ _ h => tCB_of h2 h
end
end D
namespace D
open PySem L2 PyProof.Rows
abbrev Fn := List DV → DS → Out (DV × Kd)
def SpF (C : RC) (F : Fn) : Sp := fun vs H Q E => ∃ ρ cs ds O, Rel ⟨C, O, H⟩ ρ ⟨[], cs⟩ [] H ∧ RepL C ρ (Av ρ O ⟨[], cs⟩ []) H vs ds ∧
 Res ⟨C, O, H⟩ (fun cls d _ H' => E cls d H') [] ρ ⟨[], cs⟩ H (F ds ⟨[], cs⟩) fun a st' ρ' H' => st'.sl = [] ∧ ∀ v, Rep C ρ' (Av ρ' O st' []) H' v a.1 → (a.2 = .new → NewC ⟨C, O, H⟩ ρ' st' [] H' v a.1) → Fresh H a.2 v → Q v H'
structure FnG (P : Program) (w : World) (K : PySem.W.Frag) (mg : Str → Option Value) (base : Heap) (k : Nat) (f : Addr) (fd : FuncData) (ps : List Str) (sp : Sp) : Prop where
 len : ∀ vs H Q E, sp vs H Q E → vs.length = ps.length
 run : ∀ (A : Around) (outer : List Env) (s : Shared) (H : Hp) (args : Args) (us : List Value) (vs : List V) (Q : VK) (E : XK), Room k A → A.guards = some [] → Env0 P w K mg base A outer s H → BindsTo s fd args (ps.zip us) → Vals vs us → sp vs H Q E →
  codeAny (model P w) A (.call (.ref f) args) (CR (L2.CX P w) outer P w H s Q E) s
theorem FnG.mono {P : Program} {w : World} {K : PySem.W.Frag} {mg : Str → Option Value} {base : Heap} {j k : Nat} {f : Addr} {fd : FuncData} {ps : List Str} {sp : Sp} (F : FnG P w K mg base j f fd ps sp) (h : j ≤ k) : FnG P w K mg base k f fd ps sp :=
 ⟨F.len, fun A outer s H args us vs Q E hr => F.run A outer s H args us vs Q E (hr.mono h)⟩
theorem FnG.of {P : Program} {w : World} {K : PySem.W.Frag} {mg : Str → Option Value} {base : Heap} {k : Nat} {f : Addr} {fd : FuncData} {ps : List Str} {sp : Sp} (F : FnOk P w K mg base (L2.CX P w) k f fd ps sp) : FnG P w K mg base k f fd ps sp :=
 ⟨F.len, fun A outer s H args us vs Q E hr _ => F.run A outer s H args us vs Q E hr⟩
theorem deeper_guards (A : Around) (env : Env) : (A.deeper env).guards = A.guards := by
 first | rfl | simp [Around.deeper]
theorem fnG_of {P : Program} {w : World} {K : PySem.W.Frag} {mg : Str → Option Value} {base : Heap} {k : Nat} {f : Addr} {name qual : Str} {params : Arguments} {body : List Stmt} {scope : Scope} {dV kV doc pm cdv ct oc : Value} {an od : Option Addr}
 {osl : Array (Option Value)} {N ps : List Str} {sp : Sp} (lk : K.lookup f = some ⟨oc, od, .func (PySem.W.fnOf name qual params body scope dV kV doc pm an cdv ct), osl⟩) (hcd : PySem.W.codeIn K cdv qual = true) (S : FnScope N ps scope)
 (len : ∀ vs H Q E, sp vs H Q E → vs.length = ps.length)
 (hbody : ∀ (A : Around) (outer : List Env) (s : Shared) (H : Hp) (vs : List V) (Q : VK) (E : XK), Room k (A.deeper (envOfC qual scope s.heap.objs.size f cdv)) → A.guards = some [] → sp vs H Q E →
  ∃ t, PSs (cxOf (L2.CX P w) P w K mg base N qual scope f cdv A outer s H E) body t ∧ t { nx := fun _ H' => Q .non H', rt := Q } (start N vs) H) :
 FnG P w K mg base (k + 1) f (PySem.W.fnOf name qual params body scope dV kV doc pm an cdv ct) ps sp := by
 refine ⟨len, fun A outer s H args us vs Q E hr hg e0 hb r hsp => ?_⟩
 have hl := len _ _ _ _ hsp
 have KX : K.In s.heap := e0.mod.kin.keeps fun b o e => (e0.bs b o e).1
 have lim : s.heap.NoLimit := e0.mod.nolimit.keeps fun b o e => (e0.bs b o e).1
 have hkind : ∀ y ∈ ps.zip us, scope.names.lookup y.1 = some .local ∨ (scope.names.lookup y.1 = some .cell ∧ ((cellsFrom (s.heap.objs.size + 1) scope.names []).lookup y.1).isSome = true) := fun ⟨n, v⟩ hy => by
  rcases S.par n (List.of_mem_zip hy).1 with q | q
  · exact .inl q
  · exact .inr ⟨q, PySem.W.cellsFrom_some _ _ _ (.inl q)⟩
 refine codeAny_call_function hr.depth (KX _ _ lk) rfl S.co S.gen rfl (PySem.W.codeRec_of KX hcd) (hb _ _ _ _ ?_)
 refine wpAny_newFunctionEnv_cells S.kind hkind fun env he s1 x => ?_
 subst he
 refine ⟨lim.keeps x.toInCall.keep, codeAny_func ?_⟩
 obtain ⟨t, ht, hq⟩ := hbody A outer s H vs Q E (hr.deeper _) hg hsp
 have I : Inv (cxOf (L2.CX P w) P w K mg base N qual scope f cdv A outer s H E) [] (start N vs) H s1 := inv_start S hr.hd e0 hl r x
 refine wpAny_mono (ht.run [] s1 (start N vs) H _ I hq) (fun fl s' hs => ?_) fun e s' hs => hs
 have fin : ∀ {σ' : L2.St} {H' : Hp} {v : V} {u : Value}, Inv (cxOf (L2.CX P w) P w K mg base N qual scope f cdv A outer s H E) [] σ' H' s' → RelV v u → Q v H' → CE outer P w H s Q u s' :=
  fun {σ' H' v u} J rv q => ⟨v, H', J.os, J.bare, J.base, J.hok, rv, q⟩
 cases fl with
 | ret u =>
  obtain ⟨v, σ', H', J, rv, q⟩ := hs
  exact fin J rv q
 | next =>
  obtain ⟨σ', H', J, q⟩ := hs
  exact fin (v := V.non) (u := Value.none) J rfl q
 | brk =>
  obtain ⟨_, _, _, q⟩ := hs
  exact False.elim q
 | cont =>
  obtain ⟨_, _, _, q⟩ := hs
  exact False.elim q
section
variable {B : BC} {σ : L2.St} {ρ ρ' : List CellA} {st : DS} {H H' : Hp} {cs' : List CellC}
theorem Step.called (rel : Rel B ρ st σ H) (pre : ρ <+: ρ') (fr : ∀ a o, H a = some o → ¬ CM ρ a → NT o → H' a = some o) (cm : ∀ a, CM ρ' a → CM ρ a ∨ H a = none) (dm : ∀ a, H a ≠ none → H' a ≠ none)
 (cel : CellsOk B.C ρ' (Av ρ' B.O ⟨st.sl, cs'⟩ σ) H' cs') (cdom : ∀ a, CM ρ' a → H' a ≠ none) (tb : LamX.Tabs B.C.T H') : Step B σ ρ st H ρ' ⟨st.sl, cs'⟩ H' := by
 have av : ∀ a, Av ρ' B.O ⟨st.sl, cs'⟩ σ a → Av ρ B.O st σ a ∨ H a = none := fun a z => by
  rcases z with z | z | z
  · exact .inl (.inl z)
  · exact (cm a z).imp (fun z => .inr (.inl z)) id
  · exact .inl (.inr (.inr z))
 have fr' : ∀ a o, H a = some o → ¬ Av ρ B.O st σ a → NT o → H' a = some o := fun a o e n => fr a o e fun z => n (.cm z)
 refine ⟨pre, ⟨rel.len, fun i d h => ?_, fun i d h => ?_, rel.dis, fun a z => dm a (rel.dom a z), fun a z => dm a (rel.odom a z), cel, cdom, tb⟩, fr, fun _ _ z => z, fun _ _ b z => ⟨b, z⟩, cm, dm⟩
 · obtain ⟨v, e, r⟩ := rel.fro i d h
   exact ⟨v, e, r.mv pre fr' av⟩
 · obtain ⟨p, e, c, n1, n2, n3⟩ := rel.own i d h
   obtain ⟨o, eo, nt⟩ := c.nt
   exact ⟨p, e, c.mv pre fr' av ((fr p o eo n1 nt).trans eo.symm), fun z => (cm p z).elim n1 fun q => (by rw [eo] at q; cases q), n2, n3⟩
end
def zqC (st : DS) : List (DV × Kd) → DS
 | [] => st
 | a :: as => zqC (st.eat a.2) as
theorem eat_cs (st : DS) (kd : Kd) : (st.eat kd).cs = st.cs := by cases kd <;> rfl
theorem eatAll_cs : ∀ (as : List (DV × Kd)) (st : DS), (zqC st as).cs = st.cs
 | [], _ => rfl
 | a :: as, st => (eatAll_cs as (st.eat a.2)).trans (eat_cs st a.2)
section
variable {B : BC} {σ : L2.St} {ρ : List CellA} {st : DS} {H : Hp}
theorem RepKs.step {ρ1 : List CellA} {st1 : DS} {H1 : Hp} (s : Step B σ ρ st H ρ1 st1 H1) : ∀ {vs : List V} {as : List (DV × Kd)}, RepKs B ρ st σ H vs as → RepKs B ρ1 st1 σ H1 vs as
 | _, _, .nil => .nil
 | _, _, .cons r t => .cons (RepK.step s r) (RepKs.step s t)
theorem eatAll_ok : ∀ {vs : List V} {as : List (DV × Kd)} {st : DS}, Rel B ρ st σ H → RepKs B ρ st σ H vs as → Step B σ ρ st H ρ (zqC st as) H ∧ RepL B.C ρ (Av ρ B.O (zqC st as) σ) H vs (as.map (·.1))
 | _, _, st, rel, .nil => ⟨.refl rel, .nil⟩
 | _, _, st, rel, .cons (a := a) (as := as) r t => by
  have s1 := Step.eat rel a.2
  obtain ⟨s2, q⟩ := eatAll_ok (st := st.eat a.2) s1.rel (RepKs.step s1 t)
  exact ⟨s1.trans s2, .cons (Rep.step s2 r.eat) q⟩
end
def isDraw : CellC → Bool
 | .draw _ => true
 | .dead => true
 | .obj _ => false
def flat1 : DV → Bool
 | .lst ds => ds.all flat
 | .tup ds => ds.all flat
 | d => flat d
def safeR (a : DV × Kd) : Bool := flat a.1 || (match a.2 with | .new => flat1 a.1 | _ => false)
def backTo' (sl : List Slot) (as : List (DV × Kd)) (o : Out (DV × Kd)) : Out (DV × Kd) := match o with
 | .ok a st2 => .ok (a.1, match a.2 with | .new => .new | _ => .fro) (if safeR a && st2.cs.all isDraw then ⟨sl, st2.cs⟩ else zqC ⟨sl, st2.cs⟩ as)
 | .exc x st2 => .exc x (zqC ⟨sl, st2.cs⟩ as)
 | .stuck => .stuck
def zqr (F : Fn) (g : Ak) : Ev := fun st => (g st).bind fun as st1 => backTo' st1.sl as (F (as.map (·.1)) ⟨[], st1.cs⟩)
theorem eatAll_sl : ∀ (as : List (DV × Kd)) (sl : List Slot) (cs cs' : List CellC), (zqC ⟨sl, cs⟩ as).sl = (zqC ⟨sl, cs'⟩ as).sl
 | [], _, _, _ => rfl
 | a :: as, sl, cs, cs' => by
  show (zqC (DS.eat ⟨sl, cs⟩ a.2) as).sl = (zqC (DS.eat ⟨sl, cs'⟩ a.2) as).sl
  cases a.2 with
  | view i => exact eatAll_sl as _ _ _
  | fro => exact eatAll_sl as _ _ _
  | new => exact eatAll_sl as _ _ _
section
variable {C : RC}
theorem av_nil {ρ : List CellA} {O : Addr → Prop} {cs : List CellC} {a : Addr} : Av ρ O ⟨[], cs⟩ [] a ↔ O a ∨ CM ρ a := by
 refine ⟨fun z => ?_, fun z => z.elim .inl fun z => .inr (.inl z)⟩
 rcases z with z | z | ⟨i, d, e, _⟩
 · exact .inl z
 · exact .inr z
 · simp at e
theorem Rep.flatR {ρ : List CellA} {A : Addr → Prop} {H : Hp} {ρ' : List CellA} {A' : Addr → Prop} {H' : Hp} {v : V} {d : DV} (hf : D.flat d = true) (r : Rep C ρ A H v d) : Rep C ρ' A' H' v d := by
 obtain rfl := Rep.flat_eq hf r
 exact Rep.flat hf
theorem RepL.flatR {ρ : List CellA} {A : Addr → Prop} {H : Hp} {ρ' : List CellA} {A' : Addr → Prop} {H' : Hp} : ∀ {vs : List V} {ds : List DV}, ds.all D.flat = true → RepL C ρ A H vs ds → RepL C ρ' A' H' vs ds
 | _, _, _, .nil => .nil
 | _, _, h, .cons r t => by
  rw [List.all_cons, Bool.and_eq_true] at h
  exact .cons (Rep.flatR h.1 r) (RepL.flatR h.2 t)
theorem cells_draw {ρ : List CellA} {A A' : Addr → Prop} {H : Hp} {cs : List CellC} (h : cs.all isDraw = true) (c : CellsOk C ρ A H cs) : CellsOk C ρ A' H cs := by
 refine ⟨c.len, fun k a x h1 h2 => ?_, c.dis⟩
 have q := c.ok k a x h1 h2
 have hx : isDraw x = true := List.all_eq_true.mp h x (List.mem_of_getElem? h2)
 cases x with
 | draw d => exact q
 | dead => trivial
 | obj d => cases hx
variable {X : Cx} {B : BC} {W : WX} {F : Fn} {g : Ak}
theorem spF_of {σ : L2.St} {ρ : List CellA} {st : DS} {H : Hp} {vs : List V} {as : List (DV × Kd)} {Q : VK} (rel : Rel B ρ st σ H) (rk : RepKs B ρ st σ H vs as)
 (r : Res B W σ ρ st H (backTo' st.sl as (F (as.map (·.1)) ⟨[], st.cs⟩)) (GE B σ H Q)) : SpF B.C F vs H Q (WE W σ) := by
 obtain ⟨s1, rl⟩ := eatAll_ok rel rk
 have re := s1.rel
 have hcs := eatAll_cs as st
 generalize est : zqC st as = se at s1 rl re hcs
 have hse : se = ⟨se.sl, st.cs⟩ := by cases se; simp at hcs; rw [hcs]
 let O : Addr → Prop := fun a => B.O a ∨ ∃ i, ownAt se σ i a
 have sub : ∀ a, Av ρ O ⟨[], st.cs⟩ [] a → Av ρ B.O se σ a := fun a z => by
  rcases av_nil.mp z with (z | z) | z
  · exact .inl z
  · exact .inr (.inr z)
  · exact .inr (.inl z)
 have mv0 : ∀ a, Av ρ O ⟨[], st.cs⟩ [] a → Av ρ B.O se σ a ∨ H a = none := fun a z => .inl (sub a z)
 have rel0 : Rel ⟨B.C, O, H⟩ ρ ⟨[], st.cs⟩ [] H := by
  refine ⟨rfl, fun i d h => by simp at h, fun i d h => by simp at h, fun i j p h => by obtain ⟨d, h, _⟩ := h; simp at h, fun a z => z, fun a z => ?_, ?_, re.cdom, re.tabs⟩
  · rcases z with z | ⟨i, z⟩
    · exact re.odom a z
    · exact re.av_dom (.inr (.inr ⟨i, z⟩))
  · have c := re.cel
    rw [hcs] at c
    refine ⟨c.len, fun k a x h1 h2 => ?_, c.dis⟩
    have q := c.ok k a x h1 h2
    cases x with
    | draw d => exact q
    | dead => trivial
    | obj d => exact ⟨q.1, q.2.mv (List.prefix_refl _) (fun _ _ e _ _ => e) mv0 rfl⟩
 refine ⟨ρ, st.cs, as.map (·.1), O, rel0, rl.mv (List.prefix_refl _) (fun _ _ e _ _ => e) mv0, ?_⟩
 -- the state of the caller behind the call, consumed
 have later : ∀ ρ' st' H', Step ⟨B.C, O, H⟩ [] ρ ⟨[], st.cs⟩ H ρ' st' H' → Step B σ ρ st H ρ' (zqC ⟨st.sl, st'.cs⟩ as) H' := fun ρ' st' H' s => by
  refine s1.trans ?_
  have e1 : zqC ⟨st.sl, st'.cs⟩ as = ⟨se.sl, st'.cs⟩ := by
   have h1 : (zqC ⟨st.sl, st'.cs⟩ as).sl = se.sl := by rw [← est]; exact eatAll_sl as st.sl st'.cs st.cs
   have h2 : (zqC ⟨st.sl, st'.cs⟩ as).cs = st'.cs := eatAll_cs as _
   cases h3 : zqC ⟨st.sl, st'.cs⟩ as with
   | mk a b => rw [h3] at h1 h2; simp at h1 h2; rw [h1, h2]
  rw [e1]
  refine Step.called re s.pre s.fr s.cm s.dm ?_ s.rel.cdom s.rel.tabs
  have c := s.rel.cel
  refine ⟨c.len, fun k a x h1 h2 => ?_, c.dis⟩
  have q := c.ok k a x h1 h2
  have mv : ∀ a, Av ρ' B.O ⟨se.sl, st'.cs⟩ σ a → Av ρ' O st' [] a ∨ H' a = none := fun a z => by
   rcases z with z | z | ⟨i, z⟩
   · exact .inl (.inl (.inl z))
   · exact .inl (.inr (.inl z))
   · exact .inl (.inl (.inr ⟨i, z⟩))
  cases x with
  | draw d => exact q
  | dead => trivial
  | obj d => exact ⟨q.1, q.2.mv (List.prefix_refl _) (fun _ _ e _ _ => e) mv rfl⟩
 have mvR : ∀ ρ' st' H', Step ⟨B.C, O, H⟩ [] ρ ⟨[], st.cs⟩ H ρ' st' H' → ∀ a, Av ρ' B.O (zqC ⟨st.sl, st'.cs⟩ as) σ a → Av ρ' O st' [] a ∨ H' a = none := fun ρ' st' H' s a z => by
  rcases z with z | z | ⟨i, z⟩
  · exact .inl (.inl (.inl z))
  · exact .inl (.inr (.inl z))
  · refine .inl (.inl (.inr ⟨i, ?_⟩))
    obtain ⟨d, z1, z2⟩ := z
    refine ⟨d, ?_, z2⟩
    rw [← est, ← z1]
    congr 1
    exact (eatAll_sl as st.sl st.cs st'.cs)
 cases e : F (as.map (·.1)) ⟨[], st.cs⟩ with
 | stuck => rw [e] at r; exact r
 | exc x st' =>
  rw [e] at r
  intro ρ' H' cls d s xr
  refine r ρ' H' cls d (later ρ' st' H' s) ?_
  obtain ⟨e1, xr⟩ := xr
  refine ⟨e1, ?_⟩
  rcases xr with xr | ⟨a, vs, h1, h2, h3, h4, h5⟩
  · exact .inl xr
  · refine .inr ⟨a, vs, h1, fun z => (mvR ρ' st' H' s a z).elim h2 fun q => (by rw [h3] at q; cases q), h3, h4, h5.mv (List.prefix_refl _) (fun _ _ e _ _ => e) (mvR ρ' st' H' s)⟩
 | ok a st' =>
  rw [e] at r
  intro ρ' H' s
  have hsl : st'.sl = [] := by
   have := s.rel.len
   cases h : st'.sl with
   | nil => rfl
   | cons x l => rw [h] at this; simp at this
  refine ⟨hsl, fun v rv nv fv => ?_⟩
  obtain ⟨d, kd⟩ := a
  by_cases hs : (safeR (d, kd) && st'.cs.all isDraw) = true
  · simp only [backTo', hs, if_true] at r
    rw [Bool.and_eq_true] at hs
    have sc : Step B σ ρ st H ρ' ⟨st.sl, st'.cs⟩ H' := Step.called rel s.pre s.fr s.cm s.dm (cells_draw hs.2 s.rel.cel) s.rel.cdom s.rel.tabs
    have hrep : Rep B.C ρ' (Av ρ' B.O ⟨st.sl, st'.cs⟩ σ) H' v d := by
     have h1 := hs.1
     unfold safeR at h1
     rw [Bool.or_eq_true] at h1
     rcases h1 with h1 | h1
     · exact Rep.flatR h1 rv
     · cases kd with
       | new =>
        have hfr : ∀ p, v = .ref p → ¬ Av ρ' O st' [] p → ¬ Av ρ' B.O ⟨st.sl, st'.cs⟩ σ p := fun p ep n z => by
         rcases z with y | y | ⟨i, y⟩
         · exact rel.av_fresh (fv p ep) (.inl y)
         · exact n (.inr (.inl y))
         · exact rel.av_fresh (fv p ep) (.inr (.inr ⟨i, y⟩))
        cases rv with
        | cls c => cases h1
        | lst n e r => exact .lst (hfr _ rfl n) (by assumption) (RepL.flatR h1 (by assumption))
        | tup n e r => exact .tup (hfr _ rfl n) (by assumption) (RepL.flatR h1 (by assumption))
        | ktup k r => exact .ktup k (RepL.flatR h1 (by assumption))
        | dct n e l r => cases h1
        | ins n e l r => cases h1
        | scr n e => cases h1
        | bor n e r => cases h1
        | fdc n e l r => cases h1
        | kscr k => cases h1
        | cel e => cases h1
        | opq a => cases h1
        | exc _ _ _ _ _ _ => cases h1
        | exc0 _ _ => cases h1
        | non => exact .non
        | bl b => exact .bl b
        | int i => exact .int i
        | str s => exact .str s
        | ty n => exact .ty n
       | fro => cases h1
       | view i => cases h1
    refine r ρ' H' sc v ?_ ?_
    · cases kd with
      | new =>
       refine ⟨hrep, fun p ep hc => ?_⟩
       have h1 := hs.1
       subst ep
       cases rv with
       | lst n e r =>
        have hf : List.all _ D.flat = true := h1
        exact ⟨_, by assumption, RepL.flatR hf (by assumption)⟩
       | dct n e l r => cases h1
       | ins n e l r => cases h1
       | _ => cases hc
      | _ => exact hrep
    · cases kd <;> first | trivial | exact fv
  · simp only [backTo', hs] at r
    have hs' : (safeR (d, kd) && st'.cs.all isDraw) = false := by simpa using hs
    refine r ρ' H' (later ρ' st' H' s) v ?_ ?_
    · have hrep := rv.mv (List.prefix_refl _) (fun _ _ e _ _ => e) (mvR ρ' st' H' s)
      cases kd with
      | new =>
       refine ⟨hrep, fun p ep hc => (nv rfl p ep hc).mv (List.prefix_refl _) (fun _ _ e _ _ => e) (fun a z => ?_) rfl⟩
       rcases z with z | z
       · exact (mvR ρ' st' H' s a z).imp .inl id
       · exact .inl (.inr z)
      | _ => exact hrep
    · cases kd <;> first | trivial | exact fv
end
def RepAny (C : RC) (vs : List V) (ds : List DV) : Prop := ∀ ρ A H, RepL C ρ A H vs ds
def akApp (g : Ak) (ds : List DV) : Ak := fun st => (g st).bind fun as st1 => .ok (as ++ ds.map fun d => (d, Kd.fro)) st1
section
variable {X : Cx} {k : Nat} {f : Addr} {fd : FuncData} {ps : List Str} {sp : Sp} {dvs : List V} {ds : List Value} {E : L2.St → XK} {x : Str} {p pos : Pos} {e : Expr} {es : List Expr} {t : TA}
theorem run_fnG {pins : List (Addr × Obj)} {σ : L2.St} {H : Hp} {s : Shared} {Q : VK} {us : List Value} {vs : List V} (F : FnG X.prog X.w X.K X.mg X.base k f fd ps sp) (hr : Room k X.A) (hg : X.A.guards = some []) (hb : Binds X.K fd ps ds) (hd : Vals dvs ds)
 (hx : PassesAt (L2.CX X.prog X.w) X σ (E σ)) (I : L2.Inv X pins σ H s) (r : Vals vs us) (h : sp (vs ++ dvs) H Q (E σ)) : wpAny (model X.prog X.w) X.A (call (.ref f) us) (EP X pins σ Q) X.xe s := by
 have r2 : Vals (vs ++ dvs) (us ++ ds) := r.append hd
 have hl : (us ++ ds).length = ps.length := by rw [← r2.length]; exact F.len _ _ _ _ h
 refine wpAny_call (codeAny_mono (F.run X.A X.stack s H ⟨us, []⟩ (us ++ ds) (vs ++ dvs) Q (E σ) hr hg I.env0 (hb s us I.kIn hl) r2 h) fun r s' hq => ?_)
 cases r with
 | error e => exact hx pins H s e s' I hq
 | ok fl =>
  cases fl with
  | ret u => exact I.after hq
  | next => exact False.elim hq
  | brk => exact False.elim hq
  | cont => exact False.elim hq
theorem pe_callG (F : FnG X.prog X.w X.K X.mg X.base k f fd ps sp) (hr : Room k X.A) (hgu : X.A.guards = some []) (hg : Gl X x) (hm : X.mg x = some (.ref f)) (hk : PySem.W.keepIn X.K (.ref f) = true) (hb : Binds X.K fd ps ds) (hd : Vals dvs ds) (hx : ∀ σ, PassesAt (L2.CX X.prog X.w) X σ (E σ))
 (ha : PA X (e :: es) t) (hdb : (x == ("__debug__" : Str)) = false) (he : starEach (e :: es) X.env = (false, eval e X.env) :: starEach es X.env) (hpl : (backTo pos (starEach es X.env)).any (·.1) = false) :
 PE X (.Call (.Name x p) (e :: es) [] pos) (tCallSD sp dvs E t) := by
 refine ⟨fun pins s σ H Q I h => ?_⟩
 refine wpAny_Call_Name_kw (ld_glob I hg hm ?_ hdb)
 refine PySem.W.callWith_K (h₀ := X.base) I.ok.mod.kin hk (thn (ha.run pos pins s σ H _ I h) fun us s1 ⟨vs, H1, I1, r, q⟩ => ⟨I1.kIn, ?_⟩) he hpl
 exact run_fnG F hr hgu hb hd (hx σ) I1 r q
theorem pe_callG0 (F : FnG X.prog X.w X.K X.mg X.base k f fd ps sp) (hr : Room k X.A) (hgu : X.A.guards = some []) (hg : Gl X x) (hm : X.mg x = some (.ref f)) (hk : PySem.W.keepIn X.K (.ref f) = true) (hb : Binds X.K fd ps ds) (hd : Vals dvs ds) (hx : ∀ σ, PassesAt (L2.CX X.prog X.w) X σ (E σ))
 (hdb : (x == ("__debug__" : Str)) = false) : PE X (.Call (.Name x p) [] [] pos) (tCallSD sp dvs E tNil) := by
 refine ⟨fun pins s σ H Q I h => ?_⟩
 refine wpAny_Call_Name_kw (ld_glob I hg hm ?_ hdb)
 exact PySem.W.callWith_K0 I.kIn hk (run_fnG (us := []) F hr hgu hb hd (hx σ) I .nil h)
variable {B : BC} {W : WX} {F : Fn} {g : Ak} {dds : List DV}
theorem RepKs.app {ρ : List CellA} {st : DS} {σ : L2.St} {H : Hp} : ∀ {vs : List V} {as : List (DV × Kd)} {ws : List V} {es : List DV}, RepKs B ρ st σ H vs as → RepL B.C ρ (Av ρ B.O st σ) H ws es → RepKs B ρ st σ H (vs ++ ws) (as ++ es.map fun d => (d, Kd.fro))
 | _, _, _, _, .nil, .nil => .nil
 | _, _, _, _, .nil, .cons r t => .cons r (RepKs.app .nil t)
 | _, _, _, _, .cons r t, q => .cons r (RepKs.app t q)
theorem tCallSD_of (hdr : RepAny B.C dvs dds) {σ : L2.St} {H : Hp} {Q : VK} (h : RD B W (zqr F (akApp g dds)) σ H Q) : tCallSD (SpF B.C F) dvs (WE W) (RK B W g) σ H Q := by
 obtain ⟨ρ, st, rel, res⟩ := h
 have res' : Res B W σ ρ st H ((g st).bind fun as st1 => backTo' st1.sl (as ++ dds.map fun d => (d, Kd.fro)) (F ((as ++ dds.map fun d => (d, Kd.fro)).map (·.1)) ⟨[], st1.cs⟩)) (GE B σ H Q) := by
  unfold zqr akApp at res
  cases e : g st with
  | ok a st1 => rw [e] at res; exact res
  | exc x st1 => rw [e] at res; exact res
  | stuck => rw [e] at res; exact res
 refine RK.go rel (Res.bind res') fun as st1 ρ1 H1 s1 r1 vs rv => ?_
 exact spF_of s1.rel (RepKs.app rv (hdr _ _ _)) (r1.imp fun _ _ _ _ _ => GE.dm s1.dm _ _ _ _)
theorem pd_fn (hC : B.C.K = X.K) (Fk : FnG X.prog X.w X.K X.mg X.base k f fd ps (SpF B.C F)) (hr : Room k X.A) (hgu : X.A.guards = some []) (hg : Gl X x) (hm : X.mg x = some (.ref f)) (hk : PySem.W.keepIn X.K (.ref f) = true) (hb : Binds X.K fd ps ds) (hd : Vals dvs ds) (hdr : RepAny B.C dvs dds) (tk : Takes X W)
 (ha : PKD X B W (e :: es) g) (hdb : (x == ("__debug__" : Str)) = false) (he : starEach (e :: es) X.env = (false, eval e X.env) :: starEach es X.env) (hpl : (backTo pos (starEach es X.env)).any (·.1) = false) :
 PD X B W (.Call (.Name x p) (e :: es) [] pos) (zqr F (akApp g dds)) :=
 PE.mono (pe_callG Fk hr hgu hg hm hk hb hd (passAt tk) ha hdb he hpl) fun _ _ _ h => tCallSD_of hdr h
theorem pd_fn0 (hC : B.C.K = X.K) (Fk : FnG X.prog X.w X.K X.mg X.base k f fd ps (SpF B.C F)) (hr : Room k X.A) (hgu : X.A.guards = some []) (hg : Gl X x) (hm : X.mg x = some (.ref f)) (hk : PySem.W.keepIn X.K (.ref f) = true) (hb : Binds X.K fd ps ds) (hd : Vals dvs ds) (hdr : RepAny B.C dvs dds) (tk : Takes X W)
 (hdb : (x == ("__debug__" : Str)) = false) : PD X B W (.Call (.Name x p) [] [] pos) (zqr F (akApp zqh dds)) := by
 refine PE.mono (pe_callG0 Fk hr hgu hg hm hk hb hd (passAt tk) hdb) fun σ H Q h => ?_
 have q := tCallSD_of hdr h
 obtain ⟨ρ, st, rel, res⟩ := q
 exact Res.now rel res [] .nil
end
end D
namespace D
open PySem L2 PyProof.Rows
inductive Fl where
 | nx | bk | ct
 | rt (d : DV) (kd : Kd)
abbrev Sv := DS → Out Fl
structure SStep (B : BC) (σ : L2.St) (ρ : List CellA) (st : DS) (H : Hp) (σ' : L2.St) (ρ' : List CellA) (st' : DS) (H' : Hp) : Prop where
 pre : ρ <+: ρ'
 rel : Rel B ρ' st' σ' H'
 fr : ∀ a o, H a = some o → ¬ CM ρ a → (∀ i, ¬ ownAt st σ i a) → NT o → H' a = some o
 av : ∀ a, Av ρ' B.O st' σ' a → Av ρ B.O st σ a ∨ H a = none
 cm : ∀ a, CM ρ' a → CM ρ a ∨ H a = none
 dm : ∀ a, H a ≠ none → H' a ≠ none
section
variable {B : BC} {W : WX} {σ σ1 σ2 : L2.St} {ρ ρ1 ρ2 : List CellA} {st st1 st2 : DS} {H H1 H2 : Hp}
theorem SStep.of (s : Step B σ ρ st H ρ1 st1 H1) : SStep B σ ρ st H σ ρ1 st1 H1 := ⟨s.pre, s.rel, fun a o e n _ => s.fr a o e n, s.av, s.cm, s.dm⟩
theorem SStep.refl (r : Rel B ρ st σ H) : SStep B σ ρ st H σ ρ st H := .of (.refl r)
theorem SStep.trans (a : SStep B σ ρ st H σ1 ρ1 st1 H1) (b : SStep B σ1 ρ1 st1 H1 σ2 ρ2 st2 H2) : SStep B σ ρ st H σ2 ρ2 st2 H2 where
 pre := a.pre.trans b.pre
 rel := b.rel
 fr := fun p o e n no nt => b.fr p o (a.fr p o e n no nt) (fun z => (a.cm p z).elim n fun q => by rw [e] at q; cases q) (fun i ow => by
  obtain ⟨d, h1, h2⟩ := id ow
  obtain ⟨q, e1, _, n1, n2, _⟩ := a.rel.own i d h1
  rw [h2] at e1
  cases e1
  rcases a.av p (.inr (.inr ⟨i, ow⟩)) with (z | z | ⟨j, z⟩) | z
  · exact n2 z
  · exact n z
  · exact no j z
  · rw [e] at z; cases z) nt
 av := fun p z => (b.av p z).elim (a.av p) fun q => .inr (none_of_dm a.dm q)
 cm := fun p z => (b.cm p z).elim (a.cm p) fun q => .inr (none_of_dm a.dm q)
 dm := fun p z => b.dm p (a.dm p z)
theorem Rep.sstep (s : SStep B σ ρ st H σ1 ρ1 st1 H1) {v : V} {d : DV} (r : Rep B.C ρ (Av ρ B.O st σ) H v d) : Rep B.C ρ1 (Av ρ1 B.O st1 σ1) H1 v d :=
 r.mv s.pre (fun a o e n => s.fr a o e (fun z => n (.cm z)) fun i z => n (.inr (.inr ⟨i, z⟩))) s.av
theorem RepL.sstep (s : SStep B σ ρ st H σ1 ρ1 st1 H1) {v : List V} {d : List DV} (r : RepL B.C ρ (Av ρ B.O st σ) H v d) : RepL B.C ρ1 (Av ρ1 B.O st1 σ1) H1 v d :=
 r.mv s.pre (fun a o e n => s.fr a o e (fun z => n (.cm z)) fun i z => n (.inr (.inr ⟨i, z⟩))) s.av
abbrev SG := Fl → L2.St → DS → List CellA → Hp → Prop
variable (B W)
def SRes (σ : L2.St) (ρ : List CellA) (st : DS) (H : Hp) (o : Out Fl) (G : SG) : Prop := match o with
 | .ok a st' => ∀ σ' ρ' H', SStep B σ ρ st H σ' ρ' st' H' → G a σ' st' ρ' H'
 | .exc x st' => ∀ σ' ρ' H' cls d, SStep B σ ρ st H σ' ρ' st' H' → XRep B ρ' st' σ' H' x cls d → W cls d σ' H'
 | .stuck => False
def GS (B : BC) (D : Ends) : SG := fun fl σ' st' ρ' H' => match fl with
 | .nx => D.nx σ' H'
 | .bk => D.bk σ' H'
 | .ct => D.ct σ' H'
 | .rt d kd => ∀ v, RepK B ρ' st' σ' H' kd v d → (kd = .new → ∀ p, v = .ref p → B.H0 p = none) → D.rt v H'
def RS (f : Sv) : TS := fun D σ H => ∃ ρ st, Rel B ρ st σ H ∧ SRes B W σ ρ st H (f st) (GS B D)
variable {B W}
def PSD (X : Cx) (B : BC) (W : WX) (s : Stmt) (f : Sv) : Prop := PS X s (RS B W f)
def PSsD (X : Cx) (B : BC) (W : WX) (s : List Stmt) (f : Sv) : Prop := PSs X s (RS B W f)
variable {o : Out Fl} {G G' : SG} {k : Fl → DS → Out Fl}
theorem SRes.from (s : SStep B σ ρ st H σ1 ρ1 st1 H1) (r : SRes B W σ ρ st H o G) : SRes B W σ1 ρ1 st1 H1 o G := by
 cases o with
 | ok a st' => exact fun σ' ρ' H' s2 => r σ' ρ' H' (s.trans s2)
 | exc x st' => exact fun σ' ρ' H' cls d s2 => r σ' ρ' H' cls d (s.trans s2)
 | stuck => exact r
theorem SRes.imp (r : SRes B W σ ρ st H o G) (h : ∀ a σ' st' ρ' H', SStep B σ ρ st H σ' ρ' st' H' → G a σ' st' ρ' H' → G' a σ' st' ρ' H') : SRes B W σ ρ st H o G' := by
 cases o with
 | ok a st' => exact fun σ' ρ' H' s => h _ _ _ _ _ s (r σ' ρ' H' s)
 | exc x st' => exact r
 | stuck => exact r
theorem SRes.bind (r : SRes B W σ ρ st H (o.bind k) G) : SRes B W σ ρ st H o fun a σ1 st1 ρ1 H1 => SRes B W σ1 ρ1 st1 H1 (k a st1) G := by
 cases o with
 | ok a st1 =>
  intro σ1 ρ1 H1 s
  exact SRes.from s (show SRes B W σ ρ st H (k a st1) G from r)
 | exc x st' => exact r
 | stuck => exact r
theorem SRes.now {a : Fl} (rel : Rel B ρ st σ H) (r : SRes B W σ ρ st H (.ok a st) G) : G a σ st ρ H := r σ ρ H (.refl rel)
theorem SRes.ex {α : Type} {o : Out α} {k : α → DS → Out Fl} (r : SRes B W σ ρ st H (o.bind k) G) : Res B W σ ρ st H o fun a st1 ρ1 H1 => SRes B W σ ρ1 st1 H1 (k a st1) G := by
 cases o with
 | ok a st1 =>
  intro ρ1 H1 s
  exact SRes.from (.of s) (show SRes B W σ ρ st H (k a st1) G from r)
 | exc x st' => exact fun ρ' H' cls d s q => r σ ρ' H' cls d (.of s) q
 | stuck => exact r
end
def zqm (f g : Sv) : Sv := fun st => (f st).bind fun fl st1 => match fl with
 | .nx => g st1
 | fl => .ok fl st1
def svNx : Sv := fun st => .ok .nx st
section
variable {X : Cx} {B : BC} {W : WX} {s : Stmt} {rest : List Stmt} {f g : Sv} {e : Expr} {fe : Ev} {pos : Pos}
theorem zqA : PSsD X B W [] svNx := PSs.mono pss_nil fun D σ H ⟨ρ, st, rel, r⟩ => SRes.now rel r
theorem zqf (h1 : PSD X B W s f) (h2 : PSsD X B W rest g) : PSsD X B W (s :: rest) (zqm f g) := by
 refine PSs.mono (pss_cons h1 h2) fun D σ H ⟨ρ, st, rel, r⟩ => ?_
 refine ⟨ρ, st, rel, (SRes.bind r).imp fun a σ1 st1 ρ1 H1 s1 r1 => ?_⟩
 cases a with
 | nx => exact ⟨ρ1, st1, s1.rel, r1⟩
 | bk => exact SRes.now (W := W) s1.rel r1
 | ct => exact SRes.now (W := W) s1.rel r1
 | rt d kd => exact SRes.now (W := W) s1.rel r1
theorem zqi (h1 : PSD X B W s f) : PSsD X B W [s] f := pss_one h1
def svExpr (fe : Ev) : Sv := fun st => (fe st).bind fun _ st1 => .ok .nx st1
theorem psd_expr (he : PD X B W e fe) (hs : swapsWith e none pos.line X.env = pure false) : PSD X B W (.Expr e pos) (svExpr fe) := by
 refine PS.mono (ps_expr he hs) fun D σ H ⟨ρ, st, rel, r⟩ => ?_
 exact RD.go rel (SRes.ex r) fun a st1 ρ1 H1 s1 r1 v rv fv => SRes.now s1.rel r1
def zqw (fe : Ev) : Sv := fun st => (fe st).bind fun a st1 => .ok (.rt a.1 a.2) st1
theorem psd_ret (he : PD X B W e fe) : PSD X B W (.Return (some e) pos) (zqw fe) := by
 refine PS.mono (ps_ret he) fun D σ H ⟨ρ, st, rel, r⟩ => ?_
 refine RD.go rel (SRes.ex r) fun a st1 ρ1 H1 s1 r1 v rv fv => ?_
 refine (show ∀ v, RepK B ρ1 st1 σ H1 a.2 v a.1 → (a.2 = .new → ∀ p, v = .ref p → B.H0 p = none) → D.rt v H1 from SRes.now s1.rel r1) v rv fun ek p ev => ?_
 rw [ek] at fv
 exact none_of_dm rel.dom (fv p ev)
def svRetN : Sv := fun st => .ok (.rt .non .new) st
def svPass : Sv := fun st => .ok .nx st
def svBreak : Sv := fun st => .ok .bk st
def svIf (t : Tv) (f g : Sv) : Sv := fun st => (t st).bind fun k st1 => if k = true then f st1 else g st1
theorem psd_if {c : Expr} {a b : List Stmt} {t : Tv} (hc : PTD X B W c t) (ha : PSsD X B W a f) (hb : PSsD X B W b g) : PSD X B W (.If c a b pos) (svIf t f g) := by
 refine PS.mono (ps_if hc ha hb) fun D σ H ⟨ρ, st, rel, r⟩ => ?_
 refine RT.go rel (SRes.ex r) fun k st1 ρ1 H1 s1 r1 => ?_
 cases k with
 | true => exact ⟨ρ1, st1, s1.rel, r1⟩
 | false => exact ⟨ρ1, st1, s1.rel, r1⟩
def svWhile (t : Tv) (f : Sv) : Nat → Sv
 | 0 => fun _ => .stuck
 | n + 1 => fun st => (t st).bind fun k st1 => if k = true then (f st1).bind fun fl st2 => (match fl with
  | .nx => svWhile t f n st2
  | .ct => svWhile t f n st2
  | .bk => .ok .nx st2
  | .rt d kd => .ok (.rt d kd) st2) else .ok .nx st1
theorem psd_while {c : Expr} {body : List Stmt} {t : Tv} (hp : PassesOwn (model X.prog X.w) X.A X.env X.xe) (hc : PTD X B W c t) (hb : PSsD X B W body f) (n : Nat) : PSD X B W (.While c body [] pos) (svWhile t f n) := by
 refine PS.mono (ps_while hp hc hb) fun D σ H ⟨ρ, st, rel, r⟩ => ?_
 refine ⟨fun m σ H => ∃ ρ st, Rel B ρ st σ H ∧ SRes B W σ ρ st H (svWhile t f m st) (GS B D), ⟨n, ρ, st, rel, r⟩, fun m σ H hW => ?_⟩
 obtain ⟨ρ, st, rel, r⟩ := hW
 cases m with
 | zero => exact r.elim
 | succ m =>
  refine RT.go rel (SRes.ex r) fun k st1 ρ1 H1 s1 r1 => ?_
  cases k with
  | false => exact SRes.now s1.rel r1
  | true =>
   rw [if_pos rfl]
   rw [if_pos rfl] at r1
   refine ⟨fun σ' H' => ∃ ρ' st', Rel B ρ' st' σ' H' ∧ SRes B W σ' ρ' st' H' (svWhile t f m st') (GS B D), fun σ' H' hN => ⟨m, Nat.lt_succ_self m, hN⟩, ⟨ρ1, st1, s1.rel, (SRes.bind r1).imp fun fl σ2 st2 ρ2 H2 s2 r2 => ?_⟩⟩
   cases fl with
   | nx => exact ⟨ρ2, st2, s2.rel, r2⟩
   | ct => exact ⟨ρ2, st2, s2.rel, r2⟩
   | bk => exact SRes.now (W := W) s2.rel r2
   | rt d kd => exact SRes.now (W := W) s2.rel r2
def zqI (c : Nat) : Sv := fun st => .exc ⟨c, [], []⟩ st
theorem psd_raise {c : Nat} {e : Expr} (hc : X.calm = true) (tk : Takes X W) (he : PMk X e (fun _ H Q => Q (.ref (B.C.cls c)) none H)) : PSD X B W (.Raise (some e) none pos) (zqI c) := by
 refine PS.mono (ps_raise hc tk he) fun D σ H ⟨ρ, st, rel, r⟩ => ?_
 exact r σ ρ H _ _ (.refl rel) ⟨rfl, .inl ⟨rfl, rfl, rfl⟩⟩
end
def DS.put (st : DS) (i : Nat) (a : DV × Kd) : DS := match a.2 with
 | .new => ⟨st.sl.set i (some (a.1, isCont a.1 && st.cs.all isDraw)), st.cs⟩
 | kd => ⟨(st.eat kd).sl.set i (some (a.1, false)), st.cs⟩
section
variable {B : BC} {W : WX} {σ : L2.St} {ρ ρ1 : List CellA} {st st1 : DS} {H H1 : Hp}
theorem put_own {i j : Nat} {d : DV} {v : V} {p : Addr} (h : ownAt ⟨st.sl.set i (some (d, false)), st.cs⟩ (σ.set i (some v)) j p) : ownAt st σ j p ∧ j ≠ i := by
 obtain ⟨e, h1, h2⟩ := h
 by_cases hj : j = i
 · subst hj
   dsimp only at h1
   by_cases hl : j < st.sl.length
   · rw [List.getElem?_set_self hl] at h1; cases h1
   · rw [List.getElem?_eq_none (by rw [List.length_set]; omega)] at h1; cases h1
 · refine ⟨⟨e, ?_, ?_⟩, hj⟩
   · rw [← h1]; exact (List.getElem?_set_ne (Ne.symm hj)).symm
   · rw [← h2]; exact (List.getElem?_set_ne (Ne.symm hj)).symm
theorem SStep.putF (r : Rel B ρ st σ H) {i : Nat} {v : V} {d : DV} (hv : Rep B.C ρ (Av ρ B.O st σ) H v d) : SStep B σ ρ st H (σ.set i (some v)) ρ ⟨st.sl.set i (some (d, false)), st.cs⟩ H := by
 have av : ∀ a, Av ρ B.O ⟨st.sl.set i (some (d, false)), st.cs⟩ (σ.set i (some v)) a → Av ρ B.O st σ a := fun a z => by
  rcases z with z | z | ⟨j, z⟩
  · exact .inl z
  · exact .inr (.inl z)
  · exact .inr (.inr ⟨j, (put_own z).1⟩)
 have mv : ∀ a, Av ρ B.O ⟨st.sl.set i (some (d, false)), st.cs⟩ (σ.set i (some v)) a → Av ρ B.O st σ a ∨ H a = none := fun a z => .inl (av a z)
 refine ⟨List.prefix_refl _, ⟨by simp [r.len], fun j e h => ?_, fun j e h => ?_, fun j k p h1 h2 => r.dis j k p (put_own h1).1 (put_own h2).1, r.dom, r.odom, ⟨r.cel.len, fun k c x h1 h2 => ?_, r.cel.dis⟩, r.cdom, r.tabs⟩, fun _ _ e _ _ _ => e, mv, fun _ z => .inl z, fun _ z => z⟩
 · by_cases hj : j = i
   · subst hj
     dsimp only at h
     by_cases hl : j < st.sl.length
     · rw [List.getElem?_set_self hl] at h
       cases h
       exact ⟨v, List.getElem?_set_self (by rw [← r.len]; exact hl), hv.mv (List.prefix_refl _) (fun _ _ e _ _ => e) mv⟩
     · rw [List.getElem?_eq_none (by rw [List.length_set]; omega)] at h; cases h
   · have h' : st.sl[j]? = some (some (e, false)) := by rw [← h]; exact (List.getElem?_set_ne (Ne.symm hj)).symm
     obtain ⟨w, e1, q⟩ := r.fro j e h'
     exact ⟨w, by rw [List.getElem?_set_ne (Ne.symm hj)]; exact e1, q.mv (List.prefix_refl _) (fun _ _ e _ _ => e) mv⟩
 · by_cases hj : j = i
   · subst hj
     dsimp only at h
     by_cases hl : j < st.sl.length
     · rw [List.getElem?_set_self hl] at h; cases h
     · rw [List.getElem?_eq_none (by rw [List.length_set]; omega)] at h; cases h
   · have h' : st.sl[j]? = some (some (e, true)) := by rw [← h]; exact (List.getElem?_set_ne (Ne.symm hj)).symm
     obtain ⟨p, e1, q, n⟩ := r.own j e h'
     exact ⟨p, by rw [List.getElem?_set_ne (Ne.symm hj)]; exact e1, q.mv (List.prefix_refl _) (fun _ _ e _ _ => e) mv rfl, n⟩
 · have q := r.cel.ok k c x h1 h2
   cases x with
   | draw d => exact q
   | obj d => exact ⟨q.1, q.2.mv (List.prefix_refl _) (fun _ _ e _ _ => e) mv rfl⟩
   | dead => trivial
theorem SStep.putO (r0 : Rel B ρ st σ H) (s : Step B σ ρ st H ρ1 st1 H1) {i : Nat} {p : Addr} {d : DV} (hc : isCont d = true) (hd : st1.cs.all isDraw = true) (hv : RepK B ρ1 st1 σ H1 .new (.ref p) d) (hp : H p = none) :
 SStep B σ ρ st H (σ.set i (some (.ref p))) ρ1 ⟨st1.sl.set i (some (d, true)), st1.cs⟩ H1 := by
 have r1 := s.rel
 have own1 : ∀ j q, ownAt ⟨st1.sl.set i (some (d, true)), st1.cs⟩ (σ.set i (some (.ref p))) j q → (j = i ∧ q = p) ∨ (j ≠ i ∧ ownAt st1 σ j q) := fun j q ⟨e, h1, h2⟩ => by
  by_cases hj : j = i
  · subst hj
    refine .inl ⟨rfl, ?_⟩
    by_cases hl : j < σ.length
    · rw [List.getElem?_set_self hl] at h2; cases h2; rfl
    · rw [List.getElem?_eq_none (by rw [List.length_set]; omega)] at h2; cases h2
  · refine .inr ⟨hj, e, ?_, ?_⟩
    · rw [← h1]; exact (List.getElem?_set_ne (Ne.symm hj)).symm
    · rw [← h2]; exact (List.getElem?_set_ne (Ne.symm hj)).symm
 have npO : ¬ B.O p := fun z => r0.av_fresh hp (.inl z)
 -- p is none of what was there
 have av0 : ∀ a, Av ρ1 B.O ⟨st1.sl.set i (some (d, true)), st1.cs⟩ (σ.set i (some (.ref p))) a → Av ρ B.O st σ a ∨ H a = none := fun a z => by
  rcases z with z | z | ⟨j, z⟩
  · exact .inl (.inl z)
  · exact (s.cm a z).imp (fun z => .inr (.inl z)) id
  · rcases own1 j a z with ⟨_, rfl⟩ | ⟨_, z⟩
    · exact .inr hp
    · exact .inl (.inr (.inr ⟨j, s.sub j a z⟩))
 have fr0 : ∀ a o, H a = some o → ¬ Av ρ B.O st σ a → NT o → H1 a = some o := fun a o e n => s.fr a o e fun z => n (.cm z)
 have notown : ∀ j q, ownAt st σ j q → q ≠ p := fun j q z e => by subst e; exact r0.av_fresh hp (.inr (.inr ⟨j, z⟩))
 obtain ⟨hv, nv⟩ := hv
 have ncm : ¬ CM ρ1 p := fun z => by
  cases hv with
  | lst n' _ _ => exact n' (.inr (.inl z))
  | dct n' _ _ _ => exact n' (.inr (.inl z))
  | ins n' _ _ _ => exact n' (.inr (.inl z))
  | _ => cases hc
 have cont : Cont B.C ρ1 (Av ρ1 B.O ⟨st1.sl.set i (some (d, true)), st1.cs⟩ (σ.set i (some (.ref p)))) H1 p d := by
  refine (nv p rfl hc).mv (List.prefix_refl _) (fun _ _ e _ _ => e) (fun a z => .inl ?_) rfl
  rcases z with z | z | ⟨j, z⟩
  · exact .inl (.inl z)
  · exact .inl (.inr (.inl z))
  · rcases own1 j a z with ⟨_, rfl⟩ | ⟨_, z⟩
    · exact .inr rfl
    · exact .inl (.inr (.inr ⟨j, z⟩))
 refine ⟨s.pre, ⟨by simp [r1.len], fun j e h => ?_, fun j e h => ?_, fun j k q h1 h2 => ?_, r1.dom, r1.odom, cells_draw hd r1.cel, r1.cdom, r1.tabs⟩, fun a o e n _ => s.fr a o e n, av0, s.cm, s.dm⟩
 · by_cases hj : j = i
   · subst hj
     dsimp only at h
     by_cases hl : j < st1.sl.length
     · rw [List.getElem?_set_self hl] at h; cases h
     · rw [List.getElem?_eq_none (by rw [List.length_set]; omega)] at h; cases h
   · have h' : st1.sl[j]? = some (some (e, false)) := by rw [← h]; exact (List.getElem?_set_ne (Ne.symm hj)).symm
     obtain ⟨c, h0⟩ := s.sl j e false h'
     rw [List.getElem?_set_ne (Ne.symm hj)]
     cases c with
     | false =>
      obtain ⟨w, e1, q⟩ := r0.fro j e h0
      exact ⟨w, e1, q.mv s.pre fr0 av0⟩
     | true =>
      obtain ⟨w, e1, q, n1, n2, n3⟩ := r0.own j e h0
      obtain ⟨o, eo, nteo⟩ := q.nt
      refine ⟨_, e1, (q.mv s.pre fr0 av0 ((s.fr w o eo n1 nteo).trans eo.symm)).rep (fun a z => z) fun z => ?_⟩
      rcases z with z | z | ⟨k, z⟩
      · exact n2 z
      · rcases s.cm w z with z | z
        · exact n1 z
        · rw [eo] at z; cases z
      · rcases own1 k w z with ⟨_, rfl⟩ | ⟨hk, z⟩
        · exact notown j w ⟨e, h0, e1⟩ rfl
        · have z0 := s.sub k w z
          obtain rfl := r0.dis k j w z0 ⟨e, h0, e1⟩
          obtain ⟨e', z1, _⟩ := z
          rw [h'] at z1
          cases z1
 · by_cases hj : j = i
   · subst hj
     dsimp only at h
     by_cases hl : j < st1.sl.length
     · rw [List.getElem?_set_self hl] at h
       cases h
       exact ⟨p, List.getElem?_set_self (by rw [← r1.len]; exact hl), cont, ncm, npO, none_of_dm r0.dom hp⟩
     · rw [List.getElem?_eq_none (by rw [List.length_set]; omega)] at h; cases h
   · have h' : st1.sl[j]? = some (some (e, true)) := by rw [← h]; exact (List.getElem?_set_ne (Ne.symm hj)).symm
     obtain ⟨w, e1, q1, n1, n2, n3⟩ := r1.own j e h'
     obtain ⟨c, h0⟩ := s.sl j e true h'
     have z0 := s.sub j w ⟨e, h', e1⟩
     obtain ⟨e0, h00, _⟩ := z0
     obtain ⟨w', e1', q, m1, m2, m3⟩ := r0.own j e0 h00
     rw [e1] at e1'
     cases e1'
     rw [h0] at h00
     cases h00
     obtain ⟨o, eo, nteo⟩ := q.nt
     exact ⟨w, by rw [List.getElem?_set_ne (Ne.symm hj)]; exact e1, q.mv s.pre fr0 av0 ((s.fr w o eo m1 nteo).trans eo.symm), n1, n2, n3⟩
 · rcases own1 j q h1 with ⟨rfl, rfl⟩ | ⟨hj, z1⟩
   · rcases own1 k q h2 with ⟨rfl, _⟩ | ⟨hk, z2⟩
     · rfl
     · exact absurd rfl (notown k q (s.sub k q z2))
   · rcases own1 k q h2 with ⟨rfl, rfl⟩ | ⟨hk, z2⟩
     · exact absurd rfl (notown j q (s.sub j q z1))
     · exact r1.dis j k q z1 z2
end
end D
namespace D
open PySem L2 PyProof.Rows
section
variable {X : Cx} {B : BC} {W : WX} {σ : L2.St} {ρ ρ1 : List CellA} {st st1 : DS} {H H1 : Hp} {f g : Sv} {e : Expr} {fe : Ev} {pos : Pos}
theorem Rep.ref_of_cont {C : RC} {ρ : List CellA} {A : Addr → Prop} {H : Hp} {v : V} {d : DV} (h : isCont d = true) (r : Rep C ρ A H v d) : ∃ p, v = .ref p := by
 cases r <;> first | exact ⟨_, rfl⟩ | cases h
theorem SStep.put (r0 : Rel B ρ st σ H) (s : Step B σ ρ st H ρ1 st1 H1) {i : Nat} {a : DV × Kd} {v : V} (hv : RepK B ρ1 st1 σ H1 a.2 v a.1) (fv : Fresh H a.2 v) : SStep B σ ρ st H (σ.set i (some v)) ρ1 (st1.put i a) H1 := by
 obtain ⟨d, kd⟩ := a
 cases kd with
 | fro => exact (SStep.of s).trans (SStep.putF s.rel hv)
 | view j =>
  have s2 := Step.eat s.rel (.view j)
  exact (SStep.of (s.trans s2)).trans (SStep.putF s2.rel hv.eat)
 | new =>
  show SStep B σ ρ st H _ ρ1 ⟨st1.sl.set i (some (d, isCont d && st1.cs.all isDraw)), st1.cs⟩ H1
  cases hb : isCont d && st1.cs.all isDraw with
  | false => exact (SStep.of s).trans (SStep.putF s.rel hv.1)
  | true =>
   rw [Bool.and_eq_true] at hb
   obtain ⟨p, rfl⟩ := Rep.ref_of_cont hb.1 hv.1
   exact SStep.putO r0 s hb.1 hb.2 hv (fv p rfl)
theorem SRes.ex0 {α : Type} {o : Out α} {k : α → DS → Out Fl} {G : SG} (r : SRes B W σ ρ st H (o.bind k) G) : Res B W σ ρ st H o fun a st1 _ _ => SRes B W σ ρ st H (k a st1) G := by
 cases o with
 | ok a st1 => exact fun _ _ _ => r
 | exc x st' => exact fun ρ' H' cls d s q => r σ ρ' H' cls d (.of s) q
 | stuck => exact r
def zqs (i : Nat) (fe : Ev) : Sv := fun st => (fe st).bind fun a st1 => .ok .nx (st1.put i a)
theorem rs_set {i : Nat} {te : TE} (ht : ∀ σ H Q, RD B W fe σ H Q → te σ H Q) {D : Ends} (h : RS B W (zqs i fe) D σ H) : tAsg te (gName i) D σ H := by
 obtain ⟨ρ, st, rel, r⟩ := h
 refine ht σ H _ ?_
 refine RD.go rel (SRes.ex0 r) fun a st1 ρ1 H1 s1 r1 v rv fv => ?_
 exact r1 _ _ _ (SStep.put (i := i) rel s1 rv fv)
theorem psd_set {i : Nat} {x : Str} {pos' : Pos} (hN : X.N.Nodup) (hi : X.N[i]? = some x) (hx : Loc X.env.scope x) (he : PD X B W e fe) (hs : swapsWith e (some (.Name x pos')) pos.line X.env = pure false) (hf : X.fn x = true ∨ X.env.scope.names.lookup x = some .local) :
 PSD X B W (.Assign [.Name x pos'] e pos) (zqs i fe) := by
 refine PS.mono (ps_set hN hi hx he hs hf) fun D σ H h => rs_set (fun _ _ _ h => h) h
abbrev Gv := DV → DS → Option DS
structure Only (vs : List Nat) (st : DS) (σ : L2.St) (st' : DS) (σ' : L2.St) : Prop where
 len : σ'.length = σ.length
 out : ∀ (i : Nat), i ∉ vs → σ'[i]? = σ[i]? ∧ st'.sl[i]? = st.sl[i]?
 own : ∀ (i : Nat) (d : DV), st'.sl[i]? = some (some (d, true)) → st.sl[i]? = some (some (d, true))
theorem Only.refl {vs : List Nat} : Only vs st σ st σ := ⟨rfl, fun _ _ => ⟨rfl, rfl⟩, fun _ _ h => h⟩
theorem Only.trans {vs ws : List Nat} {σ1 σ2 : L2.St} {st2 : DS} (a : Only vs st σ st1 σ1) (b : Only ws st1 σ1 st2 σ2) : Only (vs ++ ws) st σ st2 σ2 :=
 ⟨b.len.trans a.len, fun i h => by
  rw [List.mem_append, not_or] at h
  exact ⟨(b.out i h.2).1.trans (a.out i h.1).1, (b.out i h.2).2.trans (a.out i h.1).2⟩, fun i d h => a.own i d (b.own i d h)⟩
def RG (C : RC) (vs : List Nat) (f : Gv) : TG := fun v σ H Q => ∃ B ρ st d st', B.C = C ∧ Rel B ρ st σ H ∧ Rep B.C ρ (Av ρ B.O st σ) H v d ∧ f d st = some st' ∧ ∀ σ', SStep B σ ρ st H σ' ρ st' H → Only vs st σ st' σ' → Q σ' H
def RGs (C : RC) (vs : List Nat) (f : List DV → DS → Option DS) : TGs := fun xs σ H Q => ∃ B ρ st ds st', B.C = C ∧ Rel B ρ st σ H ∧ RepL B.C ρ (Av ρ B.O st σ) H xs ds ∧ f ds st = some st' ∧ ∀ σ', SStep B σ ρ st H σ' ρ st' H → Only vs st σ st' σ' → Q σ' H
def PGD (X : Cx) (C : RC) (vs : List Nat) (tg : Expr) (f : Gv) : Prop := PG X tg (RG C vs f)
def PGsD (X : Cx) (C : RC) (vs : List Nat) (tg : List Expr) (f : List DV → DS → Option DS) : Prop := PGs X tg (RGs C vs f)
theorem PG.mono {X : Cx} {e : Expr} {t t' : TG} (h : PG X e t) (m : ∀ v σ H Q, t' v σ H Q → t v σ H Q) : PG X e t' := ⟨fun pins s σ H v u Q I r q => h.run pins s σ H v u Q I r (m _ _ _ _ q)⟩
theorem PGs.mono {X : Cx} {e : List Expr} {t t' : TGs} (h : PGs X e t) (m : ∀ v σ H Q, t' v σ H Q → t v σ H Q) : PGs X e t' := ⟨fun pins s σ H v u Q I r q => h.run pins s σ H v u Q I r (m _ _ _ _ q)⟩
variable {C : RC} {vs ws : List Nat}
def zqq (i : Nat) : Gv := fun d st => some ⟨st.sl.set i (some (d, false)), st.cs⟩
theorem pgd_name {i : Nat} {x : Str} (hN : X.N.Nodup) (hi : X.N[i]? = some x) (hx : Loc X.env.scope x) (hf : X.fn x = true ∨ X.env.scope.names.lookup x = some .local) : PGD X C [i] (.Name x pos) (zqq i) := by
 refine PG.mono (pg_name hN hi hx hf) fun v σ H Q ⟨B, ρ, st, d, st', eC, rel, rv, e, q⟩ => ?_
 cases e
 refine q _ (SStep.putF rel rv) ⟨by simp, fun j hj => ?_, fun j e h => ?_⟩
 · have hj : i ≠ j := fun z => hj (by simp [z])
   exact ⟨List.getElem?_set_ne hj, List.getElem?_set_ne hj⟩
 · by_cases hj : i = j
   · subst hj
     dsimp only at h
     by_cases hl : i < st.sl.length
     · rw [List.getElem?_set_self hl] at h; cases h
     · rw [List.getElem?_eq_none (by rw [List.length_set]; omega)] at h; cases h
   · rw [← h]; exact (List.getElem?_set_ne hj).symm
def gvNil : List DV → DS → Option DS := fun ds st => match ds with | [] => some st | _ => none
def zqD (f : Gv) (g : List DV → DS → Option DS) : List DV → DS → Option DS := fun (ds : List DV) st => match ds with
 | d :: r => (match f d st with | some st1 => g r st1 | none => none)
 | [] => none
theorem pgsd_nil : PGsD X C [] [] gvNil := by
 refine PGs.mono pgs_nil fun vs σ H Q ⟨B, ρ, st, ds, st', eC, rel, rv, e, q⟩ => ?_
 cases rv with
 | nil =>
  cases e
  exact ⟨rfl, q _ (.refl rel) .refl⟩
 | cons _ _ => cases e
theorem pgsd_cons {e : Expr} {es : List Expr} {f : Gv} {g : List DV → DS → Option DS} (h1 : PGD X C vs e f) (h2 : PGsD X C ws es g) (hs : (assignEach (e :: es) X.env).map (·.2) = assign e X.env :: (assignEach es X.env).map (·.2)) : PGsD X C (vs ++ ws) (e :: es) (zqD f g) := by
 refine PGs.mono (pgs_cons h1 h2 hs) fun xs σ H Q ⟨B, ρ, st, ds, st', eC, rel, rv, e, q⟩ => ?_
 cases rv with
 | nil => cases e
 | @cons v vs' d ds' r t =>
  simp only [zqD] at e
  cases e1 : f d st with
  | none => rw [e1] at e; cases e
  | some st1 =>
   rw [e1] at e
   exact ⟨_, _, rfl, B, ρ, st, d, st1, eC, rel, r, e1, fun σ1 s1 o1 => ⟨B, ρ, st1, ds', st', eC, s1.rel, RepL.sstep s1 t, e, fun σ2 s2 o2 => q σ2 (s1.trans s2) (o1.trans o2)⟩⟩
def gvTup (n : Nat) (g : List DV → DS → Option DS) : Gv := fun d st => match d with
 | .tup ds => if ds.length = n then g ds st else none
 | _ => none
theorem sqT_of {C : RC} {ρ : List CellA} {A : Addr → Prop} {H : Hp} {v : V} {ds : List DV} (r : Rep C ρ A H v (.tup ds)) : ∃ a xs, v = .ref a ∧ SqT C.K H a xs ∧ RepL C ρ A H xs ds := by
 cases r with
 | tup n e r => exact ⟨_, _, rfl, .inl (.inl e), r⟩
 | ktup k r => exact ⟨_, _, rfl, .inr k, r⟩
theorem pgd_tup {es : List Expr} {k : Nat} {g : List DV → DS → Option DS} {n : Nat} (hK : C.K = X.K) (hc : X.calm = true) (h : PGsD X C vs es g) (hn : (assignEach es X.env).length = n) (hst : (assignEach es X.env).findIdx? (·.1) = none) : PGD X C vs (.Tuple es k pos) (gvTup n g) := by
 refine PG.mono (pg_tup hc h hn hst) fun v σ H Q ⟨B, ρ, st, d, st', eC, rel, rv, e, q⟩ => ?_
 cases d <;> try (cases e; done)
 rename_i ds
 simp only [gvTup] at e
 split at e
 · rename_i hl
   obtain ⟨a, xs, rfl, hq, rl⟩ := sqT_of rv
   exact ⟨a, xs, rfl, by rw [← hK, ← eC]; exact hq, rl.length.trans hl, B, ρ, st, ds, st', eC, rel, rl, e, q⟩
 · cases e
def svAsg (fe : Ev) (g : Gv) : Sv := fun st => (fe st).bind fun a st1 => match g a.1 (st1.eat a.2) with
 | some st2 => .ok .nx st2
 | none => .stuck
theorem psd_asg {tg e : Expr} {g : Gv} (he : PD X B W e fe) (hg : PGD X B.C vs tg g) (hs : swapsWithSole [tg] e pos.line X.env = pure false) (hw : swappedStores [tg] e X.env = pure none)
 (h1 : (assignEach [tg] X.env).map (·.2) = [assign tg X.env]) : PSD X B W (.Assign [tg] e pos) (svAsg fe g) := by
 refine PS.mono (ps_asg he hg hs hw h1) fun D σ H ⟨ρ, st, rel, r⟩ => ?_
 refine RD.go rel (SRes.ex r) fun a st1 ρ1 H1 s1 r1 v rv fv => ?_
 have s2 := Step.eat s1.rel a.2
 cases eg : g a.1 (st1.eat a.2) with
 | none => rw [eg] at r1; exact r1.elim
 | some st2 =>
  rw [eg] at r1
  exact ⟨B, ρ1, _, a.1, st2, rfl, s2.rel, rv.eat, eg, fun σ' s3 _ => r1 _ _ _ ((SStep.of s2).trans s3)⟩
def BC.hold (B : BC) (p : Addr) : BC := ⟨B.C, fun a => B.O a ∨ a = p, B.H0⟩
variable {σ1 : L2.St} {p : Addr}
theorem av_hold {O : Addr → Prop} {a : Addr} : Av ρ (fun a => O a ∨ a = p) st σ a → Av ρ O st σ a ∨ a = p := fun z => by
 rcases z with (z | z) | z | z
 · exact .inl (.inl z)
 · exact .inr z
 · exact .inl (.inr (.inl z))
 · exact .inl (.inr (.inr z))
theorem hold_av {O : Addr → Prop} {a : Addr} : Av ρ O st σ a ∨ a = p → Av ρ (fun a => O a ∨ a = p) st σ a := fun z => by
 rcases z with (z | z | z) | z
 · exact .inl (.inl z)
 · exact .inr (.inl z)
 · exact .inr (.inr z)
 · exact .inl (.inr z)
theorem Rel.hold (r0 : Rel B ρ st σ H) (s : Step B σ ρ st H ρ1 st1 H1) (hd : st1.cs.all isDraw = true) (hp : H p = none) (h1 : H1 p ≠ none) : Rel (B.hold p) ρ1 st1 σ H1 := by
 have r1 := s.rel
 have fr0 : ∀ a o, H a = some o → ¬ Av ρ B.O st σ a → NT o → H1 a = some o := fun a o e n => s.fr a o e fun z => n (.cm z)
 have av0 : ∀ a, Av ρ1 (B.hold p).O st1 σ a → Av ρ B.O st σ a ∨ H a = none := fun a z => by
  rcases av_hold z with z | rfl
  · exact s.av a z
  · exact .inr hp
 refine ⟨r1.len, fun j e h => ?_, fun j e h => ?_, r1.dis, r1.dom, fun a z => ?_, cells_draw hd r1.cel, r1.cdom, r1.tabs⟩
 · obtain ⟨c, h0⟩ := s.sl j e false h
   cases c with
   | false =>
    obtain ⟨w, e1, q⟩ := r0.fro j e h0
    exact ⟨w, e1, q.mv s.pre fr0 av0⟩
   | true =>
    obtain ⟨w, e1, q, n1, n2, n3⟩ := r0.own j e h0
    obtain ⟨o, eo, nteo⟩ := q.nt
    obtain ⟨w', e1', q'⟩ := r1.fro j e h
    rw [e1] at e1'
    cases e1'
    refine ⟨_, e1, (q.mv s.pre fr0 av0 ((s.fr w o eo n1 nteo).trans eo.symm)).rep (fun a z => z) fun z => ?_⟩
    rcases av_hold z with z | rfl
    · rcases z with z | z | ⟨k, z⟩
      · exact n2 z
      · rcases s.cm w z with z | z
        · exact n1 z
        · rw [eo] at z; cases z
      · have z0 := s.sub k w z
        obtain rfl := r0.dis k j w z0 ⟨e, h0, e1⟩
        obtain ⟨e', z1, _⟩ := z
        rw [h] at z1
        cases z1
    · rw [eo] at hp; cases hp
 · obtain ⟨w, e1, q1, n1, n2, n3⟩ := r1.own j e h
   obtain ⟨c, h0⟩ := s.sl j e true h
   obtain ⟨e0, h00, _⟩ := s.sub j w ⟨e, h, e1⟩
   obtain ⟨w', e1', q, m1, m2, m3⟩ := r0.own j e0 h00
   rw [e1] at e1'
   cases e1'
   rw [h0] at h00
   cases h00
   obtain ⟨o, eo, nteo⟩ := q.nt
   refine ⟨w, e1, q.mv s.pre fr0 av0 ((s.fr w o eo m1 nteo).trans eo.symm), n1, fun z => ?_, n3⟩
   rcases z with z | rfl
   · exact n2 z
   · rw [eo] at hp; cases hp
 · rcases z with z | rfl
   · exact r1.odom a z
   · exact h1
theorem Rel.unhold (r : Rel (B.hold p) ρ st σ H) : Rel B ρ st σ H := by
 have mv : ∀ a, Av ρ B.O st σ a → Av ρ (B.hold p).O st σ a ∨ H a = none := fun a z => .inl (hold_av (.inl z))
 refine ⟨r.len, fun i d h => ?_, fun i d h => ?_, r.dis, r.dom, fun a z => r.odom a (.inl z), ⟨r.cel.len, fun k c x h1 h2 => ?_, r.cel.dis⟩, r.cdom, r.tabs⟩
 · obtain ⟨v, e, q⟩ := r.fro i d h
   exact ⟨v, e, q.mv (List.prefix_refl _) (fun _ _ e _ _ => e) mv⟩
 · obtain ⟨q, e, c, n1, n2, n3⟩ := r.own i d h
   exact ⟨q, e, c.mv (List.prefix_refl _) (fun _ _ e _ _ => e) mv rfl, n1, fun z => n2 (.inl z), n3⟩
 · have q := r.cel.ok k c x h1 h2
   cases x with
   | draw d => exact q
   | obj d => exact ⟨q.1, q.2.mv (List.prefix_refl _) (fun _ _ e _ _ => e) mv rfl⟩
   | dead => trivial
theorem SStep.unhold (s0 : Step B σ ρ st H ρ1 st1 H1) {ρ2 : List CellA} {st2 : DS} {H2 : Hp} (hp : H p = none) (s : SStep (B.hold p) σ ρ1 st1 H1 σ1 ρ2 st2 H2) : SStep B σ ρ st H σ1 ρ2 st2 H2 where
 pre := s0.pre.trans s.pre
 rel := s.rel.unhold
 fr := fun a o e n no nt => s.fr a o (s0.fr a o e n nt) (fun z => (s0.cm a z).elim n fun q => by rw [e] at q; cases q) (fun i ow => no i (s0.sub i a ow)) nt
 av := fun a z => by
  rcases s.av a (hold_av (.inl z)) with z | z
  · rcases av_hold z with z | rfl
    · exact s0.av a z
    · exact .inr hp
  · exact .inr (none_of_dm s0.dm z)
 cm := fun a z => (s.cm a z).elim (s0.cm a) fun q => .inr (none_of_dm s0.dm q)
 dm := fun a z => s.dm a (s0.dm a z)
theorem Step.unhold (s0 : Step B σ ρ st H ρ1 st1 H1) {ρ2 : List CellA} {st2 : DS} {H2 : Hp} (s : Step (B.hold p) σ ρ1 st1 H1 ρ2 st2 H2) : Step B σ ρ st H ρ2 st2 H2 where
 pre := s0.pre.trans s.pre
 rel := s.rel.unhold
 fr := fun a o e n nt => s.fr a o (s0.fr a o e n nt) (fun z => (s0.cm a z).elim n fun q => by rw [e] at q; cases q) nt
 sub := fun i a z => s0.sub i a (s.sub i a z)
 sl := fun i d b z => let ⟨c, z'⟩ := s.sl i d b z; s0.sl i d c z'
 cm := fun a z => (s.cm a z).elim (s0.cm a) fun q => .inr (none_of_dm s0.dm q)
 dm := fun a z => s.dm a (s0.dm a z)
theorem Rep.unhold {v : V} {d : DV} (r : Rep B.C ρ (Av ρ (B.hold p).O st σ) H v d) : Rep B.C ρ (Av ρ B.O st σ) H v d :=
 r.mv (List.prefix_refl _) (fun _ _ e _ _ => e) fun a z => .inl (hold_av (.inl z))
theorem RepL.unhold {v : List V} {d : List DV} (r : RepL B.C ρ (Av ρ (B.hold p).O st σ) H v d) : RepL B.C ρ (Av ρ B.O st σ) H v d :=
 r.mv (List.prefix_refl _) (fun _ _ e _ _ => e) fun a z => .inl (hold_av (.inl z))
theorem XRep.unhold {x : DX} {cls : Value} {d : Option Addr} (r : XRep (B.hold p) ρ st σ H x cls d) : XRep B ρ st σ H x cls d := by
 obtain ⟨e, r⟩ := r
 refine ⟨e, ?_⟩
 rcases r with r | ⟨a, vs, h1, h2, h3, h4, h5⟩
 · exact .inl r
 · exact .inr ⟨a, vs, h1, fun z => h2 (hold_av (.inl z)), h3, h4, RepL.unhold h5⟩
theorem SStep.release (s : SStep B σ ρ st H σ1 ρ1 st1 H1) (rh : Rel (B.hold p) ρ1 st1 σ1 H1) (hp : H p = none) {i : Nat} {d : DV} (hc : Cont B.C ρ1 (Av ρ1 (B.hold p).O st1 σ1) H1 p d) (n1 : ¬ CM ρ1 p) (n2 : ¬ B.O p) (n3 : B.H0 p = none) :
 SStep B σ ρ st H (σ1.set i (some (.ref p))) ρ1 ⟨st1.sl.set i (some (d, true)), st1.cs⟩ H1 := by
 have own1 : ∀ j q, ownAt ⟨st1.sl.set i (some (d, true)), st1.cs⟩ (σ1.set i (some (.ref p))) j q → (j = i ∧ q = p) ∨ (j ≠ i ∧ ownAt st1 σ1 j q) := fun j q ⟨e, h1, h2⟩ => by
  by_cases hj : j = i
  · subst hj
    refine .inl ⟨rfl, ?_⟩
    by_cases hl : j < σ1.length
    · rw [List.getElem?_set_self hl] at h2; cases h2; rfl
    · rw [List.getElem?_eq_none (by rw [List.length_set]; omega)] at h2; cases h2
  · refine .inr ⟨hj, e, ?_, ?_⟩
    · rw [← h1]; exact (List.getElem?_set_ne (Ne.symm hj)).symm
    · rw [← h2]; exact (List.getElem?_set_ne (Ne.symm hj)).symm
 have avh : ∀ a, Av ρ1 B.O ⟨st1.sl.set i (some (d, true)), st1.cs⟩ (σ1.set i (some (.ref p))) a → Av ρ1 (B.hold p).O st1 σ1 a := fun a z => by
  rcases z with z | z | ⟨j, z⟩
  · exact .inl (.inl z)
  · exact .inr (.inl z)
  · rcases own1 j a z with ⟨_, rfl⟩ | ⟨_, z⟩
    · exact .inl (.inr rfl)
    · exact .inr (.inr ⟨j, z⟩)
 have mv : ∀ a, Av ρ1 B.O ⟨st1.sl.set i (some (d, true)), st1.cs⟩ (σ1.set i (some (.ref p))) a → Av ρ1 (B.hold p).O st1 σ1 a ∨ H1 a = none := fun a z => .inl (avh a z)
 have r1 := s.rel
 refine ⟨s.pre, ⟨by simp [r1.len], fun j e h => ?_, fun j e h => ?_, fun j k q h1 h2 => ?_, r1.dom, r1.odom, ⟨r1.cel.len, fun k c x h1 h2 => ?_, r1.cel.dis⟩, r1.cdom, r1.tabs⟩, s.fr, fun a z => ?_, s.cm, s.dm⟩
 · by_cases hj : j = i
   · subst hj
     dsimp only at h
     by_cases hl : j < st1.sl.length
     · rw [List.getElem?_set_self hl] at h; cases h
     · rw [List.getElem?_eq_none (by rw [List.length_set]; omega)] at h; cases h
   · have h' : st1.sl[j]? = some (some (e, false)) := by rw [← h]; exact (List.getElem?_set_ne (Ne.symm hj)).symm
     rw [List.getElem?_set_ne (Ne.symm hj)]
     obtain ⟨w, e1, q⟩ := rh.fro j e h'
     exact ⟨w, e1, q.mv (List.prefix_refl _) (fun _ _ e _ _ => e) mv⟩
 · by_cases hj : j = i
   · subst hj
     dsimp only at h
     by_cases hl : j < st1.sl.length
     · rw [List.getElem?_set_self hl] at h
       cases h
       exact ⟨p, List.getElem?_set_self (by rw [← r1.len]; exact hl), hc.mv (List.prefix_refl _) (fun _ _ e _ _ => e) mv rfl, n1, n2, n3⟩
     · rw [List.getElem?_eq_none (by rw [List.length_set]; omega)] at h; cases h
   · have h' : st1.sl[j]? = some (some (e, true)) := by rw [← h]; exact (List.getElem?_set_ne (Ne.symm hj)).symm
     obtain ⟨w, e1, q1, m1, m2, m3⟩ := rh.own j e h'
     exact ⟨w, by rw [List.getElem?_set_ne (Ne.symm hj)]; exact e1, q1.mv (List.prefix_refl _) (fun _ _ e _ _ => e) mv rfl, m1, fun z => m2 (.inl z), m3⟩
 · have np : ∀ k, ¬ ownAt st1 σ1 k p := fun k ⟨e, z1, z2⟩ => by
    obtain ⟨w, e1, q1, m1, m2, m3⟩ := rh.own k e z1
    rw [z2] at e1
    cases e1
    exact m2 (.inr rfl)
   rcases own1 j q h1 with ⟨rfl, rfl⟩ | ⟨hj, z1⟩
   · rcases own1 k q h2 with ⟨rfl, _⟩ | ⟨hk, z2⟩
     · rfl
     · exact absurd z2 (np k)
   · rcases own1 k q h2 with ⟨rfl, rfl⟩ | ⟨hk, z2⟩
     · exact absurd z1 (np j)
     · exact r1.dis j k q z1 z2
 · have q := rh.cel.ok k c x h1 h2
   cases x with
   | draw d => exact q
   | obj d => exact ⟨q.1, q.2.mv (List.prefix_refl _) (fun _ _ e _ _ => e) mv rfl⟩
   | dead => trivial
 · rcases av_hold (avh a z) with z | rfl
   · exact s.av a z
   · exact .inr hp
def sets (σ : L2.St) : List Nat → List V → L2.St
 | i :: is, v :: vs => (sets σ is vs).set i (some v)
 | _, _ => σ
def svPar (i : Nat) (f : Ev) (g : Sv) : Sv := fun st => (f st).bind fun a st1 => match a.2 with
 | .new => (match isCont a.1 && st1.cs.all isDraw with
  | true => (g st1).bind fun _ st2 => .ok .nx ⟨st2.sl.set i (some (a.1, true)), st2.cs⟩
  | false => (g st1).bind fun _ st2 => .ok .nx ⟨st2.sl.set i (some (a.1, false)), st2.cs⟩)
 | kd => (g (st1.eat kd)).bind fun _ st2 => .ok .nx ⟨st2.sl.set i (some (a.1, false)), st2.cs⟩
def RPar (C : RC) (W : WX) (ix : List Nat) (f : Sv) : TA := fun σ H Q => ∃ B ρ st, B.C = C ∧ Rel B ρ st σ H ∧ SRes B W σ ρ st H (f st) fun fl σ' st' ρ' H' => ∀ vs, vs.length = ix.length → σ' = sets σ ix vs → Q vs H'
def PPar (X : Cx) (C : RC) (W : WX) (ix : List Nat) (es : List Expr) (f : Sv) : Prop := PA X es (RPar C W ix f)
theorem ppar_nil : PPar X C W [] [] svNx := PA.mono pa_nil fun σ H Q ⟨B, ρ, st, _, rel, r⟩ => SRes.now rel r [] rfl rfl
def RDx (C : RC) (W : WX) (f : Ev) : TE := fun σ H Q => ∃ B, B.C = C ∧ RD B W f σ H Q
theorem pdx {f : Ev} {e : Expr} (h : ∀ B, B.C = C → PD X B W e f) : PE X e (RDx C W f) := ⟨fun pins s σ H Q I ⟨B, e, r⟩ => (h B e).run pins s σ H Q I r⟩
theorem SRes.hold {o : Out Fl} {G : SG} (s0 : Step B σ ρ st H ρ1 st1 H1) (hp : H p = none) (r : SRes B W σ ρ st H o G) : SRes (B.hold p) W σ ρ1 st1 H1 o G := by
 cases o with
 | ok a st' => exact fun σ' ρ' H' s => r σ' ρ' H' (SStep.unhold s0 hp s)
 | exc x st' => exact fun σ' ρ' H' cls d s q => r σ' ρ' H' cls d (SStep.unhold s0 hp s) q.unhold
 | stuck => exact r
theorem nomatchCM {d : DV} {C : RC} {p : Addr} (r : Rep C ρ (Av ρ B.O st σ) H (.ref p) d) (h : isCont d = true) : ¬ CM ρ p := fun z => by
 cases r with
 | lst n' _ _ => exact n' (.inr (.inl z))
 | dct n' _ _ _ => exact n' (.inr (.inl z))
 | ins n' _ _ _ => exact n' (.inr (.inl z))
 | _ => cases h
theorem ppar_cons {i : Nat} {ix : List Nat} {e : Expr} {es : List Expr} {f : Ev} {g : Sv} (he : ∀ B, B.C = C → PD X B W e f) (hg : PPar X C W ix es g) (hs : starEach (e :: es) X.env = (false, eval e X.env) :: starEach es X.env) : PPar X C W (i :: ix) (e :: es) (svPar i f g) := by
 refine PA.mono (pa_cons (pdx he) hg hs) fun σ H Q ⟨B, ρ, st, eC, rel, r⟩ => ?_
 refine ⟨B, eC, RD.go rel (SRes.ex0 r) fun a st1 ρ1 H1 s1 r1 v rv fv => ?_⟩
 obtain ⟨d, kd⟩ := a
 -- the plain case
 have plain : ∀ st2, Step B σ ρ1 st1 H1 ρ1 st2 H1 → Rep B.C ρ1 (Av ρ1 B.O st2 σ) H1 v d → SRes B W σ ρ st H ((g st2).bind fun _ st2 => .ok .nx ⟨st2.sl.set i (some (d, false)), st2.cs⟩) (fun fl σ' st' ρ' H' => ∀ vs, vs.length = (i :: ix).length → σ' = sets σ (i :: ix) vs → Q vs H') →
  RPar C W ix g σ H1 fun vs H2 => Q (v :: vs) H2 := fun st2 s2 rv r2 => by
  refine ⟨B, ρ1, st2, eC, s2.rel, ?_⟩
  refine (SRes.bind (SRes.from (.of (s1.trans s2)) r2)).imp fun fl σ' st' ρ' H' s3 r3 vs hl hσ => ?_
  have s4 := SStep.putF (i := i) s3.rel (Rep.sstep s3 rv)
  refine r3 _ _ _ s4 (v :: vs) (by simp [hl]) ?_
  rw [hσ]
  rfl
 cases kd with
 | fro => exact plain st1 (.refl s1.rel) rv r1
 | view j => exact plain _ (Step.eat s1.rel (.view j)) rv.eat r1
 | new =>
  simp only at r1
  cases hb : isCont d && st1.cs.all isDraw with
  | false => rw [hb] at r1; exact plain st1 (.refl s1.rel) rv.1 r1
  | true =>
   rw [hb] at r1
   rw [Bool.and_eq_true] at hb
   obtain ⟨p, rfl⟩ := Rep.ref_of_cont hb.1 rv.1
   have hp := fv p rfl
   have c1 := rv.2 p rfl hb.1
   have h1 : H1 p ≠ none := c1.some
   have rh := Rel.hold rel s1 hb.2 hp h1
   have np1 : ¬ CM ρ1 p := nomatchCM rv.1 hb.1
   have npO : ¬ B.O p := fun z => rel.odom p z hp
   refine ⟨B.hold p, ρ1, st1, eC, rh, ?_⟩
   have c1' : Cont B.C ρ1 (Av ρ1 (B.hold p).O st1 σ) H1 p d := c1.mv (List.prefix_refl _) (fun _ _ e _ _ => e) (fun a z => .inl (av_hold z)) rfl
   have nown : ∀ j, ¬ ownAt st1 σ j p := fun j ⟨e, z1, z2⟩ => by
    obtain ⟨w, e1, q1, m1, m2, m3⟩ := rh.own j e z1
    rw [z2] at e1
    cases e1
    exact m2 (.inr rfl)
   cases eg : g st1 with
   | stuck => rw [eg] at r1; exact r1.elim
   | exc x st2 => rw [eg] at r1; exact fun σ' ρ' H' cls q s3 xr => r1 σ' ρ' H' cls q (SStep.unhold s1 hp s3) xr.unhold
   | ok fl st2 =>
    rw [eg] at r1
    intro σ' ρ' H' s3 vs hl hσ
    obtain ⟨o, eo, nteo⟩ := c1'.nt
    have np' : ¬ CM ρ' p := fun z => (s3.cm p z).elim np1 fun q => h1 q
    have c3 : Cont B.C ρ' (Av ρ' (B.hold p).O st2 σ') H' p d := c1'.mv s3.pre (fun a o e n => s3.fr a o e (fun z => n (.cm z)) fun i z => n (.inr (.inr ⟨i, z⟩))) s3.av ((s3.fr p o eo np1 nown nteo).trans eo.symm)
    have s4 := SStep.release (i := i) (SStep.unhold s1 hp s3) s3.rel hp c3 np' npO (none_of_dm rel.dom hp)
    refine r1 _ _ _ s4 (V.ref p :: vs) (by simp [hl]) ?_
    rw [hσ]
    rfl
def svThen (f : Sv) : Sv := fun st => (f st).bind fun _ st1 => .ok .nx st1
theorem SRes.then {o : Out Fl} {G : SG} {σ0 : L2.St} (r : SRes B W σ0 ρ st H (o.bind fun _ st1 => .ok .nx st1) G) : SRes B W σ0 ρ st H o fun _ σ' st' ρ' H' => G .nx σ' st' ρ' H' := by
 cases o with
 | ok a st1 => exact r
 | exc x st' => exact r
 | stuck => exact r
theorem psd_par {i j : Nat} {x y : Str} {a b : Expr} {fa fb : Ev} {px py pt : Pos} {kt k2 pt2} (hc : X.calm = true) (hN : X.N.Nodup) (hi : X.N[i]? = some x) (hj : X.N[j]? = some y) (hij : i ≠ j)
 (hx : X.env.scope.names.lookup x = some .local) (hy : X.env.scope.names.lookup y = some .local) (ha : ∀ B', B'.C = B.C → PD X B' W a fa) (hb : ∀ B', B'.C = B.C → PD X B' W b fb)
 (hsa : starEach [a, b] X.env = (false, eval a X.env) :: starEach [b] X.env) (hsb : starEach [b] X.env = (false, eval b X.env) :: starEach [] X.env)
 (hw : swappedStores [.Tuple [.Name x px, .Name y py] kt pt] (.Tuple [a, b] k2 pt2) X.env = pure (some [x, y]))
 (hs : swapsWithSole [.Tuple [.Name x px, .Name y py] kt pt] (.Tuple [a, b] k2 pt2) pos.line X.env = pure false) :
 PSD X B W (.Assign [.Tuple [.Name x px, .Name y py] kt pt] (.Tuple [a, b] k2 pt2) pos) (svThen (svPar i fa (svPar j fb svNx))) := by
 refine PS.mono (ps_par hc hN hi hj hij hx hy (ppar_cons (i := i) ha (ppar_cons (i := j) hb ppar_nil hsb) hsa) hw hs) fun D σ H ⟨ρ, st, rel, r⟩ => ?_
 refine ⟨B, ρ, st, rfl, rel, (SRes.then r).imp fun fl σ' st' ρ' H' s r' vs hl hσ => ?_⟩
 obtain ⟨v, w, rfl⟩ : ∃ v w, vs = [v, w] := by
  match vs, hl with
  | [v, w], _ => exact ⟨v, w, rfl⟩
 refine ⟨v, w, rfl, ?_⟩
 rw [hσ] at r'
 have r' : D.nx _ H' := r'
 rw [List.set_comm _ _ hij]
 exact r'
def dAddI : Op2
 | .int i, .int j => some (.int (i + j), .new)
 | _, _ => none
def svAug (i : Nat) (fe : Ev) : Sv := fun st => match st.sl[i]? with
 | some (some (.int n, false)) => zqs i (zqk dAddI (evC (.int n)) fe) st
 | _ => .stuck
end
end D
namespace D
open PySem L2 PyProof.Rows
structure Later (ρ : List CellA) (A : Addr → Prop) (H : Hp) (ρ' : List CellA) (A' : Addr → Prop) (H' : Hp) : Prop where
 pre : ρ <+: ρ'
 fr : ∀ a o, H a = some o → ¬ A a → NT o → H' a = some o
 av : ∀ a, A' a → A a ∨ H a = none
 dm : ∀ a, H a ≠ none → H' a ≠ none
section
variable {ρ ρ1 ρ2 : List CellA} {A A1 A2 : Addr → Prop} {H H1 H2 : Hp}
theorem Later.refl : Later ρ A H ρ A H := ⟨List.prefix_refl _, fun _ _ e _ _ => e, fun _ z => .inl z, fun _ z => z⟩
theorem Later.trans (a : Later ρ A H ρ1 A1 H1) (b : Later ρ1 A1 H1 ρ2 A2 H2) : Later ρ A H ρ2 A2 H2 :=
 ⟨a.pre.trans b.pre, fun p o e n nt => b.fr p o (a.fr p o e n nt) (fun z => (a.av p z).elim n fun q => (by rw [e] at q; cases q)) nt, fun p z => (b.av p z).elim (a.av p) fun q => .inr (none_of_dm a.dm q), fun p z => b.dm p (a.dm p z)⟩
theorem Rep.later {C : RC} {v : V} {d : DV} (l : Later ρ A H ρ1 A1 H1) (r : Rep C ρ A H v d) : Rep C ρ1 A1 H1 v d := r.mv l.pre l.fr l.av
theorem RepL.later {C : RC} {v : List V} {d : List DV} (l : Later ρ A H ρ1 A1 H1) (r : RepL C ρ A H v d) : RepL C ρ1 A1 H1 v d := r.mv l.pre l.fr l.av
theorem Later.of {B : BC} {σ σ1 : L2.St} {st st1 : DS} (s : SStep B σ ρ st H σ1 ρ1 st1 H1) : Later ρ (Av ρ B.O st σ) H ρ1 (Av ρ1 B.O st1 σ1) H1 :=
 ⟨s.pre, fun a o e n => s.fr a o e (fun z => n (.cm z)) fun i z => n (.inr (.inr ⟨i, z⟩)), s.av, s.dm⟩
theorem Later.alloc {p : Addr} {o : HO} (hp : H p = none) : Later ρ A H ρ A (upd H p o) :=
 ⟨List.prefix_refl _, fun a u e _ _ => by rw [upd_ne (ne_of_none e hp)]; exact e, fun _ z => .inl z, fun a z => by
  obtain ⟨u, eu⟩ := Option.ne_none_iff_exists'.mp z
  rw [upd_ne (ne_of_none eu hp), eu]; exact fun z => nomatch z⟩
end
def Src (C : RC) (J : It) (ds : List DV) (ρ : List CellA) (A : Addr → Prop) (H : Hp) : Prop := ∀ ρ' A' H', Later ρ A H ρ' A' H' → (∀ a, A' a → H' a ≠ none) →
 (∀ (i : Nat) (d : DV), ds[i]? = some d → J.go i H' ∧ ∀ x H2, J.yld i H' x H2 → (H2 = H' ∨ ∃ p o, H' p = none ∧ H2 = upd H' p o) ∧ Rep C ρ' A' H2 x d) ∧ ∀ i, ds.length ≤ i → J.stop i H'
theorem Src.later {C : RC} {J : It} {ds : List DV} {ρ ρ1 : List CellA} {A A1 : Addr → Prop} {H H1 : Hp} (s : Src C J ds ρ A H) (l : Later ρ A H ρ1 A1 H1) : Src C J ds ρ1 A1 H1 :=
 fun ρ' A' H' l' => s ρ' A' H' (l.trans l')
abbrev Iv := DS → Out (List DV)
def GI (B : BC) (σ : L2.St) (R : It → Hp → Prop) : List DV → DS → List CellA → Hp → Prop := fun ds st' ρ' H' => ∀ J, Src B.C J ds ρ' (Av ρ' B.O st' σ) H' → R J H'
def RI (B : BC) (W : WX) (f : Iv) : TI := fun σ H R => ∃ ρ st, Rel B ρ st σ H ∧ Res B W σ ρ st H (f st) (GI B σ R)
def PID (X : Cx) (B : BC) (W : WX) (tg iter : Expr) (f : Iv) : Prop := PI X tg iter (RI B W f)
theorem PI.mono {X : Cx} {tg e : Expr} {t t' : TI} (h : PI X tg e t) (m : ∀ σ H R, t' σ H R → t σ H R) : PI X tg e t' := ⟨fun pins s σ H R I r => h.run pins s σ H R I (m _ _ _ r)⟩
section
variable {X : Cx} {B : BC} {W : WX} {σ : L2.St} {ρ ρ1 : List CellA} {st st1 : DS} {H H1 : Hp} {e tg iter : Expr} {fe : Ev} {pos : Pos} {C : RC}
theorem src_lst {A : Addr → Prop} {a : Addr} {ds : List DV} (h : ∀ ρ' A' H', Later ρ A H ρ' A' H' → ∃ xs, SqL C.K H' a xs ∧ RepL C ρ' A' H' xs ds) : Src C (Itl C.K a) ds ρ A H := by
 intro ρ' A' H' l dom
 obtain ⟨xs, hq, r⟩ := h ρ' A' H' l
 refine ⟨fun i d hd => ?_, fun i hi => ⟨xs, hq, by rw [r.length]; exact hi⟩⟩
 obtain ⟨v, hv, rv⟩ := r.get hd
 refine ⟨⟨xs, v, hq, hv⟩, fun x H2 ⟨e, y⟩ => ⟨.inl e, ?_⟩⟩
 subst e
 have := y xs hq
 rw [hv] at this
 cases this
 exact rv
theorem src_tup {A : Addr → Prop} {a : Addr} {ds : List DV} (h : ∀ ρ' A' H', Later ρ A H ρ' A' H' → ∃ xs, SqT C.K H' a xs ∧ RepL C ρ' A' H' xs ds) : Src C (Itt C.K a) ds ρ A H := by
 intro ρ' A' H' l dom
 obtain ⟨xs, hq, r⟩ := h ρ' A' H' l
 refine ⟨fun i d hd => ?_, fun i hi => ⟨xs, hq, by rw [r.length]; exact hi⟩⟩
 obtain ⟨v, hv, rv⟩ := r.get hd
 refine ⟨⟨xs, v, hq, hv⟩, fun x H2 ⟨e, y⟩ => ⟨.inl e, ?_⟩⟩
 subst e
 have := y xs hq
 rw [hv] at this
 cases this
 exact rv
theorem scr_repL {A : Addr → Prop} : ∀ ns : List Int, RepL C ρ A H (ns.map V.int) (ns.map DV.int)
 | [] => .nil
 | n :: ns => .cons (.int n) (scr_repL ns)
theorem lst_later {A : Addr → Prop} {v : V} {ds : List DV} (r : Rep C ρ A H v (.lst ds)) : ∃ a, v = .ref a ∧ ∀ ρ' A' H', Later ρ A H ρ' A' H' → ∃ xs, SqL C.K H' a xs ∧ RepL C ρ' A' H' xs ds := by
 have r0 := r
 cases r with
 | lst n e r =>
  refine ⟨_, rfl, fun ρ' A' H' l => ?_⟩
  have r' := r0.later l
  cases r' with
  | lst n e r => exact ⟨_, .of e, r⟩
theorem tup_later {A : Addr → Prop} {v : V} {ds : List DV} (r : Rep C ρ A H v (.tup ds)) : ∃ a, v = .ref a ∧ ∀ ρ' A' H', Later ρ A H ρ' A' H' → ∃ xs, SqT C.K H' a xs ∧ RepL C ρ' A' H' xs ds := by
 have r0 := r
 obtain ⟨a, xs, rfl, _⟩ := sqT_of r
 refine ⟨a, rfl, fun ρ' A' H' l => ?_⟩
 obtain ⟨a', xs, e, h1, h2⟩ := sqT_of (r0.later l)
 cases e
 exact ⟨xs, h1, h2⟩
theorem scr_later {A : Addr → Prop} {v : V} {ns : List Int} (r : Rep C ρ A H v (.scr ns)) : ∃ a, v = .ref a ∧ ∀ ρ' A' H', Later ρ A H ρ' A' H' → ∃ xs, SqL C.K H' a xs ∧ RepL C ρ' A' H' xs (ns.map DV.int) := by
 have r0 := r
 cases r with
 | scr n e =>
  refine ⟨_, rfl, fun ρ' A' H' l => ?_⟩
  have r' := r0.later l
  cases r' with
  | scr n e => exact ⟨_, .inl (.inr ⟨_, e⟩), scr_repL _⟩
  | kscr k => exact ⟨_, .inr k, scr_repL _⟩
 | kscr k => exact ⟨_, rfl, fun ρ' A' H' l => ⟨_, .inr k, scr_repL _⟩⟩
theorem bor_later {A : Addr → Prop} {v : V} {ds : List DV} (r : Rep C ρ A H v (.bor ds)) : ∃ a, v = .ref a ∧ ∀ ρ' A' H', Later ρ A H ρ' A' H' → ∃ xs, SqL C.K H' a xs ∧ RepL C ρ' A' H' xs ds := by
 have r0 := r
 cases r with
 | bor n e r =>
  refine ⟨_, rfl, fun ρ' A' H' l => ?_⟩
  have r' := r0.later l
  cases r' with
  | bor n e r => exact ⟨_, .inl (.inr ⟨_, e⟩), r⟩
theorem src_str {A : Addr → Prop} {s : Str} : Src C (Its s) (strItems s) ρ A H := by
 intro ρ' A' H' l dom
 refine ⟨fun i d hd => ?_, fun i hi => (show s.cps.size ≤ i by simpa [strItems] using hi)⟩
 simp only [strItems, List.getElem?_map, Option.map_eq_some_iff] at hd
 obtain ⟨c, hc, rfl⟩ := hd
 have hi : i < s.cps.size := by
  have := (List.getElem?_eq_some_iff.mp hc).1
  simpa using this
 refine ⟨hi, fun x H2 ⟨e, c', hc', ex⟩ => ⟨.inl e, ?_⟩⟩
 subst e ex
 have : c' = c := by
  have h1 : s.cps.toList[i]? = some c' := by rw [Array.getElem?_toList]; exact hc'
  rw [hc] at h1; cases h1; rfl
 subst this
 exact .str _
def rangeL (lo : Int) (n : Nat) : List DV := (List.range n).map fun i => .int (lo + (i : Nat))
theorem src_range {A : Addr → Prop} {lo : Int} {n : Nat} : Src C (Itr lo n) (rangeL lo n) ρ A H := by
 intro ρ' A' H' l dom
 refine ⟨fun i d hd => ?_, fun i hi => (show n ≤ i by simpa [rangeL] using hi)⟩
 simp only [rangeL, List.getElem?_map, Option.map_eq_some_iff] at hd
 obtain ⟨k, hk, rfl⟩ := hd
 obtain ⟨hi, hk⟩ := List.getElem?_eq_some_iff.mp hk
 simp only [List.getElem_range] at hk
 subst hk
 refine ⟨(show i < n by simpa using hi), fun x H2 ⟨e, ex⟩ => ⟨.inl e, ?_⟩⟩
 subst ex
 exact .int _
def rangeC (lo c : Int) (n : Nat) : List DV := (List.range n).map fun i => .int (lo + (i : Nat) * c)
def enumL (ds : List DV) : List DV := ds.zipIdx.map fun p => .tup [.int (p.2 : Nat), p.1]
def zipL (ds es : List DV) : List DV := (ds.zip es).map fun p => .tup [p.1, p.2]
theorem zip_get {α β : Type} {ds : List α} {es : List β} {i : Nat} {p : α × β} (h : (ds.zip es)[i]? = some p) : ds[i]? = some p.1 ∧ es[i]? = some p.2 := by
 rw [List.getElem?_zip_eq_some] at h
 exact h
theorem src_zip {A : Addr → Prop} {a b : Addr} {ds es : List DV} (h : ∀ ρ' A' H', Later ρ A H ρ' A' H' → ∃ xs, SqL C.K H' a xs ∧ RepL C ρ' A' H' xs ds)
 (h' : ∀ ρ' A' H', Later ρ A H ρ' A' H' → ∃ xs, SqL C.K H' b xs ∧ RepL C ρ' A' H' xs es) : Src C (Itz C.K a b) (zipL ds es) ρ A H := by
 intro ρ' A' H' l dom
 obtain ⟨xs, hq, r⟩ := h ρ' A' H' l
 obtain ⟨ys, hq', r'⟩ := h' ρ' A' H' l
 refine ⟨fun i d hd => ?_, fun i hi => ⟨xs, ys, hq, hq', by rw [r.length, r'.length]; simp [zipL] at hi; omega⟩⟩
 simp only [zipL, List.getElem?_map, Option.map_eq_some_iff] at hd
 obtain ⟨p, hp, rfl⟩ := hd
 obtain ⟨h1, h2⟩ := zip_get hp
 obtain ⟨v, hv, rv⟩ := r.get h1
 obtain ⟨v', hv', rv'⟩ := r'.get h2
 refine ⟨⟨xs, ys, v, v', hq, hq', hv, hv'⟩, fun x H2 ⟨T, x', y', ex, hT, eH, y1, y2⟩ => ⟨.inr ⟨T, _, hT, eH⟩, ?_⟩⟩
 subst ex eH
 have e1 := y1 xs hq
 rw [hv] at e1
 cases e1
 have e2 := y2 ys hq'
 rw [hv'] at e2
 cases e2
 exact .tup (fun z => dom T z hT) upd_same (.cons (rv.later (Later.alloc hT)) (.cons (rv'.later (Later.alloc hT)) .nil))
def iAny (K : PySem.W.Frag) (tl : TE) : TI := fun σ H R => tl σ H fun x H1 => (∃ a, x = .ref a ∧ (∃ xs, SqL K H1 a xs) ∧ R (Itl K a) H1) ∨ (∃ a, x = .ref a ∧ (∃ xs, SqT K H1 a xs) ∧ R (Itt K a) H1) ∨ ∃ s, x = .str s ∧ R (Its s) H1
theorem pi_any {l : Expr} {tl : TE} (hl : PE X l tl) : PI X tg l (iAny X.K tl) := by
 refine ⟨fun pins s σ H R I h => ?_⟩
 refine thn (hl.run pins s σ H _ I h) fun v s1 ⟨x, H1, I1, r1, q1⟩ => ?_
 rcases q1 with ⟨a, e, ⟨xs, hq⟩, q⟩ | ⟨a, e, ⟨xs, hq⟩, q⟩ | ⟨y, e, q⟩
 · subst e
   cases r1
   obtain ⟨its, rv, p, hz⟩ := I1.list hq
   exact wpAny_pyIter_list p.isList (pi_one (tk := s1.toks) I1 _ (turn_list a _) ⟨_, Heap.get?_push_size _ rfl, rfl, rfl⟩ q)
 · subst e
   cases r1
   obtain ⟨its, rv, p, hz⟩ := I1.tuple hq
   exact wpAny_pyIter_tuple (show s1.heap.IsTuple a its.toArray from p) (pi_one (tk := s1.toks) I1 _ (turn_tuple a _) ⟨_, Heap.get?_push_size _ rfl, rfl, rfl⟩ q)
 · subst e
   obtain ⟨t, rfl⟩ := r1
   cases ha : y.cps.all (· < 128)
   · exact wpAny_pyIter_wide ha (pi_one (tk := s1.toks) I1 _ (turn_str _ y t "str_iterator" (.inr rfl)) ⟨_, Heap.get?_push_size _ rfl, rfl, rfl⟩ q)
   · exact wpAny_pyIter_ascii ha (pi_one (tk := s1.toks) I1 _ (turn_str _ y t "str_ascii_iterator" (.inl rfl)) ⟨_, Heap.get?_push_size _ rfl, rfl, rfl⟩ q)
def itemsD : DV → Option (List DV)
 | .lst ds => some ds
 | .tup ds => some ds
 | .scr ns => some (ns.map .int)
 | .bor ds => some ds
 | .str s => some (strItems s)
 | _ => none
def ivE (fe : Ev) : Iv := fun st => (fe st).bind fun a st1 => match itemsD a.1 with
 | some ds => .ok ds (st1.eat a.2)
 | none => .stuck
theorem pid_any (hK : B.C.K = X.K) (he : PD X B W e fe) : PID X B W tg e (ivE fe) := by
 refine PI.mono (pi_any he) fun σ H R ⟨ρ, st, rel, res⟩ => ?_
 refine RD.go rel (Res.bind res) fun a st1 ρ1 H1 s1 r1 v rv fv => ?_
 obtain ⟨d, kd⟩ := a
 cases ed : itemsD d with
 | none => rw [ed] at r1; exact r1.elim
 | some ds =>
  rw [ed] at r1
  have go := r1 _ _ (Step.eat s1.rel kd)
  have rv := rv.eat
  rw [← hK]
  cases d <;> first | (cases ed; done) | skip
  · cases ed
    obtain ⟨s, e, _⟩ : ∃ s, v = .str s ∧ True := by cases rv; exact ⟨_, rfl, trivial⟩
    subst e
    have := RepK.str (kd := .fro) (B := B) (σ := σ) rv
    cases this
    exact .inr (.inr ⟨_, rfl, go _ src_str⟩)
  · cases ed
    obtain ⟨a, rfl, h⟩ := lst_later rv
    obtain ⟨xs, h1, _⟩ := h _ _ _ .refl
    exact .inl ⟨a, rfl, ⟨xs, h1⟩, go _ (src_lst h)⟩
  · cases ed
    obtain ⟨a, rfl, h⟩ := tup_later rv
    obtain ⟨xs, h1, _⟩ := h _ _ _ .refl
    exact .inr (.inl ⟨a, rfl, ⟨xs, h1⟩, go _ (src_tup h)⟩)
  · cases ed
    obtain ⟨a, rfl, h⟩ := scr_later rv
    obtain ⟨xs, h1, _⟩ := h _ _ _ .refl
    exact .inl ⟨a, rfl, ⟨xs, h1⟩, go _ (src_lst h)⟩
  · cases ed
    obtain ⟨a, rfl, h⟩ := bor_later rv
    obtain ⟨xs, h1, _⟩ := h _ _ _ .refl
    exact .inl ⟨a, rfl, ⟨xs, h1⟩, go _ (src_lst h)⟩
def ivR1 (g : Ak) : Iv := fun st => (g st).bind fun (as : List (DV × Kd)) st1 => match as.map (·.1) with
 | [DV.int j] => if -(2 ^ 62) ≤ j ∧ j < 2 ^ 62 then .ok (rangeL 0 j.toNat) st1 else .stuck
 | _ => .stuck
def ivR2 (g : Ak) : Iv := fun st => (g st).bind fun (as : List (DV × Kd)) st1 => match as.map (·.1) with
 | [DV.int i, DV.int j] => if (-(2 ^ 62) ≤ i ∧ i < 2 ^ 62) ∧ (-(2 ^ 62) ≤ j ∧ j < 2 ^ 62) then .ok (rangeL i (j - i).toNat) st1 else .stuck
 | _ => .stuck
def rgOk (i j c : Int) : Bool := c != 0 && decide (c.natAbs < 1073741824) && Builtin.Range.small i j c && decide (0 ≤ Builtin.Range.rangeSize i j c)
def ivR3 (g : Ak) : Iv := fun st => (g st).bind fun (as : List (DV × Kd)) st1 => match as.map (·.1) with
 | [DV.int i, DV.int j, DV.int c] => if rgOk i j c = true then .ok (rangeC i c (Builtin.Range.rangeSize i j c).toNat) st1 else .stuck
 | _ => .stuck
def ivEnum (g : Ak) : Iv := fun st => (g st).bind fun (as : List (DV × Kd)) st1 => match as with
 | [a] => (match a.1 with
  | .lst ds => .ok (enumL ds) (st1.eat a.2)
  | _ => .stuck)
 | _ => .stuck
def ivZip (g : Ak) : Iv := fun st => (g st).bind fun (as : List (DV × Kd)) st1 => match as with
 | [a, b] => (match a.1, b.1 with
  | .lst ds, .lst es => .ok (zipL ds es) ((st1.eat a.2).eat b.2)
  | _, _ => .stuck)
 | _ => .stuck
variable {g : Ak} {a b c : Expr} {p : Pos}
theorem pid_range1 (hg : Gl X "range") (hm : X.mg "range" = none) (ha : PKD X B W [a] g) (hs : starEach [a] X.env = [(false, eval a X.env)]) : PID X B W tg (.Call (.Name "range" p) [a] [] pos) (ivR1 g) := by
 refine PI.mono (pi_range1 hg hm ha hs) fun σ H R ⟨ρ, st, rel, res⟩ => ?_
 refine RK.go rel (Res.bind res) fun as st1 ρ1 H1 s1 r1 vs rv => ?_
 split at r1
 · rename_i j e
   split at r1
   · rename_i hj
     obtain ⟨v, kd, rfl, r⟩ := one_of rv e
     obtain rfl := r.int
     exact ⟨j, rfl, hj.1, hj.2, Res.now s1.rel r1 _ src_range⟩
   · exact r1.elim
 · exact r1.elim
theorem pid_zip {elts : List Expr} {kk : Nat} {tpos : Pos} (hK : B.C.K = X.K) (hg : Gl X "zip") (hm : X.mg "zip" = none) (ha : PKD X B W [a, b] g) (hs : starEach [a, b] X.env = (false, eval a X.env) :: starEach [b] X.env) (hpl : (backTo pos (starEach [b] X.env)).any (·.1) = false) :
 PID X B W (.Tuple elts kk tpos) (.Call (.Name "zip" p) [a, b] [] pos) (ivZip g) := by
 refine PI.mono (pi_zip hg hm ha hs hpl) fun σ H R ⟨ρ, st, rel, res⟩ => ?_
 refine RK.go rel (Res.bind res) fun as st1 ρ1 H1 s1 r1 vs rv => ?_
 cases rv with
 | nil => exact r1.elim
 | @cons v vs a as r t =>
  cases t with
  | nil => exact r1.elim
  | @cons v' vs' a' as' r' t' =>
   cases t' with
   | cons _ _ => exact r1.elim
   | nil =>
    obtain ⟨d, kd⟩ := a
    obtain ⟨d', kd'⟩ := a'
    cases d <;> try exact r1.elim
    cases d' <;> try exact r1.elim
    have e1 := Step.eat s1.rel kd
    have e2 := Step.eat e1.rel kd'
    obtain ⟨q, rfl, h⟩ := lst_later (r.eat.step e2)
    obtain ⟨q', rfl, h'⟩ := lst_later (r'.step e1).eat
    obtain ⟨xs, h1, _⟩ := h _ _ _ .refl
    obtain ⟨ys, h2, _⟩ := h' _ _ _ .refl
    rw [← hK]
    exact ⟨q, q', xs, ys, rfl, h1, h2, r1 _ _ (e1.trans e2) _ (src_zip h h')⟩
def forGo (g : Gv) (f : Sv) : List DV → Sv
 | [] => fun st => .ok .nx st
 | d :: ds => fun st => match g d st with
  | none => .stuck
  | some st1 => (f st1).bind fun fl st2 => (match fl with
   | .nx => forGo g f ds st2
   | .ct => forGo g f ds st2
   | .bk => .ok .nx st2
   | .rt d kd => .ok (.rt d kd) st2)
def svFor (fi : Iv) (g : Gv) (f : Sv) : Sv := fun st => (fi st).bind fun ds st1 => forGo g f ds st1
theorem RI.go {R : It → Hp → Prop} {f : Iv} {G : List DV → DS → List CellA → Hp → Prop} (rel : Rel B ρ st σ H) (r : Res B W σ ρ st H (f st) G)
 (h : ∀ ds st' ρ' H', Step B σ ρ st H ρ' st' H' → G ds st' ρ' H' → ∀ J, Src B.C J ds ρ' (Av ρ' B.O st' σ) H' → R J H') : RI B W f σ H R := ⟨ρ, st, rel, r.imp h⟩
theorem yld_step {H2 : Hp} (rel : Rel B ρ st σ H) (h : H2 = H ∨ ∃ p o, H p = none ∧ H2 = upd H p o) : Step B σ ρ st H ρ st H2 := by
 rcases h with rfl | ⟨p, o, hp, rfl⟩
 · exact .refl rel
 · exact .alloc rel hp
theorem psd_for {vs : List Nat} {body : List Stmt} {fi : Iv} {gv : Gv} {f : Sv} (hp : PassesOwn (model X.prog X.w) X.A X.env X.xe) (hc : X.calm = true) (hi : PID X B W tg iter fi) (hg : PGD X B.C vs tg gv) (hb : PSsD X B W body f)
 (hs : ∀ x, foldedSetIterable iter X.env x = pure x) : PSD X B W (.For tg iter body [] pos) (svFor fi gv f) := by
 refine PS.mono (ps_for hp hc hi hg hb hs) fun D σ H ⟨ρ, st, rel, r⟩ => ?_
 refine RI.go rel (SRes.ex r) fun ds st1 ρ1 H1 s1 r1 J src => ?_
 refine ⟨fun i m σ' H' => ∃ ρ' st', Later ρ1 (Av ρ1 B.O st1 σ) H1 ρ' (Av ρ' B.O st' σ') H' ∧ Rel B ρ' st' σ' H' ∧ m + i = ds.length ∧ SRes B W σ' ρ' st' H' (forGo gv f (ds.drop i) st') (GS B D), ⟨ds.length, ρ1, st1, .refl, s1.rel, by simp, r1⟩, ?_⟩
 rintro i m σ2 H2 ⟨ρ2, st2, l2, rel2, hm, r2⟩
 obtain ⟨hgo, hstop⟩ := src _ _ _ l2 fun a z => rel2.av_dom z
 cases hd : ds[i]? with
 | none =>
  have hi : ds.length ≤ i := List.getElem?_eq_none_iff.mp hd
  rw [List.drop_eq_nil_of_le hi] at r2
  exact .inl ⟨hstop i hi, SRes.now rel2 r2⟩
 | some d =>
  obtain ⟨hi, hd'⟩ := List.getElem?_eq_some_iff.mp hd
  rw [List.drop_eq_getElem_cons hi, hd'] at r2
  obtain ⟨g1, y1⟩ := hgo i d hd
  have r2 : SRes B W σ2 ρ2 st2 H2 (match gv d st2 with
   | none => .stuck
   | some st1 => (f st1).bind fun fl st2 => (match fl with
    | .nx => forGo gv f (ds.drop (i + 1)) st2
    | .ct => forGo gv f (ds.drop (i + 1)) st2
    | .bk => .ok .nx st2
    | .rt d kd => .ok (.rt d kd) st2)) (GS B D) := r2
  cases eg : gv d st2 with
  | none => rw [eg] at r2; exact r2.elim
  | some st3 =>
   rw [eg] at r2
   refine .inr ⟨g1, fun σ' H' => ∃ ρ' st', Later ρ1 (Av ρ1 B.O st1 σ) H1 ρ' (Av ρ' B.O st' σ') H' ∧ Rel B ρ' st' σ' H' ∧ (m - 1) + (i + 1) = ds.length ∧ SRes B W σ' ρ' st' H' (forGo gv f (ds.drop (i + 1)) st') (GS B D),
    fun σ' H' hN => ⟨m - 1, by omega, hN⟩, fun x H3 hy => ?_⟩
   obtain ⟨ha, rx⟩ := y1 x H3 hy
   have s3 := yld_step rel2 ha
   refine ⟨B, ρ2, st2, d, st3, rfl, s3.rel, rx, eg, fun σ4 s4 _ => ?_⟩
   have s34 := (SStep.of s3).trans s4
   refine ⟨ρ2, st3, s4.rel, (SRes.bind (SRes.from s34 r2)).imp fun fl σ5 st5 ρ5 H5 s5 r5 => ?_⟩
   have l5 := l2.trans (Later.of (s34.trans s5))
   cases fl with
   | nx => exact ⟨ρ5, st5, l5, s5.rel, by omega, r5⟩
   | ct => exact ⟨ρ5, st5, l5, s5.rel, by omega, r5⟩
   | bk => exact SRes.now (W := W) s5.rel r5
   | rt d kd => exact SRes.now (W := W) s5.rel r5
end
end D
namespace D
open PySem L2 PyProof.Rows
def WF : WX := fun _ _ _ _ => False
def wipeSl (l : List Slot) : List Nat → List Slot
 | [] => l
 | v :: vs => (wipeSl l vs).set v none
def backSl (l0 l : List Slot) : List Nat → List Slot
 | [] => l
 | v :: vs => match l0[v]? with
  | some s => (backSl l0 l vs).set v s
  | none => backSl l0 l vs
def DS.wipe (st : DS) (vs : List Nat) : DS := ⟨wipeSl st.sl vs, st.cs⟩
def DS.back (st0 st : DS) (vs : List Nat) : DS := ⟨backSl st0.sl st.sl vs, st.cs⟩
def DS.dropAll (st : DS) : List Nat → DS
 | [] => st
 | v :: vs => (st.drop v).dropAll vs
theorem wipeSl_len (l : List Slot) : ∀ vs, (wipeSl l vs).length = l.length
 | [] => rfl
 | v :: vs => by unfold wipeSl; rw [List.length_set, wipeSl_len l vs]
theorem wipeSl_out {l : List Slot} {i : Nat} : ∀ {vs : List Nat}, i ∉ vs → (wipeSl l vs)[i]? = l[i]?
 | [], _ => rfl
 | v :: vs, h => by
  unfold wipeSl
  have h1 : v ≠ i := fun z => h (by simp [z])
  rw [List.getElem?_set_ne h1]
  exact wipeSl_out fun z => h (by simp [z])
theorem wipeSl_in {l : List Slot} {i : Nat} {x : DV × Bool} : ∀ {vs : List Nat}, i ∈ vs → (wipeSl l vs)[i]? ≠ some (some x)
 | [], h => by simp at h
 | v :: vs, h => by
  unfold wipeSl
  intro z
  by_cases hv : v = i
  · subst hv
    by_cases hl : v < (wipeSl l vs).length
    · rw [List.getElem?_set_self hl] at z; cases z
    · rw [List.getElem?_eq_none (by rw [List.length_set]; omega)] at z; cases z
  · rw [List.getElem?_set_ne hv] at z
    have : i ∈ vs := by
     rcases List.mem_cons.mp h with h | h
     · exact absurd h.symm hv
     · exact h
    exact wipeSl_in this z
theorem wipe_in {σ : L2.St} {i : Nat} {x : V} {vs : List Nat} (h : i ∈ vs) : (wipe σ vs)[i]? ≠ some (some x) := fun z => (wipe_some z).2 h
theorem backSl_len (l0 l : List Slot) : ∀ vs, (backSl l0 l vs).length = l.length
 | [] => rfl
 | v :: vs => by
  unfold backSl
  split
  · rw [List.length_set, backSl_len l0 l vs]
  · exact backSl_len l0 l vs
theorem backSl_out {l0 l : List Slot} {i : Nat} : ∀ {vs : List Nat}, i ∉ vs → (backSl l0 l vs)[i]? = l[i]?
 | [], _ => rfl
 | v :: vs, h => by
  unfold backSl
  have h1 : v ≠ i := fun z => h (by simp [z])
  have h2 := backSl_out (l0 := l0) (l := l) (i := i) (vs := vs) fun z => h (by simp [z])
  split
  · rw [List.getElem?_set_ne h1]; exact h2
  · exact h2
theorem backSl_in {l0 l : List Slot} (hl : l0.length = l.length) {i : Nat} : ∀ {vs : List Nat}, i ∈ vs → (backSl l0 l vs)[i]? = l0[i]?
 | [], h => by simp at h
 | v :: vs, h => by
  unfold backSl
  by_cases hv : v = i
  · subst hv
    cases e : l0[v]? with
    | none =>
     have : l0.length ≤ v := List.getElem?_eq_none_iff.mp e
     exact List.getElem?_eq_none (by rw [backSl_len]; omega)
    | some s =>
     have : v < l0.length := (List.getElem?_eq_some_iff.mp e).1
     exact List.getElem?_set_self (by rw [backSl_len]; omega)
  · have hi : i ∈ vs := by
     rcases List.mem_cons.mp h with h | h
     · exact absurd h.symm hv
     · exact h
    split
    · rw [List.getElem?_set_ne hv]; exact backSl_in hl hi
    · exact backSl_in hl hi
theorem wipe_eq {σ σ' : L2.St} {vs : List Nat} (hl : σ'.length = σ.length) (h : ∀ i, i ∉ vs → σ'[i]? = σ[i]?) : wipe σ' vs = wipe σ vs := by
 refine List.ext_getElem? fun i => ?_
 by_cases hi : i ∈ vs
 · by_cases hn : i < σ.length
   · have a : ∀ σ0 : L2.St, i < σ0.length → (wipe σ0 vs)[i]? = some none := fun σ0 h0 => by
      have h1 : i < (wipe σ0 vs).length := by rw [wipe_length]; exact h0
      rw [List.getElem?_eq_getElem h1]
      cases e : (wipe σ0 vs)[i] with
      | none => rfl
      | some x =>
       exfalso
       exact wipe_in (x := x) (σ := σ0) hi (by rw [List.getElem?_eq_getElem h1, e])
     rw [a σ' (by omega), a σ hn]
   · rw [List.getElem?_eq_none (by rw [wipe_length]; omega), List.getElem?_eq_none (by rw [wipe_length]; omega)]
 · rw [wipe_out hi, wipe_out hi, h i hi]
section
variable {X : Cx} {B : BC} {W : WX} {σ σ1 σ2 : L2.St} {ρ ρ1 ρ2 : List CellA} {st st1 st2 : DS} {H H1 H2 : Hp} {p : Addr} {vs : List Nat}
theorem Step.dropAll : ∀ (vs : List Nat) {st : DS}, Rel B ρ st σ H → Step B σ ρ st H ρ (st.dropAll vs) H
 | [], _, r => .refl r
 | v :: vs, _, r => (Step.drop r v).trans (Step.dropAll vs (Step.drop r v).rel)
theorem drop_frozen {st : DS} {v i : Nat} {d : DV} (h : (st.drop v).sl[i]? = some (some (d, true))) : i ≠ v ∧ st.sl[i]? = some (some (d, true)) := by
 by_cases hj : i = v
 · subst hj
   exact absurd (dropSl_at st.sl i d true h).1 (by simp)
 · exact ⟨hj, by rw [← dropSl_ne st.sl v i hj]; exact h⟩
theorem dropAll_frozen {i : Nat} {d : DV} : ∀ {vs : List Nat} {st : DS}, (st.dropAll vs).sl[i]? = some (some (d, true)) → i ∉ vs ∧ st.sl[i]? = some (some (d, true))
 | [], st, h => ⟨by simp, h⟩
 | v :: vs, st, h => by
  obtain ⟨h1, h2⟩ := dropAll_frozen (vs := vs) (st := st.drop v) h
  obtain ⟨h3, h4⟩ := drop_frozen h2
  exact ⟨by simp [h1, h3], h4⟩
def NoOwn (vs : List Nat) (st : DS) : Prop := ∀ (i : Nat) (d : DV), i ∈ vs → st.sl[i]? ≠ some (some (d, true))
theorem noOwn_dropAll : NoOwn vs (st.dropAll vs) := fun i d hi h => (dropAll_frozen h).1 hi
theorem wipe_own (no : NoOwn vs st) {i : Nat} {a : Addr} : ownAt (st.wipe vs) (wipe σ vs) i a ↔ ownAt st σ i a := by
 constructor
 · rintro ⟨d, h1, h2⟩
   by_cases hi : i ∈ vs
   · exact absurd h1 (wipeSl_in hi)
   · have h1 : (wipeSl st.sl vs)[i]? = some (some (d, true)) := h1
     rw [wipeSl_out hi] at h1
     rw [wipe_out hi] at h2
     exact ⟨d, h1, h2⟩
 · rintro ⟨d, h1, h2⟩
   have hi : i ∉ vs := fun z => no i d z h1
   exact ⟨d, (wipeSl_out hi).trans h1, (wipe_out hi).trans h2⟩
theorem wipe_av (no : NoOwn vs st) {O : Addr → Prop} {a : Addr} : Av ρ O (st.wipe vs) (wipe σ vs) a ↔ Av ρ O st σ a := by
 unfold Av
 simp only [wipe_own no]
theorem Rel.wipe (r : Rel B ρ st σ H) (no : NoOwn vs st) : Rel B ρ (st.wipe vs) (L2.wipe σ vs) H := by
 have mv : ∀ a, Av ρ B.O (st.wipe vs) (L2.wipe σ vs) a → Av ρ B.O st σ a ∨ H a = none := fun a z => .inl ((wipe_av no).mp z)
 refine ⟨by rw [wipe_length]; exact (wipeSl_len _ _).trans r.len, fun i d h => ?_, fun i d h => ?_, fun i j q h1 h2 => r.dis i j q ((wipe_own no).mp h1) ((wipe_own no).mp h2), r.dom, r.odom, ⟨r.cel.len, fun k c x h1 h2 => ?_, r.cel.dis⟩, r.cdom, r.tabs⟩
 · by_cases hi : i ∈ vs
   · exact absurd h (wipeSl_in hi)
   · have h : (wipeSl st.sl vs)[i]? = some (some (d, false)) := h
     rw [wipeSl_out hi] at h
     obtain ⟨v, e, q⟩ := r.fro i d h
     exact ⟨v, (wipe_out hi).trans e, q.mv (List.prefix_refl _) (fun _ _ e _ _ => e) mv⟩
 · by_cases hi : i ∈ vs
   · exact absurd h (wipeSl_in hi)
   · have h : (wipeSl st.sl vs)[i]? = some (some (d, true)) := h
     rw [wipeSl_out hi] at h
     obtain ⟨q, e, c, n⟩ := r.own i d h
     exact ⟨q, (wipe_out hi).trans e, c.mv (List.prefix_refl _) (fun _ _ e _ _ => e) mv rfl, n⟩
 · have q := r.cel.ok k c x h1 h2
   cases x with
   | draw d => exact q
   | obj d => exact ⟨q.1, q.2.mv (List.prefix_refl _) (fun _ _ e _ _ => e) mv rfl⟩
   | dead => trivial
theorem Rel.holdA (r : Rel B ρ st σ H) {o : HO} (hp : H p = none) : Rel (B.hold p) ρ st σ (upd H p o) := by
 have r1 := r.alloc (o := o) hp
 have kp : ∀ a u, H a = some u → upd H p o a = some u := fun a u e => by rw [upd_ne (ne_of_none e hp)]; exact e
 have mv : ∀ a, Av ρ (B.hold p).O st σ a → Av ρ B.O st σ a ∨ H a = none := fun a z => by
  rcases av_hold z with z | rfl
  · exact .inl z
  · exact .inr hp
 refine ⟨r.len, fun i d h => ?_, fun i d h => ?_, r.dis, r1.dom, fun a z => ?_, ⟨r.cel.len, fun k c x h1 h2 => ?_, r.cel.dis⟩, r1.cdom, r1.tabs⟩
 · obtain ⟨v, e, q⟩ := r.fro i d h
   exact ⟨v, e, q.mv (List.prefix_refl _) (fun a u e _ _ => kp a u e) mv⟩
 · obtain ⟨q, e, c, n1, n2, n3⟩ := r.own i d h
   obtain ⟨u, eu, nteu⟩ := c.nt
   exact ⟨q, e, c.mv (List.prefix_refl _) (fun a u e _ _ => kp a u e) mv ((kp _ _ eu).trans eu.symm), n1, fun z => z.elim n2 fun z => (by subst z; exact c.some hp), n3⟩
 · rcases z with z | rfl
   · exact r1.odom a z
   · rw [upd_same]; exact fun z => nomatch z
 · have q := r.cel.ok k c x h1 h2
   cases x with
   | draw d =>
    obtain ⟨g, l, e, n1, n2, n3, a, b, c⟩ := q
    exact ⟨g, l, e, n1, n2, n3, kp _ _ a, kp _ _ b, kp _ _ c⟩
   | obj d =>
    obtain ⟨e, q⟩ := q
    obtain ⟨u, eu, nteu⟩ := q.nt
    exact ⟨e, q.mv (List.prefix_refl _) (fun a u e _ _ => kp a u e) mv ((kp _ _ eu).trans eu.symm)⟩
   | dead => trivial
theorem Rel.writeHeld (r : Rel (B.hold p) ρ st σ H) (hc : ¬ CM ρ p) {o : HO} (hw : ∀ u, H p = some u → WR u) : Rel (B.hold p) ρ st σ (upd H p o) := by
 have kp : ∀ a u, H a = some u → ¬ Av ρ (B.hold p).O st σ a → NT u → upd H p o a = some u := fun a u e n _ => by
  rw [upd_ne (fun z => n (by subst z; exact .inl (.inr rfl)))]; exact e
 have mv : ∀ a, Av ρ (B.hold p).O st σ a → Av ρ (B.hold p).O st σ a ∨ H a = none := fun a z => .inl z
 have dm : ∀ a, H a ≠ none → upd H p o a ≠ none := fun a z => by
  by_cases h : a = p
  · subst h; rw [upd_same]; exact fun z => nomatch z
  · rw [upd_ne h]; exact z
 have kc : ∀ a, CM ρ a → upd H p o a = H a := fun a z => upd_ne fun e => hc (e ▸ z)
 refine ⟨r.len, fun i d h => ?_, fun i d h => ?_, r.dis, fun a z => dm a (r.dom a z), fun a z => dm a (r.odom a z), ⟨r.cel.len, fun k c x h1 h2 => ?_, r.cel.dis⟩, fun a z => dm a (r.cdom a z), tabs_write r.tabs hw⟩
 · obtain ⟨v, e, q⟩ := r.fro i d h
   exact ⟨v, e, q.mv (List.prefix_refl _) kp mv⟩
 · obtain ⟨q, e, c, n1, n2, n3⟩ := r.own i d h
   exact ⟨q, e, c.mv (List.prefix_refl _) kp mv (upd_ne fun z => n2 (.inr z)), n1, n2, n3⟩
 · have q := r.cel.ok k c x h1 h2
   have cm : ∀ a, (a = c.main ∨ a ∈ c.more) → CM ρ a := fun a z => ⟨c, List.mem_of_getElem? h1, z⟩
   cases x with
   | draw d =>
    obtain ⟨g, l, e, n1, n2, n3, a, b, c'⟩ := q
    exact ⟨g, l, e, n1, n2, n3, (kc _ (cm _ (.inl rfl))).trans a, (kc _ (cm _ (.inr (by rw [e]; simp)))).trans b, (kc _ (cm _ (.inr (by rw [e]; simp)))).trans c'⟩
   | obj d => exact ⟨q.1, q.2.mv (List.prefix_refl _) kp mv (kc _ (cm _ (.inl rfl)))⟩
   | dead => trivial
theorem Step.back {sti : DS} (r : Rel B ρ st σ H) (no : NoOwn vs st) (ho : ∀ i, i ∉ vs → σ2[i]? = σ[i]?) (hsl : ∀ (i : Nat) (d : DV) (b : Bool), i ∉ vs → sti.sl[i]? = some (some (d, b)) → ∃ c, st.sl[i]? = some (some (d, c)))
 (hsub : ∀ i a, i ∉ vs → ownAt sti σ2 i a → ownAt st σ i a) (pre : ρ <+: ρ1) (rel : Rel B ρ1 sti σ2 H1) (hlen : sti.sl.length = st.sl.length) (fr : ∀ a o, H a = some o → ¬ CM ρ a → NT o → H1 a = some o) (cm : ∀ a, CM ρ1 a → CM ρ a ∨ H a = none) (dm : ∀ a, H a ≠ none → H1 a ≠ none) :
 Step B σ ρ st H ρ1 (st.back sti vs) H1 ∧ NoOwn vs (st.back sti vs) ∧ ∀ a, Av ρ1 B.O (st.back sti vs) σ a → Av ρ1 B.O sti σ2 a := by
 have bi : ∀ i, i ∈ vs → (st.back sti vs).sl[i]? = st.sl[i]? := fun i hi => backSl_in hlen.symm hi
 have bo : ∀ i, i ∉ vs → (st.back sti vs).sl[i]? = sti.sl[i]? := fun i hi => backSl_out hi
 have own1 : ∀ i a, ownAt (st.back sti vs) σ i a → i ∉ vs ∧ ownAt sti σ2 i a := fun i a ⟨d, h1, h2⟩ => by
  by_cases hi : i ∈ vs
  · rw [bi i hi] at h1
    exact absurd h1 (no i d hi)
  · rw [bo i hi] at h1
    exact ⟨hi, d, h1, by rw [ho i hi]; exact h2⟩
 have avI : ∀ a, Av ρ1 B.O (st.back sti vs) σ a → Av ρ1 B.O sti σ2 a := fun a z => by
  rcases z with z | z | ⟨i, z⟩
  · exact .inl z
  · exact .inr (.inl z)
  · exact .inr (.inr ⟨i, (own1 i a z).2⟩)
 have mvI : ∀ a, Av ρ1 B.O (st.back sti vs) σ a → Av ρ1 B.O sti σ2 a ∨ H1 a = none := fun a z => .inl (avI a z)
 have avO : ∀ a, Av ρ1 B.O (st.back sti vs) σ a → Av ρ B.O st σ a ∨ H a = none := fun a z => by
  rcases z with z | z | ⟨i, z⟩
  · exact .inl (.inl z)
  · exact (cm a z).imp (fun z => .inr (.inl z)) id
  · obtain ⟨hi, z⟩ := own1 i a z
    exact .inl (.inr (.inr ⟨i, hsub i a hi z⟩))
 have rel' : Rel B ρ1 (st.back sti vs) σ H1 := by
  refine ⟨?_, fun i d h => ?_, fun i d h => ?_, fun i j q h1 h2 => rel.dis i j q (own1 i q h1).2 (own1 j q h2).2, rel.dom, rel.odom, ⟨rel.cel.len, fun k c x h1 h2 => ?_, rel.cel.dis⟩, rel.cdom, rel.tabs⟩
  · show (backSl _ _ _).length = _
    rw [backSl_len, hlen, r.len]
  · by_cases hi : i ∈ vs
    · rw [bi i hi] at h
      obtain ⟨v, e, q⟩ := r.fro i d h
      exact ⟨v, e, q.mv pre (fun a o e n => fr a o e fun z => n (.cm z)) avO⟩
    · rw [bo i hi] at h
      obtain ⟨v, e, q⟩ := rel.fro i d h
      exact ⟨v, by rw [← ho i hi]; exact e, q.mv (List.prefix_refl _) (fun _ _ e _ _ => e) mvI⟩
  · by_cases hi : i ∈ vs
    · rw [bi i hi] at h
      exact absurd h (no i d hi)
    · rw [bo i hi] at h
      obtain ⟨q, e, c, n⟩ := rel.own i d h
      exact ⟨q, by rw [← ho i hi]; exact e, c.mv (List.prefix_refl _) (fun _ _ e _ _ => e) mvI rfl, n⟩
  · have q := rel.cel.ok k c x h1 h2
    cases x with
    | draw d => exact q
    | obj d => exact ⟨q.1, q.2.mv (List.prefix_refl _) (fun _ _ e _ _ => e) mvI rfl⟩
    | dead => trivial
 refine ⟨⟨pre, rel', fr, fun i a z => hsub i a (own1 i a z).1 (own1 i a z).2, fun i d b z => ?_, cm, dm⟩, fun i d hi z => ?_, avI⟩
 · by_cases hi : i ∈ vs
   · rw [bi i hi] at z
     exact ⟨b, z⟩
   · rw [bo i hi] at z
     exact hsl i d b hi z
 · rw [bi i hi] at z
   exact no i d hi z
def lcGo (vs : List Nat) (g : Gv) (tt : Tv) (fe : Ev) : List DV → List DV → DS → Option (List DV × DS)
 | [], acc, st => some (acc, st)
 | d :: ds, acc, st => match g d (st.wipe vs) with
  | none => none
  | some sta => match tt sta with
   | .ok true stb => (match fe stb with
    | .ok a stc => lcGo vs g tt fe ds (acc ++ [a.1]) (st.back (stc.eat a.2) vs)
    | _ => none)
   | .ok false stb => lcGo vs g tt fe ds acc (st.back stb vs)
   | _ => none
def evLc (vs : List Nat) (fi : Iv) (g : Gv) (tt : Tv) (fe : Ev) : Ev := fun st => (fi st).bind fun ds st1 => if ds.length ≤ sizeLine then (match lcGo vs g tt fe ds [] (st1.dropAll vs) with
 | some r => .ok (.lst r.1, .new) r.2
 | none => .stuck) else .stuck
def RTx (C : RC) (f : Tv) : TT := fun σ H Q => ∃ B, B.C = C ∧ RT B WF f σ H Q
def tvYes : Tv := fun st => .ok true st
theorem ptsx_nil {C : RC} : PTs X [] (RTx C tvYes) := ⟨fun pins s σ H Q I ⟨B, _, ρ, st, rel, r⟩ => (pts_nil (X := X)).run pins s σ H Q I (Res.now rel r)⟩
theorem ptsx_one {C : RC} {c : Expr} {t : Tv} (h : ∀ B, B.C = C → PTD X B WF c t) : PTs X [c] (RTx C t) := pts_one ⟨fun pins s σ H Q I ⟨B, e, r⟩ => (h B e).run pins s σ H Q I r⟩
theorem tLc_of {vt : List Nat} {fi : Iv} {g : Gv} {tt : Tv} {fe : Ev} {Q : VK} (hv : ∀ i ∈ vt, i ∈ vs) (h : RD B W (evLc vs fi g tt fe) σ H Q) : tLc (RI B W fi) (RG B.C vt g) (RTx B.C tt) (RDx B.C WF fe) vs σ H Q := by
 obtain ⟨ρ, st, rel, res⟩ := h
 refine RI.go rel (Res.bind res) fun ds st1 ρ1 H1 s1 r1 J src => ?_
 intro D hD
 split at r1
 case isFalse => exact r1.elim
 rename_i hlen
 have sd := Step.dropAll vs s1.rel
 cases hfin : lcGo vs g tt fe ds [] (st1.dropAll vs) with
 | none => rw [hfin] at r1; exact r1.elim
 | some fin =>
 rw [hfin] at r1
 generalize hst2 : st1.dropAll vs = st2 at *
 have no2 : NoOwn vs st2 := by rw [← hst2]; exact noOwn_dropAll
 have rel2 := sd.rel
 -- the invariant
 let Wv : Nat → Nat → Hp → Prop := fun i m H' => ∃ ρ' st' xs acc, m + i = ds.length ∧ Step B σ ρ1 st2 H1 ρ' st' H' ∧ Rel (B.hold D) ρ' st' σ H' ∧ NoOwn vs st' ∧ ¬ CM ρ' D ∧ H' D = some (.lst xs) ∧ RepL B.C ρ' (Av ρ' (B.hold D).O st' σ) H' xs acc ∧ acc.length ≤ i ∧ lcGo vs g tt fe (ds.drop i) acc st' = some fin
 have nD : ¬ CM ρ1 D := fun z => rel2.cdom D z hD
 refine ⟨Wv, ⟨ds.length, ρ1, st2, [], [], by simp, Step.alloc rel2 hD, Rel.holdA rel2 hD, no2, nD, upd_same, .nil, Nat.le_refl _, hfin⟩, ?_⟩
 rintro i m H2 ⟨ρ2, st3, xs, acc, hm, s2, rh, no3, ncm, hDl, racc, hacc, go⟩
 have l2 : Later ρ1 (Av ρ1 B.O st1 σ) H1 ρ2 (Av ρ2 (B.hold D).O st3 σ) H2 := by
  have l0 := (Later.of (SStep.of sd)).trans (Later.of (SStep.of s2))
  refine ⟨l0.pre, l0.fr, fun a z => ?_, l0.dm⟩
  rcases av_hold z with z | rfl
  · exact l0.av a z
  · exact .inr hD
 obtain ⟨hgo, hstop⟩ := src _ _ _ l2 fun a z => rh.av_dom z
 cases hd : ds[i]? with
 | none =>
  have hi : ds.length ≤ i := List.getElem?_eq_none_iff.mp hd
  rw [List.drop_eq_nil_of_le hi] at go
  simp only [lcGo, Option.some.injEq] at go
  subst go
  refine .inl ⟨hstop i hi, ?_⟩
  have nav : ¬ Av ρ2 B.O st3 σ D := fun z => by
   rcases z with z | z | ⟨k, z⟩
   · exact rel2.odom D z hD
   · exact ncm z
   · obtain ⟨d, z1, z2⟩ := z
     obtain ⟨w, e1, _, _, n2, _⟩ := rh.own k d z1
     rw [z2] at e1
     cases e1
     exact n2 (.inr rfl)
  refine r1 ρ2 H2 (sd.trans s2) (.ref D) ⟨.lst nav hDl (RepL.unhold racc), fun q e _ => ?_⟩ fun q e => ?_
  · cases e
    exact ⟨xs, hDl, racc.mv (List.prefix_refl _) (fun _ _ e _ _ => e) fun a z => .inl (hold_av z)⟩
  · cases e
    exact none_of_dm s1.dm hD
 | some d =>
  obtain ⟨hi, hd'⟩ := List.getElem?_eq_some_iff.mp hd
  rw [List.drop_eq_getElem_cons hi, hd'] at go
  obtain ⟨g1, y1⟩ := hgo i d hd
  unfold lcGo at go
  cases eg : g d (st3.wipe vs) with
  | none => rw [eg] at go; cases go
  | some sta =>
   rw [eg] at go
   dsimp only at go
   refine .inr ⟨g1, fun H' => Wv (i + 1) (m - 1) H', fun H' hN => ⟨m - 1, by omega, hN⟩, fun x H3 hy => ?_⟩
   obtain ⟨ha, rx⟩ := y1 x H3 hy
   have s3 := yld_step rh ha
   have s2' : Step B σ ρ1 st2 H1 ρ2 st3 H3 := Step.unhold s2 s3
   have rw3 := Rel.wipe s3.rel no3
   have rxw : Rep B.C ρ2 (Av ρ2 (B.hold D).O (st3.wipe vs) (L2.wipe σ vs)) H3 x d := rx.mv (List.prefix_refl _) (fun _ _ e _ _ => e) fun a z => .inl ((wipe_av no3).mp z)
   have hD3 : H3 D = some (.lst xs) := s3.fr D _ hDl ncm trivial
   have racc3 : RepL B.C ρ2 (Av ρ2 (B.hold D).O st3 σ) H3 xs acc := RepL.step s3 racc
   refine ⟨B.hold D, ρ2, st3.wipe vs, d, sta, rfl, rw3, rxw, eg, fun σ4 s4 on => ?_⟩
   have hw4 : L2.wipe σ4 vs = L2.wipe σ vs := by
    have e1 := wipe_eq (σ := L2.wipe σ vs) (σ' := σ4) (vs := vs) on.len fun k hk => (on.out k fun z => hk (hv k z)).1
    rw [e1]
    exact wipe_eq (wipe_length _ _) fun k hk => wipe_out hk
   refine ⟨hw4, ?_⟩
   -- outside the block's slots all is as it was
   have ho4 : ∀ k, k ∉ vs → σ4[k]? = σ[k]? := fun k hk => ((on.out k fun z => hk (hv k z)).1).trans (wipe_out hk)
   have hsl4 : ∀ k, k ∉ vs → sta.sl[k]? = st3.sl[k]? := fun k hk => ((on.out k fun z => hk (hv k z)).2).trans (wipeSl_out hk)
   have own4 : ∀ k a, k ∉ vs → ownAt sta σ4 k a → ownAt st3 σ k a := fun k a hk ⟨d, z1, z2⟩ => ⟨d, by rw [← hsl4 k hk]; exact z1, by rw [← ho4 k hk]; exact z2⟩
   have len4 : sta.sl.length = st3.sl.length := by
    rw [s4.rel.len, on.len, wipe_length, ← s3.rel.len]
   -- the end of a turn
   have turn : ∀ ρ5 (sti : DS) H5, Step (B.hold D) σ4 ρ2 sta H3 ρ5 sti H5 → Step (B.hold D) σ ρ2 st3 H3 ρ5 (st3.back sti vs) H5 ∧ NoOwn vs (st3.back sti vs) ∧ ∀ a, Av ρ5 (B.hold D).O (st3.back sti vs) σ a → Av ρ5 (B.hold D).O sti σ4 a := fun ρ5 sti H5 s5 => by
    refine Step.back s3.rel no3 ho4 (fun k d b hk z => ?_) (fun k a hk z => own4 k a hk (s5.sub k a z)) s5.pre s5.rel ?_ s5.fr s5.cm s5.dm
    · obtain ⟨c, z⟩ := s5.sl k d b z
      rw [hsl4 k hk] at z
      exact ⟨c, z⟩
    · rw [s5.rel.len, ← s4.rel.len, len4]
   have fin' : ∀ ρ5 (sto : DS) H5, Step (B.hold D) σ ρ2 st3 H3 ρ5 sto H5 → NoOwn vs sto → ¬ CM ρ5 D ∧ H5 D = some (.lst xs) ∧ RepL B.C ρ5 (Av ρ5 (B.hold D).O sto σ) H5 xs acc := fun ρ5 sto H5 s5 no5 =>
    ⟨fun z => (s5.cm D z).elim ncm fun q => (by rw [hD3] at q; cases q), s5.fr D _ hD3 ncm trivial, RepL.step s5 racc3⟩
   cases et : tt sta with
   | stuck => rw [et] at go; cases go
   | exc _ _ => rw [et] at go; cases go
   | ok b stb =>
    rw [et] at go
    refine ⟨B.hold D, rfl, ρ2, sta, s4.rel, ?_⟩
    rw [et]
    intro ρ5 H5 s5
    show if b = true then _ else _
    cases b with
    | false =>
     rw [if_neg Bool.false_ne_true]
     obtain ⟨t1, t2, t3⟩ := turn ρ5 stb H5 s5
     obtain ⟨f1, f2, f3⟩ := fin' ρ5 _ H5 t1 t2
     exact ⟨ρ5, _, xs, acc, by omega, Step.unhold s2' t1, t1.rel, t2, f1, f2, f3, by omega, go⟩
    | true =>
     rw [if_pos rfl]
     cases ee : fe stb with
     | stuck => simp only [ee] at go; cases go
     | exc _ _ => simp only [ee] at go; cases go
     | ok a stc =>
      simp only [ee] at go
      refine ⟨B.hold D, rfl, ρ5, stb, s5.rel, ?_⟩
      rw [ee]
      intro ρ6 H6 s6 y ry fy
      have s7 := s5.trans (s6.trans (Step.eat s6.rel a.2))
      obtain ⟨t1, t2, t3⟩ := turn ρ6 _ H6 s7
      obtain ⟨f1, f2, f3⟩ := fin' ρ6 _ H6 t1 t2
      have ry' : Rep B.C ρ6 (Av ρ6 (B.hold D).O (st3.back (stc.eat a.2) vs) σ) H6 y a.1 := ry.eat.mv (List.prefix_refl _) (fun _ _ e _ _ => e) fun a z => .inl (t3 a z)
      have hl : xs.length = acc.length := racc.length
      refine ⟨xs, f2, by omega, ?_⟩
      have mvD : ∀ q o, H6 q = some o → ¬ Av ρ6 (B.hold D).O (st3.back (stc.eat a.2) vs) σ q → NT o → upd H6 D (.lst (xs ++ [y])) q = some o := fun q o e n _ => by
       rw [upd_ne (fun z => n (by subst z; exact .inl (.inr rfl)))]; exact e
      have s8 := Step.unhold s2' t1
      have rel7 := Rel.writeHeld (o := .lst (xs ++ [y])) t1.rel f1 (fun u e => by rw [f2] at e; cases e; trivial)
      have s9 : Step B σ ρ1 st2 H1 ρ6 (st3.back (stc.eat a.2) vs) (upd H6 D (.lst (xs ++ [y]))) := by
       refine ⟨s8.pre, rel7.unhold, fun q o e n nt => ?_, s8.sub, s8.sl, s8.cm, fun q z => ?_⟩
       · rw [upd_ne (fun z => by subst z; rw [hD] at e; cases e)]
         exact s8.fr q o e n nt
       · by_cases hq : q = D
         · subst hq; exact absurd hD z
         · rw [upd_ne hq]; exact s8.dm q z
      refine ⟨ρ6, _, xs ++ [y], acc ++ [a.1], by omega, s9, rel7, t2, f1, upd_same, ?_, by simp; omega, go⟩
      exact RepL.append (f3.mv (List.prefix_refl _) mvD fun a z => .inl z) (.cons (ry'.mv (List.prefix_refl _) mvD fun a z => .inl z) .nil)
theorem pd_lc {elt tg iter : Expr} {ifs : List Expr} {scope : Scope} {own : List (Str × Nat)} {pos : Pos} {vt : List Nat} {fi : Iv} {g : Gv} {tt : Tv} {fe : Ev} (hc : X.calm = true) (hN : X.N.Nodup) (hi : PID X B W tg iter fi) (ok : BlkOk X.N X.env.scope scope own) (hv : ∀ i ∈ vt, i ∈ own.map (·.2))
 (hg : ∀ (s : Shared) (H : Hp) (C : Addr) (cl : List (Str × Addr)) (fp : List Addr), PGD (X.blk s H scope (compEnvC scope cl C X.env) fp) B.C vt tg g)
 (ht : ∀ (s : Shared) (H : Hp) (C : Addr) (cl : List (Str × Addr)) (fp : List Addr), PTs (X.blk s H scope (compEnvC scope cl C X.env) fp) ifs (RTx B.C tt))
 (he : ∀ (s : Shared) (H : Hp) (C : Addr) (cl : List (Str × Addr)) (fp : List Addr) (B' : BC), B'.C = B.C → PD (X.blk s H scope (compEnvC scope cl C X.env) fp) B' WF elt fe) (hs : ∀ x, foldedSetIterable iter X.env x = pure x) :
 PD X B W (.ListComp elt [⟨tg, iter, ifs, 0⟩] scope pos) (evLc (own.map (·.2)) fi g tt fe) :=
 PE.mono (pe_lc hc hN hi ok hg ht (fun s H C cl fp => pdx (he s H C cl fp)) hs) fun _ _ _ h => tLc_of hv h
theorem psd_setLc {i : Nat} {y : Str} {py : Pos} {elt tg iter : Expr} {ifs : List Expr} {scope : Scope} {own : List (Str × Nat)} {pos spos : Pos} {vt : List Nat} {fi : Iv} {g : Gv} {tt : Tv} {fe : Ev} (hc : X.calm = true) (hN : X.N.Nodup) (hy : X.N[i]? = some y) (hyl : X.env.scope.names.lookup y = some .local)
 (hsw : swapsWith (.ListComp elt [⟨tg, iter, ifs, 0⟩] scope pos) (some (.Name y py)) spos.line X.env = pure true) (hi : PID X B W tg iter fi) (ok : BlkOk X.N X.env.scope scope own) (hv : ∀ i ∈ vt, i ∈ own.map (·.2))
 (hg : ∀ (s : Shared) (H : Hp) (C : Addr) (cl : List (Str × Addr)) (fp : List Addr), PGD (X.blk s H scope (compEnvC scope cl C X.env) fp) B.C vt tg g)
 (ht : ∀ (s : Shared) (H : Hp) (C : Addr) (cl : List (Str × Addr)) (fp : List Addr), PTs (X.blk s H scope (compEnvC scope cl C X.env) fp) ifs (RTx B.C tt))
 (he : ∀ (s : Shared) (H : Hp) (C : Addr) (cl : List (Str × Addr)) (fp : List Addr) (B' : BC), B'.C = B.C → PD (X.blk s H scope (compEnvC scope cl C X.env) fp) B' WF elt fe) (hs : ∀ x, foldedSetIterable iter X.env x = pure x) :
 PSD X B W (.Assign [.Name y py] (.ListComp elt [⟨tg, iter, ifs, 0⟩] scope pos) spos) (zqs i (evLc (own.map (·.2)) fi g tt fe)) :=
 PS.mono (ps_setLc hc hN hy hyl hsw hi ok hg ht (fun s H C cl fp => pdx (he s H C cl fp)) hs) fun D σ H h => rs_set (fun _ _ _ h => tLc_of hv h) h
end
end D
namespace D
open PySem L2 PyProof.Rows
section
variable {X : Cx} {B : BC} {W : WX} {σ : L2.St} {ρ ρ1 : List CellA} {st st1 : DS} {H H1 : Hp} {o e : Expr} {es : List Expr} {fo fe : Ev} {g : Ak} {pos apos cpos : Pos} {name : Str} {C : RC}
def MethS (C : RC) (r : V → List V → Hp → VK → Prop) (f : OpN) : Prop := CallS C (fun xs H Q => ∃ x ys, xs = x :: ys ∧ r x ys H Q) f
def evMeth (isT : DV → Bool) (f : OpN) (fo : Ev) (g : Ak) : Ev := fun st => (fo st).bind fun a st1 => if isT a.1 = true then (g st1).bind fun as st2 => (match f (a.1 :: as.map (·.1)) with
 | some c => .ok c st2
 | none => .stuck) else .stuck
def TyIs (C : RC) (T : String) (isT : DV → Bool) : Prop := ∀ (B : BC) (ρ : List CellA) (st : DS) (σ : L2.St) (H : Hp) (kd : Kd) (v : V) (d : DV), B.C = C → isT d = true → RepK B ρ st σ H kd v d → tyV C.K T v H
theorem tBM_of {T : String} {isT : DV → Bool} {r : V → List V → Hp → VK → Prop} {f : OpN} (ht : TyIs B.C T isT) (hs : MethS B.C r f) {Q : VK} (h : RD B W (evMeth isT f fo g) σ H Q) : tBM B.C.K T r (RD B W fo) (RK B W g) σ H Q := by
 obtain ⟨ρ, st, rel, res⟩ := h
 refine RD.go rel (Res.bind res) fun a st1 ρ1 H1 s1 r1 x rx fx => ?_
 split at r1
 case isFalse => exact r1.elim
 rename_i hT
 refine ⟨ht B _ _ _ _ _ _ _ rfl hT rx, ?_⟩
 refine RK.go s1.rel (Res.bind r1) fun as st2 ρ2 H2 s2 r2 xs rxs => ?_
 cases e : f (a.1 :: as.map (·.1)) with
 | none => rw [e] at r2; exact r2.elim
 | some c =>
  rw [e] at r2
  obtain ⟨x', ys, e1, q⟩ := hs B rfl σ ρ2 st2 H2 (x :: xs) (a :: as) c Q s2.rel (.cons (RepK.step s2 rx) rxs) e fun v H' s3 rv fv => r2 _ _ s3 v rv ((fv.dm s2.dm).dm s1.dm)
  cases e1
  exact q
theorem pd_meth {T : String} {isT : DV → Bool} {id : String} {r : V → List V → Hp → VK → Prop} {f : OpN} (hK : B.C.K = X.K) (pa : PlainAttrs T) (slot : PySem.Slot T name id) (hty : typeOf (.builtin id) = pure (.type "method_descriptor")) (hm : MtR X id r) (ht : TyIs B.C T isT) (hs : MethS B.C r f)
 (ho : PD X B W o fo) (ha : PKD X B W (e :: es) g)
 (hbase : attributeBase o name X.env (eval o X.env) = eval o X.env)
 (hfew : ((backTo cpos (starEach (e :: es) X.env)).all (fun x => !x.1) && (backToKw cpos (keywordEach [] X.env)).all (fun x => x.1.isSome)
  && decide ((e :: es).length + ([] : List Keyword).length + (if ([] : List Keyword).isEmpty then 0 else 1) < 30)) = true)
 (hline : (apos.endLine == cpos.line) = true) (hst : starEach (e :: es) X.env = (false, eval e X.env) :: starEach es X.env) (hplain : (backTo cpos (starEach es X.env)).any (·.1) = false) :
 PD X B W (.Call (.Attribute o name apos) (e :: es) [] cpos) (evMeth isT f fo g) :=
 PE.mono (pe_bm pa slot hty hm ho ha hbase hfew hline hst hplain) fun _ _ _ h => by rw [← hK]; exact tBM_of ht hs h
def isStrD : DV → Bool | .str _ => true | _ => false
def isLstD : DV → Bool | .lst _ => true | _ => false
theorem ty_str : TyIs C "str" isStrD := by
 intro B ρ st σ H kd v d hB h r
 cases d <;> try (cases h; done)
 obtain rfl := r.str
 rfl
theorem ty_lst : TyIs C "list" isLstD := by
 intro B ρ st σ H kd v d hB h r
 subst hB
 cases d <;> try (cases h; done)
 obtain ⟨p, xs, rfl, e, _⟩ := r.lst
 exact .inl ⟨rfl, xs, .inl (.inl e)⟩
def strsD : List DV → Option (List Str)
 | [] => some []
 | .str s :: ds => (strsD ds).map (s :: ·)
 | _ => none
theorem strsD_map : ∀ {ds : List DV} {ss : List Str}, strsD ds = some ss → ds = ss.map .str
 | [], _, h => by cases h; rfl
 | .str s :: ds, ss, h => by
  simp only [strsD, Option.map_eq_some_iff] at h
  obtain ⟨r, h1, rfl⟩ := h
  rw [strsD_map h1]; rfl
 | .non :: _, _, h => by cases h
 | .bl _ :: _, _, h => by cases h
 | .int _ :: _, _, h => by cases h
 | .lst _ :: _, _, h => by cases h
 | .tup _ :: _, _, h => by cases h
 | .dct _ _ :: _, _, h => by cases h
 | .fdc _ _ :: _, _, h => by cases h
 | .ins _ _ _ :: _, _, h => by cases h
 | .exc _ _ _ :: _, _, h => by cases h
 | .scr _ :: _, _, h => by cases h
 | .bor _ :: _, _, h => by cases h
 | .cel _ :: _, _, h => by cases h
 | .ty _ :: _, _, h => by cases h
 | .cls _ :: _, _, h => by cases h
theorem strs_vals {A : Addr → Prop} : ∀ {vs : List V} {ss : List Str}, RepL C ρ A H vs (ss.map DV.str) → vs = ss.map V.str
 | _, [], .nil => rfl
 | _, s :: ss, .cons r t => by
  cases r
  rw [strs_vals t]; rfl
def joinD (a : Str) (ds : List DV) : Option (DV × Kd) := match strsD ds with
 | some ys => if (ys.map (·.length)).sum + ys.length * a.length ≤ 16777216 then some (.str (Txt.join a ys), .new) else none
 | none => none
def mJoin : OpN
 | [.str a, .lst ds] => joinD a ds
 | [.str a, .tup ds] => joinD a ds
 | _ => none
def rJoin (K : PySem.W.Frag) : V → List V → Hp → VK → Prop := fun x xs H Q => ∃ a p, ∃ ys : List Str, x = .str a ∧ xs = [.ref p] ∧ (SqL K H p (ys.map V.str) ∨ SqT K H p (ys.map V.str)) ∧
 (ys.map (·.length)).sum + ys.length * a.length ≤ 16777216 ∧ Q (.str (Txt.join a ys)) H
theorem joinD_some {a : Str} {ds : List DV} {c : DV × Kd} (h : joinD a ds = some c) : ∃ ys, ds = ys.map .str ∧ (ys.map (·.length)).sum + ys.length * a.length ≤ 16777216 ∧ c = (.str (Txt.join a ys), .new) := by
 unfold joinD at h
 split at h
 · rename_i ys e
   split at h
   · rename_i hl; cases h; exact ⟨ys, strsD_map e, hl, rfl⟩
   · cases h
 · cases h
theorem s_join : MethS C (rJoin C.K) mJoin := by
 intro B hB σ ρ st H xs as c Q rel rx e q
 subst hB
 unfold mJoin at e
 split at e
 · rename_i a ds ea
   obtain ⟨ys, rfl, hl, rfl⟩ := joinD_some e
   obtain ⟨v, w, kd, kd', rfl, r1, r2⟩ := two_of rx ea
   obtain rfl := r1.str
   obtain ⟨p, vs, rfl, e1, r3⟩ := r2.lst
   rw [strs_vals r3] at e1
   exact ⟨_, _, rfl, a, p, ys, rfl, rfl, .inl (.inl (.inl e1)), hl, ansF (d := .str _) rfl rel q⟩
 · rename_i a ds ea
   obtain ⟨ys, rfl, hl, rfl⟩ := joinD_some e
   obtain ⟨v, w, kd, kd', rfl, r1, r2⟩ := two_of rx ea
   obtain rfl := r1.str
   obtain ⟨p, vs, rfl, e1, r3⟩ := r2.tup
   rw [strs_vals r3] at e1
   exact ⟨_, _, rfl, a, p, ys, rfl, rfl, .inr e1, hl, ansF (d := .str _) rfl rel q⟩
 · cases e
abbrev Dv' := DS → Out (List Key × List DV)
def dvNil : Dv' := fun st => .ok ([], []) st
def dvCons (fk fv : Ev) (r : Dv') : Dv' := fun st => (fk st).bind fun k st1 => (fv st1).bind fun v st2 => (r (st2.eat v.2)).bind fun (p : List Key × List DV) st3 => match keyD k.1 with
 | some kk => if (p.1.any fun j => decide (j = kk)) = true then .stuck else .ok (kk :: p.1, v.1 :: p.2) st3
 | none => .stuck
def evDct (r : Dv') : Ev := fun st => (r st).bind fun p st1 => if p.1.length ≤ 15 then .ok (.dct p.1 p.2, .new) st1 else .stuck
theorem RepK.key {kd : Kd} {v : V} {d : DV} {k : Key} (h : keyD d = some k) (r : RepK B ρ st σ H kd v d) : v = kV k := by
 cases d <;> try (cases h; done)
 · cases h; obtain rfl := r.int; rfl
 · cases h; obtain rfl := r.str; rfl
theorem pd_dct0 : PD X B W (.Dict [] [] pos) (evDct dvNil) := by
 refine PE.mono pe_dnewK fun σ H Q ⟨ρ, st, rel, res⟩ => fun p hp => ?_
 have res : Res B W σ ρ st H (.ok (.dct [] [], .new) st) (GE B σ H Q) := res
 exact res _ _ (Step.alloc rel hp) (.ref p) (RepK.newDct (ks := []) (xs := []) rel hp rfl .nil) fun a e => by cases e; exact hp
end
end D
namespace D
open PySem L2 PyProof.Rows
def outRet : Out Fl → Out (DV × Kd)
 | .ok .nx st' => .ok (.non, .new) ⟨[], st'.cs⟩
 | .ok (.rt d kd) st' => .ok (d, match kd with
  | .fro => .fro
  | .new => .new
  | .view i => match st'.sl[i]? with
   | some (some (_, true)) => .new
   | _ => .fro) ⟨[], st'.cs⟩
 | .ok _ _ => .stuck
 | .exc x st' => .exc x ⟨[], st'.cs⟩
 | .stuck => .stuck
def zql (n : Nat) (ds : List DV) : List Slot := ds.map (fun d => some (d, false)) ++ List.replicate (n - ds.length) none
def fnSv (n p : Nat) (sv : Sv) : Fn := fun ds st => if ds.length = p then outRet (sv ⟨zql n ds, st.cs⟩) else .stuck
theorem zqx {n : Nat} {ds : List DV} {i : Nat} {d : DV} : (zql n ds)[i]? ≠ some (some (d, true)) := fun h => by
 unfold zql at h
 rw [List.getElem?_append] at h
 split at h
 · rw [List.getElem?_map] at h
   cases e : ds[i]? with
   | none => rw [e] at h; cases h
   | some x => rw [e] at h; cases h
 · rw [List.getElem?_replicate] at h
   split at h <;> cases h
section
variable {C : RC} {O : Addr → Prop} {ρ ρ' : List CellA} {H H' : Hp} {cs : List CellC} {σ' : L2.St} {st' : DS}
theorem Rel.start {N : List Str} {vs : List V} {ds : List DV} (r : Rel ⟨C, O, H⟩ ρ ⟨[], cs⟩ [] H) (rl : RepL C ρ (Av ρ O ⟨[], cs⟩ []) H vs ds) : Rel ⟨C, O, H⟩ ρ ⟨zql N.length ds, cs⟩ (L2.start N vs) H := by
 have hl := rl.length
 have noOwn : ∀ i a, ¬ ownAt ⟨zql N.length ds, cs⟩ (L2.start N vs) i a := fun i a ⟨d, h, _⟩ => zqx h
 have mv : ∀ a, Av ρ O ⟨zql N.length ds, cs⟩ (L2.start N vs) a → Av ρ O ⟨[], cs⟩ [] a ∨ H a = none := fun a z => by
  rcases z with z | z | ⟨i, z⟩
  · exact .inl (.inl z)
  · exact .inl (.inr (.inl z))
  · exact absurd z (noOwn i a)
 refine ⟨?_, fun i d h => ?_, fun i d h => absurd h zqx, fun i j p h => absurd h (noOwn i p), r.dom, r.odom, ⟨r.cel.len, fun k c x h1 h2 => ?_, r.cel.dis⟩, r.cdom, r.tabs⟩
 · simp [zql, L2.start, hl]
 · have h : (zql N.length ds)[i]? = some (some (d, false)) := h
   unfold zql at h
   rw [List.getElem?_append] at h
   split at h
   · rename_i hi
     rw [List.getElem?_map] at h
     cases e : ds[i]? with
     | none => rw [e] at h; cases h
     | some x =>
      rw [e] at h
      cases h
      obtain ⟨v, hv, rv⟩ := rl.get e
      refine ⟨v, ?_, rv.mv (List.prefix_refl _) (fun _ _ e _ _ => e) mv⟩
      unfold L2.start
      have hi' : i < (vs.map some).length := by simpa [hl] using hi
      rw [List.getElem?_append_left hi', List.getElem?_map, hv]
      rfl
   · rw [List.getElem?_replicate] at h
     split at h <;> cases h
 · have q := r.cel.ok k c x h1 h2
   cases x with
   | draw d => exact q
   | obj d => exact ⟨q.1, q.2.mv (List.prefix_refl _) (fun _ _ e _ _ => e) mv rfl⟩
   | dead => trivial
theorem av_done {a : Addr} (h : Av ρ' O ⟨[], st'.cs⟩ [] a) : Av ρ' O st' σ' a := by
 rcases h with z | z | ⟨i, d, z, _⟩
 · exact .inl z
 · exact .inr (.inl z)
 · simp at z
theorem Step.done {sl : List Slot} {σ : L2.St} (noOwn : ∀ i a, ¬ ownAt ⟨sl, cs⟩ σ i a) (s : SStep ⟨C, O, H⟩ σ ρ ⟨sl, cs⟩ H σ' ρ' st' H') : Step ⟨C, O, H⟩ [] ρ ⟨[], cs⟩ H ρ' ⟨[], st'.cs⟩ H' := by
 have r := s.rel
 have mv : ∀ a, Av ρ' O ⟨[], st'.cs⟩ [] a → Av ρ' O st' σ' a ∨ H' a = none := fun a z => .inl (av_done z)
 refine ⟨s.pre, ⟨rfl, fun i d h => by simp at h, fun i d h => by simp at h, fun i j p h => by obtain ⟨d, h, _⟩ := h; simp at h, r.dom, r.odom, ⟨r.cel.len, fun k c x h1 h2 => ?_, r.cel.dis⟩, r.cdom, r.tabs⟩, fun a o e n => s.fr a o e n fun i => noOwn i a, fun i p h => by obtain ⟨d, h, _⟩ := h; simp at h, fun i d b h => by simp at h, s.cm, s.dm⟩
 have q := r.cel.ok k c x h1 h2
 cases x with
 | draw d => exact q
 | obj d => exact ⟨q.1, q.2.mv (List.prefix_refl _) (fun _ _ e _ _ => e) mv rfl⟩
 | dead => trivial
theorem SpF.len {n p : Nat} {sv : Sv} {vs : List V} {H : Hp} {Q : VK} {E : XK} (h : SpF C (fnSv n p sv) vs H Q E) : vs.length = p := by
 obtain ⟨ρ, cs, ds, O, r, rl, res⟩ := h
 unfold fnSv at res
 split at res
 · rename_i hl; rw [rl.length]; exact hl
 · exact res.elim
end
section
variable {P : Program} {w : World} {mg : Str → Option Value} {base : Heap} {C : RC}
theorem Fun.okG {x qual : Str} {st : Stmt} {f : Addr} {fd : FuncData} {N ps : List Str} {k : Nat} {sv : Sv} (F : Fun C.K x qual st f fd) (S : FnScope N ps (defScope st))
 (hb : ∀ (cdv : Value) (A : Around) (outer : List Env) (s : Shared) (H : Hp) (E : XK), fd.code = cdv → Room k (A.deeper (envOfC qual (defScope st) s.heap.objs.size f cdv)) → (cxOf (L2.CX P w) P w C.K mg base N qual (defScope st) f cdv A outer s H E).A.guards = some [] →
  ∀ O, PSsD (cxOf (L2.CX P w) P w C.K mg base N qual (defScope st) f cdv A outer s H E) ⟨C, O, H⟩ (fun cls d _ H' => E cls d H') (defBody st) sv) :
 FnG P w C.K mg base (k + 1) f fd ps (SpF C (fnSv N.length ps.length sv)) := by
 obtain ⟨oc, od, kV, doc, pm, an, cdv, ct, osl, rfl, lk, hcd⟩ := F.ex
 refine fnG_of lk hcd S (fun vs H Q E h => h.len) fun A outer s H vs Q E hr hg h => ?_
 obtain ⟨ρ, cs, ds, O, r, rl, res⟩ := h
 refine ⟨_, hb cdv A outer s H E rfl hr (by first | exact (deeper_guards _ _).trans hg | exact hg) O, ρ, ⟨zql N.length ds, cs⟩, Rel.start r rl, ?_⟩
 have noOwn : ∀ i a, ¬ ownAt ⟨zql N.length ds, cs⟩ (L2.start N vs) i a := fun i a ⟨d, h, _⟩ => zqx h
 unfold fnSv at res
 split at res
 case isFalse => exact res.elim
 cases e : sv ⟨zql N.length ds, cs⟩ with
 | stuck => rw [e] at res; exact res
 | exc x st' =>
  rw [e] at res
  intro σ' ρ' H' cls d s1 xr
  refine res ρ' H' cls d (Step.done noOwn s1) ?_
  obtain ⟨e1, xr⟩ := xr
  refine ⟨e1, ?_⟩
  rcases xr with xr | ⟨a, vs, h1, h2, h3, h4, h5⟩
  · exact .inl xr
  · exact .inr ⟨a, vs, h1, fun z => h2 (av_done z), h3, h4, h5.mv (List.prefix_refl _) (fun _ _ e _ _ => e) fun a z => .inl (av_done z)⟩
 | ok fl st' =>
  rw [e] at res
  intro σ' ρ' H' s1
  have sd := Step.done noOwn s1
  cases fl with
  | bk => exact res.elim
  | ct => exact res.elim
  | nx => exact (res ρ' H' sd).2 .non .non (fun _ p e => nomatch e) fun p e => nomatch e
  | rt d kd =>
   intro v rv fv
   have mv : ∀ a, Av ρ' O ⟨[], st'.cs⟩ [] a → Av ρ' O st' σ' a ∨ H' a = none := fun a z => .inl (av_done z)
   cases kd with
   | fro => exact (res ρ' H' sd).2 v (Rep.mv (List.prefix_refl _) (fun _ _ e _ _ => e) mv rv) (fun z => nomatch z) trivial
   | new =>
    refine (res ρ' H' sd).2 v (Rep.mv (List.prefix_refl _) (fun _ _ e _ _ => e) mv rv.1) (fun _ p ep hc => ?_) fun p ep => fv rfl p ep
    exact (rv.2 p ep hc).mv (List.prefix_refl _) (fun _ _ e _ _ => e) (fun a z => z.elim (fun z => .inl (.inl (av_done z))) fun z => .inl (.inr z)) rfl
   | view i =>
    obtain ⟨p, rfl, es, c, n1, n2, u, n3⟩ := rv
    have npa : ¬ Av ρ' O ⟨[], st'.cs⟩ [] p := fun z => by
     rcases z with z | z | ⟨i, d, z, _⟩
     · exact n2 z
     · exact n1 z
     · simp at z
    have rp : Rep C ρ' (Av ρ' O ⟨[], st'.cs⟩ []) H' (.ref p) d := Cont.rep (A' := Av ρ' O ⟨[], st'.cs⟩ []) (fun a z => av_done z) npa c
    refine (res ρ' H' sd).2 _ rp (fun hk q eq hc => ?_) ?_
    · cases eq
      dsimp only at hk
      split at hk
      · rename_i d' hs
        have ow : ownAt st' σ' i p := ⟨d', hs, es⟩
        exact c.mv (List.prefix_refl _) (fun _ _ e _ _ => e) (fun a z => .inl (z.elim (fun z => av_done z) fun z => by subst z; exact .inr (.inr ⟨i, ow⟩))) rfl
      · cases hk
    · dsimp only
      split
      · exact fun q eq => by cases eq; exact n3
      · trivial
end
def KeptBy (F : Fn) (n : Nat) : Prop := ∀ ns : List Int, ns.length ≤ n → (∀ z ∈ ns, Builtin.Int.intBits z ≤ 1048576) → ∃ kd st', F [.scr ns] ⟨[], []⟩ = .ok (.bl true, kd) st'
def startH (K : PySem.W.Frag) (a : Addr) (sc : HO) (ts : List Addr) : Hp := fun b =>
 if b = a then (match K.lookup a with | none => some sc | some _ => none) else if b ∈ ts then some (.tbl #[]) else none
section
variable {K : PySem.W.Frag} {a b : Addr} {sc u : HO} {ts : List Addr}
theorem startH_some (h : startH K a sc ts b = some u) : (b = a ∧ K.lookup a = none ∧ u = sc) ∨ (b ≠ a ∧ b ∈ ts ∧ u = .tbl #[]) := by
 unfold startH at h
 split at h
 · next e =>
   split at h
   · next k => cases h; exact .inl ⟨e, k, rfl⟩
   · cases h
 · next e =>
   split at h
   · next m => cases h; exact .inr ⟨e, m, rfl⟩
   · cases h
theorem startH_tab (hn : b ≠ a) (hm : b ∈ ts) : startH K a sc ts b = some (.tbl #[]) := by unfold startH; rw [if_neg hn, if_pos hm]
theorem startH_scr (hk : K.lookup a = none) : startH K a sc ts a = some sc := by unfold startH; rw [if_pos rfl, hk]
end
theorem kept_sp {C : RC} {F : Fn} {H : Hp} {a : Addr} {ns : List Int} {E : XK} (hT : LamX.Tabs C.T H) (hS : (∃ o, H a = some (.frz o (.lst (ns.map V.int)))) ∨ KL C a (ns.map V.int)) (h : ∃ kd st', F [.scr ns] ⟨[], []⟩ = .ok (.bl true, kd) st') :
 SpF C F [.ref a] H (fun v _ => v = .bl true) E := by
 obtain ⟨kd, st', e⟩ := h
 have nc : ∀ z, ¬ CM [] z := fun z ⟨c, h, _⟩ => by simp at h
 have nav : ∀ z, ¬ Av [] (fun _ => False) ⟨[], []⟩ [] z := fun z q => by
  rcases q with q | q | ⟨i, d, q, _⟩
  · exact q
  · exact nc z q
  · simp at q
 refine ⟨[], [], [.scr ns], fun _ => False, ⟨rfl, fun i d h => by simp at h, fun i d h => by simp at h, fun i j p h => by obtain ⟨d, h, _⟩ := h; simp at h, fun _ z => z, fun _ z => z.elim, ⟨rfl, fun k c x h => by simp at h, fun i j c c' h => by simp at h⟩, fun z q => absurd q (nc z), hT⟩, .cons ?_ .nil, ?_⟩
 · rcases hS with ⟨o, hS⟩ | hS
   · exact .scr (nav a) hS
   · exact .kscr hS
 · rw [e]
   refine fun ρ' H' s => ⟨?_, fun v rv _ _ => by cases rv; rfl⟩
   have := s.rel.len
   cases h : st'.sl with
   | nil => rfl
   | cons x l => rw [h] at this; simp at this
theorem law_callT {P : Program} {w : World} {C : RC} {mg mb : Str → Option Value} {k : Nat} {fa a : Addr} {fd : FuncData} {x : Str} {F : Fn} {s₁ : Shared} {vs : List Value} {ns : List Int} {ts : List (Addr × Addr)}
 (KX : C.K.In s₁.heap) (hns : s₁.heap.Ns mainGlobals mg) (hb : s₁.heap.Ns builtinsNs mb) (hbb : ∀ x : Str, x ≠ "__name__" → mb x = bootBuiltins x) (hlim : s₁.heap.NoLimit) (hg : s₁.gens = #[])
 (hT : ∀ p ∈ ts, PySem.W.CodeHd s₁.heap p.1 p.2 ∧ s₁.heap.get? p.2 = some (PySem.W.tabObj #[])) (hTK : ∀ p ∈ ts, C.K.lookup p.2 = none) (hCT : ∀ q ∈ C.T, ∃ p ∈ ts, p.2 = q.1)
 (hbm : ∃ (bm : Addr) (ob : Obj), mg "__builtins__" = some (.ref bm) ∧ bm ≠ builtinsNs ∧ s₁.heap.get? bm = some ob ∧ ob.cls = .type "module" ∧ ob.dict = some builtinsNs ∧ ob.data = .plain)
 (ha : s₁.heap.get? a = some { cls := .type "list", data := .seq vs.toArray }) (hi : IntsAre vs ns) (hl : ns.length ≤ sizeLine) (hr : Room k callerA)
 (hF : ∀ base : Heap, C.K.In base → base.Ns mainGlobals mg → (∀ p ∈ ts, LamX.TabB base mg p.1 p.2) → FnG P w C.K mg base k fa fd [x] (SpF C F)) (hbind : ∀ (s : Shared) (u : Value), BindsTo s fd ⟨[u], []⟩ [(x, u)])
 (hk : ∃ kd st', F [.scr ns] ⟨[], []⟩ = .ok (.bl true, kd) st') :
 codeAny (model P w) callerA (.call (.ref fa) ⟨[.ref a], []⟩) (fun r s' => r = .ok (.ret (.bool true)) ∧ OldK s₁.heap s'.heap ∧ s'.os = s₁.os ∧ AllBare s'.gens) s₁ := by
 have rv := vals_ints hi
 obtain ⟨hT1, hT2⟩ : (∀ b ∈ ts.map (·.2), s₁.heap.get? b = some (PySem.W.tabObj #[])) ∧ (∀ b ∈ ts.map (·.2), C.K.lookup b = none) := by
  refine ⟨fun b hb => ?_, fun b hb => ?_⟩
  · obtain ⟨p, hp, rfl⟩ := List.mem_map.mp hb
    exact (hT p hp).2
  · obtain ⟨p, hp, rfl⟩ := List.mem_map.mp hb
    exact hTK p hp
 have haT : ∀ b ∈ ts.map (·.2), b ≠ a := fun b hb z => by
  have q := hT1 b hb
  rw [z, ha] at q
  exact nomatch (congrArg Obj.data (Option.some.inj q))
 generalize hH : startH C.K a (.frz { cls := .type "list", data := .seq vs.toArray } (.lst (ns.map V.int))) (ts.map (·.2)) = H
 have hS : ∀ b u, H b = some u → (b = a ∧ C.K.lookup a = none ∧ u = .frz { cls := .type "list", data := .seq vs.toArray } (.lst (ns.map V.int))) ∨ (b ≠ a ∧ b ∈ ts.map (·.2) ∧ u = .tbl #[]) := fun b u e => startH_some (hH ▸ e)
 -- an object that is neither the script nor a table stands in the hidden heap
 have stays : ∀ (b : Addr) (o : Obj), s₁.heap.get? b = some o → (∀ vs n, o.data ≠ .seq vs n) → o.data ≠ .fields #[] → (hidT s₁.heap H).get? b = some o := fun b o e h1 h2 => hidT_get e (by
  cases q : H b with
  | none => rfl
  | some u =>
   rcases hS b u q with ⟨z, _⟩ | ⟨_, z, _⟩
   · rw [z, ha] at e; cases e; exact absurd rfl (h1 _ _)
   · rw [hT1 b z] at e; cases e; exact absurd rfl h2)
 have names : ∀ {b : Addr} {m : Str → Option Value}, s₁.heap.Ns b m → (hidT s₁.heap H).Ns b m := fun ⟨o, es, ep, e, d, r⟩ => ⟨o, es, ep, stays _ _ e (fun _ _ z => by rw [d] at z; cases z) (fun z => by rw [d] at z; cases z), d, r⟩
 have hKb : C.K.In (hidT s₁.heap H) := fun b o e => hidT_get (KX b o e) (by
  cases q : H b with
  | none => rfl
  | some u =>
   rcases hS b u q with ⟨z, k, _⟩ | ⟨_, z, _⟩
   · rw [z, k] at e; cases e
   · rw [hT2 b z] at e; cases e)
 have hM : Mod C.K mg (hidT s₁.heap H) := ⟨hKb, names hns, ⟨mb, names hb, hbb⟩, hlim.imp fun mc q => ⟨names q.1, q.2⟩⟩
 have hok : HOk P w H s₁.heap := fun b u e => by
  rcases hS b u e with ⟨z, _, rfl⟩ | ⟨_, z, rfl⟩
  · subst z; exact ⟨ha, by rw [List.length_map]; exact hl, vs, _, rv, ha⟩
  · exact hT1 b z
 have hTB : ∀ p ∈ ts, LamX.TabB (hidT s₁.heap H) mg p.1 p.2 := fun p hp => by
  obtain ⟨hc, ht⟩ := hT p hp
  have gne : mainGlobals ≠ p.2 := fun z => by
   obtain ⟨o, es, ep, e, d, _⟩ := hns
   rw [z, ht] at e; cases e; cases d
  refine ⟨?_, ?_, gne⟩
  · obtain ⟨o, us, f, tf, fl, tg, iF, tx, tt, e, rest⟩ := hc
    refine ⟨o, us, f, tf, fl, tg, iF, tx, tt, stays _ _ e (fun _ _ z => ?_) fun z => ?_, rest⟩
    · rw [rest.2.1] at z; cases z
    · rw [rest.2.1] at z
      cases z
      have := rest.2.2.1
      simp at this
  · obtain ⟨bm, ob, b1, b2, b3, b4, b5, b6⟩ := hbm
    refine ⟨bm, ob, b1, b2, fun z => ?_, fun z => ?_, stays _ _ b3 (fun _ _ z => by rw [b6] at z; cases z) (fun z => by rw [b6] at z; cases z), b4, b5, b6⟩
    · obtain ⟨o, es, ep, e, d, _⟩ := hns
      rw [← z, b3] at e; cases e; rw [b6] at d; cases d
    · rw [z, ht] at b3; cases b3; cases b6
 have e0 : Env0 P w C.K mg (hidT s₁.heap H) callerA [] s₁ H := ⟨rfl, hM, fun _ _ e => of_hidT e, Nat.le_of_eq (hidT_size _ _), trivial, fun _ z => (nomatch z), hok, .of_eq hg⟩
 have hsp : SpF C F [.ref a] H (fun v _ => v = .bl true) (fun _ _ _ => False) := by
  refine kept_sp (fun q hq => ?_) ?_ hk
  · obtain ⟨p, hp, e⟩ := hCT q hq
    have m : p.2 ∈ ts.map (·.2) := List.mem_map.mpr ⟨p, hp, rfl⟩
    exact LamX.TabS.nil (by rw [← e, ← hH]; exact startH_tab (haT _ m) m)
  · cases k : C.K.lookup a with
    | none => exact .inl ⟨_, by rw [← hH]; exact startH_scr k⟩
    | some o =>
     have e := KX a o k
     rw [ha] at e
     cases e
     exact .inr ⟨_, vs.toArray, _, k, rfl, rfl, rfl, by rw [List.size_toArray, hi.length]; exact hl, by simpa using rv⟩
 refine codeAny_mono ((hF _ hKb (names hns) hTB).run callerA [] s₁ H ⟨[.ref a], []⟩ [.ref a] [.ref a] _ (fun _ _ _ => False) hr rfl e0 (hbind s₁ (.ref a)) (.cons rfl .nil) hsp) fun r s' h => ?_
 match r, h with
 | .error e, ⟨_, _, _, _, _, _, _, _, _, _, _, _, z⟩ => exact z.elim
 | .ok .next, h => exact False.elim h
 | .ok .brk, h => exact False.elim h
 | .ok .cont, h => exact False.elim h
 | .ok (.ret u), ⟨v, H', os, bare, un, hok', r', q⟩ =>
  have q' : v = .bl true := q
  subst q'
  obtain rfl : u = Value.bool true := r'
  have plain : ∀ b o, s₁.heap.get? b = some o → b ∉ ts.map (·.2) → s'.heap.get? b = some o := fun b o e nb => by
   cases q : H b with
   | none => exact un.keep b o e q (fun z => nomatch z) (fun z => nomatch z)
   | some u =>
    rcases hS b u q with ⟨z, k, rfl⟩ | ⟨_, z, _⟩
    · have e2 := (hok' b _ (un.frzs b _ _ q)).1
      rw [z] at e
      rw [ha] at e
      cases e
      exact e2
    · exact absurd z nb
  have grown : ∀ b ∈ ts.map (·.2), ∃ more : Array Value, s'.heap.get? b = some (PySem.W.tabObj more) := fun b hb => by
   obtain ⟨more, z⟩ := un.tbls b #[] (by rw [← hH]; exact startH_tab (haT b hb) hb)
   exact ⟨_, hok' b _ z⟩
  refine ⟨rfl, ⟨fun b o e => ?_, fun b o e => ?_⟩, os, bare⟩
  · by_cases hb : b ∈ ts.map (·.2)
    · obtain ⟨more, hm⟩ := grown b hb
      obtain ⟨p, hp, rfl⟩ := List.mem_map.mp hb
      have e2 := (hT p hp).2
      rw [e2] at e
      cases e
      exact .inr (.inl ⟨((hT p hp).1.tab (hT p hp).2).isCodeTable, rfl, #[], more, rfl, by rw [Array.empty_append]; exact hm⟩)
    · exact .inl (plain b o e hb)
  · by_cases hb : b ∈ ts.map (·.2)
    · obtain ⟨more, hm⟩ := grown b hb
      exact ⟨_, hm⟩
    · exact ⟨o, plain b o e hb⟩
theorem walkT {l : PySem.W.OpenLaw} {n k : Nat} {q : Program} {loose : List Str} {XP : (Str → Option Value) → Heap → Prop} {YP : World → Heap → Prop} {d : DefRec} {K : Params → PySem.W.Frag} {x : Str} {F : Fn}
 (hn : l.most = some n) (hn2 : n ≤ sizeLine) (hdf : d.params.defaults = []) (hr : Room k callerA)
 (hY : ∀ (w : World) (h : Heap), YP w h → (K w.params).In h)
 (hF : ∀ (w : World) (mg : Str → Option Value) (fa : Addr) (h : Heap), (K w.params).In h → h.Ns mainGlobals mg → mg d.name = some (.ref fa) →
  ∃ (fd : FuncData) (cls : Nat → Addr) (T : List (Addr × Str)) (ts : List (Addr × Addr)), (∀ (s : Shared) (u : Value), BindsTo s fd ⟨[u], []⟩ [(x, u)]) ∧
   (∀ p ∈ ts, ∃ y d', (recsOf q).find? (fun e => e.name == y) = some d' ∧ PySem.W.tabIn (K w.params) y = some p) ∧ (∀ p ∈ ts, (K w.params).lookup p.2 = none) ∧ (∀ t ∈ T, ∃ p ∈ ts, p.2 = t.1) ∧
   ∀ base : Heap, (K w.params).In base → base.Ns mainGlobals mg → (∀ p ∈ ts, LamX.TabB base mg p.1 p.2) → FnG l.prog w (K w.params) mg base k fa fd [x] (SpF ⟨K w.params, cls, T⟩ F))
 (hk : KeptBy F n) :
 PySem.W.WalkO q loose XP YP l.row.toRowW d [] (fun f vs => PySem.call f vs) := by
 refine Att.attach_callB hn hdf fun w s₀ s₁ mg mb fa o pm cd doc a vs ns G Y ho hd hcd hmg hobj hints hlen hbits hg => ?_
 have KX := hY w _ Y
 obtain ⟨fd, cls, T, ts, hb, h1, h2, h3, hF⟩ := hF w mg fa _ KX G.T.g hmg
 exact law_callT (C := ⟨K w.params, cls, T⟩) KX G.T.g G.T.b G.T.builtins G.T.nolimit hg (fun p hp => by obtain ⟨y, d', e1, e2⟩ := h1 p hp; exact PySem.W.tab_of G.T KX e1 e2) h2 h3 G.T.bmain hobj hints (Nat.le_trans hlen hn2) hr hF hb (hk ns hlen hbits)
end D
namespace D
open PySem L2 PyProof.Rows
inductive CK | digits | turn
inductive CL | great | lumps
def CK.name : CK → Str | .digits => "digits" | .turn => "turn"
def CL.name : CL → Str | .great => "great" | .lumps => "lumps"
def CK.get : CK → DrawSt → Int | .digits, d => d.digits | .turn, d => d.turn
def CL.get : CL → DrawSt → List Int | .great, d => d.great | .lumps, d => d.lumps
def CK.put : CK → DrawSt → Int → DrawSt | .digits, d, n => { d with digits := n } | .turn, d, n => { d with turn := n }
section
variable {X : Cx} {B : BC} {W : WX} {σ : L2.St} {ρ ρ1 : List CellA} {st st1 : DS} {H H1 H' : Hp} {o e : Expr} {fo fe : Ev} {pos pos' p p2 tpos cpos apos : Pos} {i k kk : Nat} {d d' : DrawSt} {c : CellA}
def drawAt (st : DS) (i : Nat) : Option (Nat × DrawSt) := match st.sl[i]? with
 | some (some (.cel k, false)) => (match st.cs[k]? with
  | some (.draw d) => some (k, d)
  | _ => none)
 | _ => none
theorem drawAt_of (rel : Rel B ρ st σ H) (h : drawAt st i = some (k, d)) : ∃ c, σ[i]? = some (some (.ref c.main)) ∧ ρ[k]? = some c ∧ st.cs[k]? = some (.draw d) ∧ DrawAt H c d := by
 unfold drawAt at h
 split at h
 · rename_i k' hs
   split at h
   · rename_i d' hc
     cases h
     obtain ⟨v, e1, q⟩ := rel.fro i _ hs
     cases q with
     | cel hk => exact ⟨_, e1, hk, hc, rel.cel.ok _ _ _ hk hc⟩
   · cases h
 · cases h
theorem dget_i (h : DrawAt H c d) (ck : CK) : DGet H c.main (.str ck.name) (some (.int (ck.get d))) := by
 obtain ⟨g, l, e1, _, _, _, e2, _⟩ := h
 refine .inl ⟨_, .inr ck.name, .inl e2, rfl, ?_⟩
 cases ck <;> rfl
theorem dget_l (h : DrawAt H c d) (cl : CL) : ∃ a, a ∈ c.more ∧ H a = some (.lst ((cl.get d).map V.int)) ∧ DGet H c.main (.str cl.name) (some (.ref a)) := by
 obtain ⟨g, l, e1, _, _, _, e2, e3, e4⟩ := h
 cases cl
 · exact ⟨g, by rw [e1]; simp, e3, .inl ⟨_, .inr CL.great.name, .inl e2, rfl, rfl⟩⟩
 · exact ⟨l, by rw [e1]; simp, e4, .inl ⟨_, .inr CL.lumps.name, .inl e2, rfl, rfl⟩⟩
def evCI (i : Nat) (ck : CK) : Ev := fun st => match drawAt st i with
 | some (_, d) => .ok (.int (ck.get d), .new) st
 | none => .stuck
theorem pd_ci (hu : X.A.units + 65 < cLine) (ck : CK) (ho : PE X o (tVar i)) (hs : NoSl (.Constant (.str ck.name) kk p)) : PD X B W (.Subscript o (.Constant (.str ck.name) kk p) pos) (evCI i ck) := by
 refine PE.mono (pe_dget (by omega) ho pe_str hs) fun σ H Q ⟨ρ, st, rel, res⟩ => ?_
 unfold evCI at res
 split at res
 · rename_i k d h
   obtain ⟨c, e1, e2, e3, e4⟩ := drawAt_of rel h
   exact ⟨_, e1, _, _, rfl, dget_i e4 ck, res _ _ (.refl rel) _ (RepK.mkF (d := .int _) rfl) (fresh_flat (d := .int _) rfl)⟩
 · exact res.elim
def evCLen (i : Nat) (cl : CL) : Ev := fun st => match drawAt st i with
 | some (_, d) => .ok (.int ((cl.get d).length : Nat), .new) st
 | none => .stuck
theorem pd_clen (hu : X.A.units + 65 < cLine) (cl : CL) (hgl : Gl X "len") (hm : X.mg "len" = none) (ho : PE X o (tVar i)) (hs : NoSl (.Constant (.str cl.name) kk p))
 (he : starEach [.Subscript o (.Constant (.str cl.name) kk p) p2] X.env = (false, eval (.Subscript o (.Constant (.str cl.name) kk p) p2) X.env) :: starEach [] X.env) (hpl : (backTo pos (starEach [] X.env)).any (·.1) = false) :
 PD X B W (.Call (.Name "len" pos') [.Subscript o (.Constant (.str cl.name) kk p) p2] [] pos) (evCLen i cl) := by
 refine PE.mono (pe_callB call_len_seq hgl hm PySem.boot_len (pa_cons (pe_dget (by omega) ho pe_str hs) pa_nil he) (by decide) (by decide) he hpl) fun σ H Q ⟨ρ, st, rel, res⟩ => ?_
 unfold evCLen at res
 split at res
 · rename_i k d h
   obtain ⟨c, e1, e2, e3, e4⟩ := drawAt_of rel h
   obtain ⟨a, ha, e5, e6⟩ := dget_l e4 cl
   have := res _ _ (.refl rel) _ (RepK.mkF (d := .int _) rfl) (fresh_flat (d := .int _) rfl)
   exact ⟨_, e1, _, _, rfl, e6, a, _, rfl, .inl (.inl (.inl e5)), by rw [List.length_map]; exact this⟩
 · exact res.elim
def tvNE (i : Nat) (cl : CL) : Tv := fun st => match drawAt st i with
 | some (_, d) => .ok (!(cl.get d).isEmpty) st
 | none => .stuck
theorem ints_dp {K : PySem.W.Frag} : ∀ ns : List Int, DpAll K H (ns.map V.int) (ns.map PyData.int)
 | [] => .nil
 | n :: ns => .cons (.int n) (ints_dp ns)
theorem canLay_ints : ∀ ns : List Int, PyData.canLayAll0 (ns.map PyData.int) = true
 | [] => rfl
 | n :: ns => by
  show (PyData.canLay0 (.int n) && PyData.canLayAll0 (ns.map PyData.int)) = true
  rw [canLay_ints ns]; rfl
theorem depth_ints : ∀ ns : List Int, PyData.depthAll (ns.map PyData.int) = 0
 | [] => rfl
 | n :: ns => by
  show max (PyData.depth (.int n)) (PyData.depthAll (ns.map PyData.int)) = 0
  rw [depth_ints ns]; rfl
theorem shaped_ints (ns : List Int) : SeqAt.shaped (.list (ns.map PyData.int)) = true := by
 unfold SeqAt.shaped
 rw [Bool.and_eq_true]
 refine ⟨canLay_ints ns, decide_eq_true ?_⟩
 show PyData.depthAll (ns.map PyData.int) + 1 ≤ 64
 rw [depth_ints]; decide
theorem eqv_ints_nil (ns : List Int) : PyData.eqv (.list (ns.map PyData.int)) (.list []) = ns.isEmpty := by
 show PyData.eqvAll (ns.map PyData.int) [] = _
 cases ns <;> rfl
theorem ptd_ne (hK : B.C.K = X.K) (hu : X.A.units + 65 < cLine) (cl : CL) (ho : PE X o (tVar i)) (hs : NoSl (.Constant (.str cl.name) kk p)) (hmk : behindInMarks .NotEq (.List [] p2) = false) :
 PTD X B W (.Compare (.Subscript o (.Constant (.str cl.name) kk p) tpos) [.NotEq] [.List [] p2] pos) (tvNE i cl) := by
 refine PT.mono (pt_cmpR (op_neD (by omega)) (pe_dget (by omega) ho pe_str hs) (pe_lst pa_nil) hmk) fun σ H Q ⟨ρ, st, rel, res⟩ => ?_
 unfold tvNE at res
 split at res
 · rename_i k d h
   obtain ⟨c, e1, e2, e3, e4⟩ := drawAt_of rel h
   obtain ⟨a, ha, e5, e6⟩ := dget_l e4 cl
   refine ⟨_, e1, _, _, rfl, e6, Nat.zero_le _, fun q hq => ?_⟩
   have res := res _ _ (Step.alloc (o := .lst []) rel hq)
   have ea : upd H q (.lst []) a = some (.lst ((cl.get d).map V.int)) := by rw [upd_ne (ne_of_none e5 hq)]; exact e5
   refine ⟨.list ((cl.get d).map PyData.int), .list [], .lst (.inl (.inl ea)) (ints_dp _), .lst (.inl (.inl upd_same)) .nil, shaped_ints _, rfl, ?_⟩
   refine ⟨!(cl.get d).isEmpty, ?_, res⟩
   rw [eqv_ints_nil]
 · exact res.elim
def evCIx (i : Nat) (cl : CL) (fe : Ev) : Ev := fun st => match drawAt st i with
 | some _ => (fe st).bind fun a st1 => (match drawAt st1 i, a.1 with
  | some (_, d), .int j => (match atI (cl.get d) j with
   | some n => .ok (.int n, .new) st1
   | none => .stuck)
  | _, _ => .stuck)
 | _ => .stuck
theorem atI_map {α β : Type} (f : α → β) (xs : List α) (j : Int) : atI (xs.map f) j = (atI xs j).map f := by
 unfold atI
 rw [List.length_map]
 cases ixN xs.length j with
 | none => rfl
 | some n => simp
theorem drawAt_step {k1 : Nat} {d1 : DrawSt} (s : Step B σ ρ st H ρ1 st1 H1) (h : drawAt st i = some (k, d)) (h1 : drawAt st1 i = some (k1, d1)) : k1 = k := by
 unfold drawAt at h h1
 split at h1
 · rename_i k' hs
   split at h1
   · cases h1
     obtain ⟨c, e⟩ := s.sl i _ _ hs
     split at h
     · rename_i k'' hs'
       split at h
       · cases h
         rw [hs'] at e
         cases e
         rfl
       · cases h
     · cases h
   · cases h1
 · cases h1
theorem dget_more (h : DrawAt H c d) (h' : DrawAt H' c d') (cl : CL) {a : Addr} (ha : DGet H c.main (.str cl.name) (some (.ref a))) : H' a = some (.lst ((cl.get d').map V.int)) := by
 obtain ⟨g, l, e1, _, _, _, e3, e4, e5⟩ := h
 obtain ⟨g', l', e1', _, _, _, e3', e4', e5'⟩ := h'
 rw [e1] at e1'
 cases e1'
 rcases ha with ⟨kvs, k, r, ek, ev⟩ | ⟨kvs, k, b, r, _⟩
 · rcases r with r | ⟨o, r⟩
   · rw [e3] at r
     cases r
     cases k with
     | inl n => cases ek
     | inr s =>
      cases ek
      cases cl
      · cases ev; exact e4'
      · cases ev; exact e5'
   · rw [e3] at r; cases r
 · rcases r with r | ⟨o, r⟩ <;> (rw [e3] at r; cases r)
theorem pd_cix (hK : B.C.K = X.K) (hu : X.A.units + 65 < cLine) (cl : CL) (ho : PE X o (tVar i)) (hs : NoSl (.Constant (.str cl.name) kk p)) (he : PD X B W e fe) (hsl : PlainIx e) : PD X B W (.Subscript (.Subscript o (.Constant (.str cl.name) kk p) p2) e pos) (evCIx i cl fe) := by
 refine PE.mono (pe_ix ix_list (pe_dget (by omega) ho pe_str hs) he hsl) fun σ H Q ⟨ρ, st, rel, res⟩ => ?_
 unfold evCIx at res
 cases h0 : drawAt st i with
 | none => rw [h0] at res; exact res.elim
 | some kd =>
  obtain ⟨k, d⟩ := kd
  rw [h0] at res
  obtain ⟨c, e1, e2, e3, e4⟩ := drawAt_of rel h0
  obtain ⟨a, ha, e5, e6⟩ := dget_l e4 cl
  refine ⟨_, e1, _, _, rfl, e6, ?_⟩
  refine RD.go rel (Res.bind res) fun b st1 ρ1 H1 s1 r1 y ry fy => ?_
  cases h1 : drawAt st1 i with
  | none => rw [h1] at r1; exact r1.elim
  | some kd =>
   obtain ⟨k1, d1⟩ := kd
   rw [h1] at r1
   obtain ⟨c1, f1, f2, f3, f4⟩ := drawAt_of s1.rel h1
   have hk := drawAt_step s1 h0 h1
   subst hk
   have hcc : c1 = c := by
    obtain ⟨t, rfl⟩ := s1.pre
    rw [List.getElem?_append_left (List.getElem?_eq_some_iff.mp e2).1, e2] at f2
    cases f2; rfl
   subst hcc
   have e7 := dget_more e4 f4 cl e6
   obtain ⟨bd, bk⟩ := b
   cases bd <;> try exact r1.elim
   rename_i j
   dsimp only at r1
   cases ej : atI (cl.get d1) j with
   | none => rw [ej] at r1; exact r1.elim
   | some n =>
    rw [ej] at r1
    obtain rfl := RepK.int ry
    refine ⟨a, _, j, .int n, rfl, rfl, .inl (.inl e7), by rw [atI_map, ej]; rfl, ?_⟩
    exact Res.now s1.rel r1 _ (RepK.mkF (d := .int _) rfl) (fresh_flat (d := .int _) rfl)
theorem Step.draw (rel : Rel B ρ st σ H) (hc : ρ[k]? = some c) (hs : st.cs[k]? = some (.draw d)) (hd : DrawAt H' c d') (hfr : ∀ a, ¬ (a = c.main ∨ a ∈ c.more) → H' a = H a) : Step B σ ρ st H ρ ⟨st.sl, st.cs.set k (.draw d')⟩ H' := by
 have inC : ∀ a, (a = c.main ∨ a ∈ c.more) → CM ρ a := fun a z => ⟨c, List.mem_of_getElem? hc, z⟩
 have some' : ∀ a, (a = c.main ∨ a ∈ c.more) → H' a ≠ none := fun a z => by
  obtain ⟨g, l, e1, _, _, _, e3, e4, e5⟩ := hd
  rcases z with rfl | z
  · rw [e3]; exact fun z => nomatch z
  · rw [e1] at z
    rcases List.mem_cons.mp z with rfl | z
    · rw [e4]; exact fun z => nomatch z
    · rcases List.mem_cons.mp z with rfl | z
      · rw [e5]; exact fun z => nomatch z
      · cases z
 have fr : ∀ a o, H a = some o → ¬ CM ρ a → NT o → H' a = some o := fun a o e n _ => (hfr a fun z => n (inC a z)).trans e
 have dm : ∀ a, H a ≠ none → H' a ≠ none := fun a z => by
  by_cases h : a = c.main ∨ a ∈ c.more
  · exact some' a h
  · rw [hfr a h]; exact z
 have mv : ∀ a, Av ρ B.O ⟨st.sl, st.cs.set k (.draw d')⟩ σ a → Av ρ B.O st σ a ∨ H a = none := fun a z => .inl z
 have fr' : ∀ a o, H a = some o → ¬ Av ρ B.O st σ a → NT o → H' a = some o := fun a o e n => fr a o e fun z => n (.cm z)
 have hkl : k < st.cs.length := (List.getElem?_eq_some_iff.mp hs).1
 refine ⟨List.prefix_refl _, ⟨rel.len, fun i d h => ?_, fun i d h => ?_, rel.dis, fun a z => dm a (rel.dom a z), fun a z => dm a (rel.odom a z), ⟨by rw [rel.cel.len]; simp, fun j cj x h1 h2 => ?_, rel.cel.dis⟩, fun a z => dm a (rel.cdom a z), tabs_but rel.tabs fun a o e nw => ?_⟩, fr, fun _ _ z => z, fun _ _ b z => ⟨b, z⟩, fun _ z => .inl z, dm⟩
 · obtain ⟨v, e, q⟩ := rel.fro i d h
   exact ⟨v, e, q.mv (List.prefix_refl _) fr' mv⟩
 · obtain ⟨q, e, cc, n1, n2, n3⟩ := rel.own i d h
   exact ⟨q, e, cc.mv (List.prefix_refl _) fr' mv (hfr q fun z => n1 (inC q z)), n1, n2, n3⟩
 · by_cases hj : j = k
   · subst hj
     rw [hc] at h1
     cases h1
     have h2 : (st.cs.set j (.draw d'))[j]? = some x := h2
     rw [List.getElem?_set_self hkl] at h2
     cases h2
     exact hd
   · have h2 : (st.cs.set k (.draw d'))[j]? = some x := h2
     rw [List.getElem?_set_ne (Ne.symm hj)] at h2
     have q := rel.cel.ok j cj x h1 h2
     have keep : ∀ a, (a = cj.main ∨ a ∈ cj.more) → H' a = H a := fun a z => hfr a fun z' => rel.cel.dis j k cj c h1 hc hj a z z'
     cases x with
     | draw dd =>
      obtain ⟨g, l, e1, n1, n2, n3, e3, e4, e5⟩ := q
      exact ⟨g, l, e1, n1, n2, n3, (keep _ (.inl rfl)).trans e3, (keep g (.inr (by rw [e1]; simp))).trans e4, (keep l (.inr (by rw [e1]; simp))).trans e5⟩
     | obj dd => exact ⟨q.1, q.2.mv (List.prefix_refl _) fr' mv (keep _ (.inl rfl))⟩
     | dead => trivial
 · by_cases h : a = c.main ∨ a ∈ c.more
   · obtain ⟨g, l, e1, _, _, _, e3, e4, e5⟩ := rel.cel.ok k c _ hc hs
     refine absurd ?_ nw
     rcases h with rfl | h
     · rw [e3] at e; cases e; trivial
     · rw [e1] at h
       rcases List.mem_cons.mp h with rfl | h
       · rw [e4] at e; cases e; trivial
       · rcases List.mem_cons.mp h with rfl | h
         · rw [e5] at e; cases e; trivial
         · cases h
   · rw [hfr a h]; exact e
def svCSet (i : Nat) (ck : CK) (fe : Ev) : Sv := fun st => (fe st).bind fun a st1 => match drawAt st1 i, a.1 with
 | some (k, d), .int n => .ok .nx ⟨st1.sl, st1.cs.set k (.draw (ck.put d n))⟩
 | _, _ => .stuck
theorem dput_i (h : DrawAt H c d) (ck : CK) (n : Int) : ∃ H', DPut H c.main (.str ck.name) (.int n) H' ∧ DrawAt H' c (ck.put d n) ∧ ∀ a, ¬ (a = c.main ∨ a ∈ c.more) → H' a = H a := by
 obtain ⟨g, l, e1, n1, n2, n3, e3, e4, e5⟩ := h
 refine ⟨_, .inl ⟨_, .inr ck.name, e3, rfl, by show 4 < sizeLine; decide, rfl⟩, ⟨g, l, e1, n1, n2, n3, ?_, ?_, ?_⟩, fun a z => upd_ne fun e => z (.inl e)⟩
 · rw [upd_same]
   cases ck <;> rfl
 · rw [upd_ne (Ne.symm n1), e4]
   cases ck <;> rfl
 · rw [upd_ne (Ne.symm n2), e5]
   cases ck <;> rfl
theorem psd_cset (hu : X.A.units + 65 < cLine) (ck : CK) (ho : PE X o (tVar i)) (he : PD X B W e fe) (hs : swapsWith e (some (.Subscript o (.Constant (.str ck.name) kk p) pos')) pos.line X.env = pure false) : PSD X B W (.Assign [.Subscript o (.Constant (.str ck.name) kk p) pos'] e pos) (svCSet i ck fe) := by
 refine PS.mono (ps_dput (by omega) ho pe_str he hs) fun D σ H ⟨ρ, st, rel, r⟩ => ?_
 refine RD.go rel (SRes.ex r) fun a st1 ρ1 H1 s1 r1 v rv fv => ?_
 cases h1 : drawAt st1 i with
 | none => rw [h1] at r1; exact r1.elim
 | some kd =>
  obtain ⟨k, d⟩ := kd
  rw [h1] at r1
  obtain ⟨ad, ak⟩ := a
  cases ad <;> try exact r1.elim
  rename_i n
  obtain rfl := RepK.int rv
  obtain ⟨c, f1, f2, f3, f4⟩ := drawAt_of s1.rel h1
  obtain ⟨H2, g1, g2, g3⟩ := dput_i f4 ck n
  refine ⟨_, f1, _, H2, rfl, g1, ?_⟩
  exact r1 _ _ _ (.of (Step.draw s1.rel f2 f3 g2 g3))
def svCAug (i : Nat) (ck : CK) (fe : Ev) : Sv := fun st => match drawAt st i with
 | some (k, d) => (fe st).bind fun a st1 => (match drawAt st1 i, a.1 with
  | some (_, d1), .int n => .ok .nx ⟨st1.sl, st1.cs.set k (.draw (ck.put d1 (ck.get d + n)))⟩
  | _, _ => .stuck)
 | none => .stuck
theorem psd_caug (hu : X.A.units + 65 < cLine) (ck : CK) (ho : PE X o (tVar i)) (he : PD X B W e fe)
 (ha : ∀ ov iv new, augStore (.Constant (.str ck.name) kk p) ov iv new = (do holding [new, ov, iv] (setItem ov iv new); release [new, ov, iv] []; pure .next)) : PSD X B W (.AugAssign (.Subscript o (.Constant (.str ck.name) kk p) tpos) .Add e pos) (svCAug i ck fe) := by
 refine PS.mono (ps_daug (by omega) ho pe_str he in_add ha) fun D σ H ⟨ρ, st, rel, r⟩ => ?_
 unfold svCAug at r
 cases h0 : drawAt st i with
 | none => rw [h0] at r; exact r.elim
 | some kd =>
  obtain ⟨k, d⟩ := kd
  rw [h0] at r
  obtain ⟨c, e1, e2, e3, e4⟩ := drawAt_of rel h0
  refine ⟨_, e1, _, _, rfl, dget_i e4 ck, ?_⟩
  refine RD.go rel (SRes.ex r) fun a st1 ρ1 H1 s1 r1 v rv fv => ?_
  cases h1 : drawAt st1 i with
  | none => rw [h1] at r1; exact r1.elim
  | some kd =>
   obtain ⟨k1, d1⟩ := kd
   rw [h1] at r1
   obtain ⟨ad, ak⟩ := a
   cases ad <;> try exact r1.elim
   rename_i n
   obtain rfl := RepK.int rv
   obtain ⟨c1, f1, f2, f3, f4⟩ := drawAt_of s1.rel h1
   have hk := drawAt_step s1 h0 h1
   subst hk
   have hcc : c1 = c := by
    obtain ⟨t, rfl⟩ := s1.pre
    rw [List.getElem?_append_left (List.getElem?_eq_some_iff.mp e2).1, e2] at f2
    cases f2; rfl
   subst hcc
   obtain ⟨H2, g1, g2, g3⟩ := dput_i f4 ck (ck.get d + n)
   refine ⟨_, _, rfl, rfl, H2, g1, ?_⟩
   exact r1 _ _ _ (.of (Step.draw s1.rel f2 f3 g2 g3))
def svPop0 (i : Nat) : Sv := fun st => match drawAt st i with
 | some (k, d) => (match d.great with
  | n :: r => .ok .nx ⟨st.sl, st.cs.set k (.draw { d with great := r, digits := n })⟩
  | [] => .stuck)
 | none => .stuck
theorem psd_pop0 {kk2 : Nat} {p3 p4 : Pos} (hK : B.C.K = X.K) (hu : X.A.units + 65 < cLine) (ho : PE X o (tVar i)) (ho2 : PE X e (tVar i)) (hsg : NoSl (.Constant (.str CL.great.name) kk2 p2))
 (hbase : attributeBase (.Subscript e (.Constant (.str CL.great.name) kk2 p2) p3) "pop" X.env (eval (.Subscript e (.Constant (.str CL.great.name) kk2 p2) p3) X.env) = eval (.Subscript e (.Constant (.str CL.great.name) kk2 p2) p3) X.env)
 (hfew : ((backTo cpos (starEach [.Constant (.int 0) k p4] X.env)).all (fun x => !x.1) && (backToKw cpos (keywordEach [] X.env)).all (fun x => x.1.isSome)
  && decide (([.Constant (.int 0) k p4] : List Expr).length + ([] : List Keyword).length + (if ([] : List Keyword).isEmpty then 0 else 1) < 30)) = true)
 (hline : (apos.endLine == cpos.line) = true) (hst : starEach [.Constant (.int 0) k p4] X.env = (false, eval (.Constant (.int 0) k p4) X.env) :: starEach [] X.env) (hplain : (backTo cpos (starEach [] X.env)).any (·.1) = false)
 (hs : swapsWith (.Call (.Attribute (.Subscript e (.Constant (.str CL.great.name) kk2 p2) p3) "pop" apos) [.Constant (.int 0) k p4] [] cpos) (some (.Subscript o (.Constant (.str CK.digits.name) kk p) pos')) pos.line X.env = pure false) :
 PSD X B W (.Assign [.Subscript o (.Constant (.str CK.digits.name) kk p) pos'] (.Call (.Attribute (.Subscript e (.Constant (.str CL.great.name) kk2 p2) p3) "pop" apos) [.Constant (.int 0) k p4] [] cpos) pos) (svPop0 i) := by
 refine PS.mono (ps_dput (by omega) ho pe_str (pe_bm PySem.F.plainAttrs_list PySem.F.slot_list_pop PySem.F.type_list_pop mt_popAt (pe_dget (by omega) ho2 pe_str hsg) (pa_cons pe_int pa_nil hst) hbase hfew hline hst hplain) hs) fun D σ H ⟨ρ, st, rel, r⟩ => ?_
 unfold svPop0 at r
 cases h0 : drawAt st i with
 | none => rw [h0] at r; exact r.elim
 | some kd =>
  obtain ⟨k, d⟩ := kd
  rw [h0] at r
  obtain ⟨c, e1, e2, e3, e4⟩ := drawAt_of rel h0
  have e4' := e4
  obtain ⟨g, l, f1, n1, n2, n3, f3, f4, f5⟩ := e4
  dsimp only at r
  cases hg : d.great with
  | nil => rw [hg] at r; exact r.elim
  | cons n rest =>
   rw [hg] at r
   have f4' : H g = some (.lst (V.int n :: rest.map V.int)) := by rw [f4, hg]; rfl
   refine ⟨_, e1, _, _, rfl, .inl ⟨_, .inr CL.great.name, .inl f3, rfl, rfl⟩, .inl ⟨rfl, _, .inl (.inl f4)⟩, g, _, 0, 0, .int n, rfl, rfl, f4', by decide, by decide, by simp [seqIndex?], rfl, ?_⟩
   have hm : upd H g (.lst (rest.map V.int)) c.main = some (.dK [(kDigits, .int d.digits), (kGreat, .ref g), (kLumps, .ref l), (kTurn, .int d.turn)]) := by rw [upd_ne n1]; exact f3
   refine ⟨_, e1, _, _, rfl, .inl ⟨_, .inr CK.digits.name, hm, rfl, by show 4 < sizeLine; decide, rfl⟩, ?_⟩
   refine r _ _ _ (.of (Step.draw rel e2 e3 ⟨g, l, f1, n1, n2, n3, ?_, ?_, ?_⟩ fun a z => ?_))
   · rw [upd_same]; rfl
   · rw [upd_ne (Ne.symm n1), upd_same]; rfl
   · rw [upd_ne (Ne.symm n2), upd_ne (Ne.symm n3)]; exact f5
   · rw [f1] at z
     have za : a ≠ c.main := fun e => z (.inl e)
     have zg : a ≠ g := fun e => z (.inr (by simp [e]))
     rw [upd_ne za]
     exact upd_ne zg
end
end D
namespace D
open PySem L2 PyProof.Rows
def evN (f : Ev) : Ev := fun st => (f st).bind fun a st1 => .ok (a.1, if flat a.1 = true then .new else a.2) st1
theorem pd_n {X : Cx} {B : BC} {W : WX} {e : Expr} {f : Ev} (h : PD X B W e f) : PD X B W e (evN f) := by
 refine PE.mono h fun σ H Q ⟨ρ, st, rel, r⟩ => ⟨ρ, st, rel, ?_⟩
 unfold evN at r
 cases e : f st with
 | stuck => rw [e] at r; exact r
 | exc x st1 => rw [e] at r; exact r
 | ok a st1 =>
  rw [e] at r
  intro ρ1 H1 s v rv fv
  have r1 := r ρ1 H1 s v
  dsimp only at r1
  by_cases hf : flat a.1 = true
  · rw [if_pos hf] at r1
    obtain rfl := rv.flat hf
    exact r1 (RepK.mkF hf) (fresh_flat hf)
  · rw [if_neg hf] at r1
    exact r1 rv fv
structure Fx (X : Cx) (C : RC) (W : WX) (k : Nat) : Prop where
 K : C.K = X.K
 calm : X.calm = true
 room : Room k X.A
 gu : X.A.guards = some []
 tk : Takes X W
theorem takesF {X : Cx} : Takes X WF := fun _ _ x => by
 obtain ⟨_, _, _, _, _, _, _, _, _, _, _, _, _, _, _, _, z⟩ := x
 exact z.elim
section
variable {X : Cx} {C : RC} {O : Addr → Prop} {H0 : Hp} {W : WX} {k : Nat} {a b c e : Expr} {es rest : List Expr} {fa fb fc fe : Ev} {f g : Sv} {ta tb t : Tv} {gk : Ak} {pos p p1 p2 p3 apos cpos tpos : Pos} {x : Str} {i j kk : Nat}
theorem Fx.hu (fx : Fx X C W k) : X.A.units + 65 < cLine := by
 have h := fx.room.un
 omega
theorem Fx.blk (fx : Fx X C W k) {s : Shared} {H : Hp} {scope : Scope} {ce : Env} {fp : List Addr} : Fx (X.blk s H scope ce fp) C WF k := ⟨fx.K, fx.calm, fx.room, fx.gu, takesF⟩
theorem zqd (i : Nat) (hN : X.N[i]? = some x := by rfl) (hv : Vis X.env.scope x := by first | exact Or.inl rfl | exact Or.inr (Or.inl rfl) | exact Or.inr (Or.inr rfl)) (hd : (x == ("__debug__" : Str)) = false := by decide)
 (hcd : (x == ("__classdict__" : Str)) = false := by decide) : PD X ⟨C, O, H0⟩ W (.Name x pos) (zqc i) := pd_var (pe_var hN hv hd hcd)
theorem zqe {n : Int} : PD X ⟨C, O, H0⟩ W (.Constant (.int n) kk pos) (evC (.int n)) := pd_c pe_int (fun _ _ _ _ => .int n) fun _ e => nomatch e
theorem w_str {s : Str} : PD X ⟨C, O, H0⟩ W (.Constant (.str s) kk pos) (evC (.str s)) := pd_c pe_str (fun _ _ _ _ => .str s) fun _ e => nomatch e
theorem w_bool {v : Bool} : PD X ⟨C, O, H0⟩ W (.Constant (.bool v) kk pos) (evC (.bl v)) := pd_c pe_bl (fun _ _ _ _ => .bl v) fun _ e => nomatch e
theorem w_none : PD X ⟨C, O, H0⟩ W (.Constant .none kk pos) (evC .non) := pd_c pe_non (fun _ _ _ _ => .non) fun _ e => nomatch e
theorem w_gint {n : Int} (hm : ∃ t, X.mg x = some (.int n t)) (hg : Gl X x := by rfl) (hd : (x == ("__debug__" : Str)) = false := by decide) : PD X ⟨C, O, H0⟩ W (.Name x pos) (evC (.int n)) := by
 obtain ⟨t, h⟩ := hm
 exact pd_c (pe_glob hg h (v := .int n) ⟨t, rfl⟩ hd) (fun _ _ _ _ => .int n) fun _ e => nomatch e
theorem w_ty (n : String) (hv : bootBuiltins x = some (.type n)) (hm : X.mg x = none) (hg : Gl X x := by rfl) (hn : x ≠ "__name__" := by decide) (hd : (x == ("__debug__" : Str)) = false := by decide) : PD X ⟨C, O, H0⟩ W (.Name x pos) (evC (.ty n)) :=
 pd_c (pe_bltn hg hm hv (v := .ty n) rfl hn hd) (fun _ _ _ _ => .ty n) fun _ e => nomatch e
theorem zqj (fx : Fx X C W k) (op : Operator) (ha : PD X ⟨C, O, H0⟩ W a fa) (hb : PD X ⟨C, O, H0⟩ W b fb) : PD X ⟨C, O, H0⟩ W (.BinOp a op b pos) (zqk (dBin op) fa fb) := by
 obtain ⟨r, h1, h2⟩ := op_bin (B := ⟨C, O, H0⟩) fx.K op
 exact pd_bin h1 h2 ha hb
theorem w_cmp (fx : Fx X C W k) (op : CmpOp) (ha : PD X ⟨C, O, H0⟩ W a fa) (hb : PD X ⟨C, O, H0⟩ W b fb) (hm : behindInMarks op b = false := by rfl) : PD X ⟨C, O, H0⟩ W (.Compare a [op] [b] pos) (zqk (dCmp op) fa fb) := by
 obtain ⟨r, h1, h2⟩ := op_cmp (B := ⟨C, O, H0⟩) fx.K fx.hu op
 exact pd_cmp h1 h2 ha hb hm
theorem w_chain (fx : Fx X C W k) (op op' : CmpOp) (ha : PD X ⟨C, O, H0⟩ W a fa) (hb : PD X ⟨C, O, H0⟩ W b fb) (hc : PD X ⟨C, O, H0⟩ W c fc) (hm : lastMarks [op, op'] [b, c] = false := by rfl) :
 PD X ⟨C, O, H0⟩ W (.Compare a [op, op'] [b, c] pos) (evChain (dCmp op) (dCmp op') fa fb fc) := by
 obtain ⟨r, h1, h2⟩ := op_cmp (B := ⟨C, O, H0⟩) fx.K fx.hu op
 obtain ⟨r', h1', h2'⟩ := op_cmp (B := ⟨C, O, H0⟩) fx.K fx.hu op'
 exact pd_chain h1 h1' h2 h2' ha hb hc hm
theorem w_and (fx : Fx X C W k) (ha : PD X ⟨C, O, H0⟩ W a fa) (hb : PD X ⟨C, O, H0⟩ W (.BoolOp .And (b :: rest) pos) fb) : PD X ⟨C, O, H0⟩ W (.BoolOp .And (a :: b :: rest) pos) (evAnd fa fb) := pd_and fx.K ha hb
theorem w_or (fx : Fx X C W k) (ha : PD X ⟨C, O, H0⟩ W a fa) (hb : PD X ⟨C, O, H0⟩ W (.BoolOp .Or (b :: rest) pos) fb) : PD X ⟨C, O, H0⟩ W (.BoolOp .Or (a :: b :: rest) pos) (evOr fa fb) := pd_or fx.K ha hb
theorem w_not (fx : Fx X C W k) (ha : PD X ⟨C, O, H0⟩ W a fa) : PD X ⟨C, O, H0⟩ W (.UnaryOp .Not a pos) (evNot fa) := pd_not fx.K ha
theorem w_ix (fx : Fx X C W k) (ha : PD X ⟨C, O, H0⟩ W a fa) (hb : PD X ⟨C, O, H0⟩ W b fb) (hs : PlainIx b := by intro _ _; rfl) : PD X ⟨C, O, H0⟩ W (.Subscript a b pos) (evN (zqk dIx fa fb)) := pd_n <| pd_ix fx.K (Nat.lt_of_le_of_lt (Nat.add_le_add_left (by decide : 1 ≤ 65) _) fx.hu) ha hb hs
theorem wt_cmp (fx : Fx X C W k) (op : CmpOp) (ha : PD X ⟨C, O, H0⟩ W a fa) (hb : PD X ⟨C, O, H0⟩ W b fb) (hm : behindInMarks op b = false := by rfl) : PTD X ⟨C, O, H0⟩ W (.Compare a [op] [b] pos) (tvB (zqk (dCmp op) fa fb)) := by
 obtain ⟨r, h1, h2⟩ := op_cmp (B := ⟨C, O, H0⟩) fx.K fx.hu op
 exact ptd_cmp h1 h2 ha hb hm
theorem wt_e (fx : Fx X C W k) (h : PD X ⟨C, O, H0⟩ W e fe) (he : ∀ whole, isTrue e X.env whole = (do let v ← whole; standAt e.pos; holding [v] (truthy v)) := by intro _; rfl) : PTD X ⟨C, O, H0⟩ W e (tvE fe) := ptd_truth fx.K h he
theorem w_ifExp (hc : PTD X ⟨C, O, H0⟩ W c t) (ha : PD X ⟨C, O, H0⟩ W a fa) (hb : PD X ⟨C, O, H0⟩ W b fb) : PD X ⟨C, O, H0⟩ W (.IfExp c a b pos) (evIf t fa fb) := pd_ifExp hc ha hb
theorem w_k (he : PD X ⟨C, O, H0⟩ W e fe) (hr : PKD X ⟨C, O, H0⟩ W es gk) (hs : starEach (e :: es) X.env = (false, eval e X.env) :: starEach es X.env := by rfl) : PKD X ⟨C, O, H0⟩ W (e :: es) (zqa fe gk) := pkd_cons he hr hs
theorem w_a0 : PAD X ⟨C, O, H0⟩ W [] zqz := pad_nil
theorem w_a {ga : Av'} (he : PD X ⟨C, O, H0⟩ W e fe) (hr : PAD X ⟨C, O, H0⟩ W es ga) (hs : starEach (e :: es) X.env = (false, eval e X.env) :: starEach es X.env := by rfl) : PAD X ⟨C, O, H0⟩ W (e :: es) (zqg fe ga) := pad_cons he hr hs
theorem akApp_nil (g : Ak) : akApp g [] = g := by
 funext st
 unfold akApp
 cases g st with
 | ok as st1 => simp [Out.bind]
 | exc x st1 => rfl
 | stuck => rfl
theorem zqv {F : Fn} {l : Nat} {fa : Addr} {fd : FuncData} {ps : List Str} (fx : Fx X C W k) (Fk : FnG X.prog X.w X.K X.mg X.base l fa fd ps (SpF C F)) (hm : X.mg x = some (.ref fa)) (hk : PySem.W.keepIn X.K (.ref fa) = true) (hb : Binds X.K fd ps [])
 (ha : PKD X ⟨C, O, H0⟩ W (e :: es) gk) (hl : l ≤ k := by decide) (hg : Gl X x := by rfl) (hdb : (x == ("__debug__" : Str)) = false := by decide) (he : starEach (e :: es) X.env = (false, eval e X.env) :: starEach es X.env := by rfl) (hpl : (backTo pos (starEach es X.env)).any (·.1) = false := by rfl) :
 PD X ⟨C, O, H0⟩ W (.Call (.Name x p) (e :: es) [] pos) (evN (zqr F gk)) := by
 have h := pd_fn (B := ⟨C, O, H0⟩) (W := W) (p := p) fx.K Fk (fx.room.mono hl) fx.gu hg hm hk hb (dvs := []) (dds := []) .nil (fun _ _ _ => .nil) fx.tk ha hdb he hpl
 rw [akApp_nil] at h
 exact pd_n h
theorem w_fn0 {F : Fn} {l : Nat} {fa : Addr} {fd : FuncData} {ps : List Str} (fx : Fx X C W k) (Fk : FnG X.prog X.w X.K X.mg X.base l fa fd ps (SpF C F)) (hm : X.mg x = some (.ref fa)) (hk : PySem.W.keepIn X.K (.ref fa) = true) (hb : Binds X.K fd ps [])
 (hl : l ≤ k := by decide) (hg : Gl X x := by rfl) (hdb : (x == ("__debug__" : Str)) = false := by decide) :
 PD X ⟨C, O, H0⟩ W (.Call (.Name x p) [] [] pos) (evN (zqr F zqh)) := by
 have h := pd_fn0 (B := ⟨C, O, H0⟩) (W := W) (p := p) (pos := pos) fx.K Fk (fx.room.mono hl) fx.gu hg hm hk hb (dvs := []) (dds := []) .nil (fun _ _ _ => .nil) fx.tk hdb
 rw [akApp_nil] at h
 exact pd_n h
theorem zqG {ct : CT} (fx : Fx X C W k) (kc : KitC C ct) (b : Blt) (hm : X.mg b.name = none) (ha : PKD X ⟨C, O, H0⟩ W (e :: es) gk) (hgl : Gl X b.name := by rfl)
 (he : starEach (e :: es) X.env = (false, eval e X.env) :: starEach es X.env := by rfl) (hpl : (backTo pos (starEach es X.env)).any (·.1) = false := by rfl) : PD X ⟨C, O, H0⟩ W (.Call (.Name b.name p) (e :: es) [] pos) (zqp (b.run ct) gk) :=
 pd_blt b fx.K kc fx.calm fx.gu fx.hu hgl hm ha he hpl
theorem w_join (fx : Fx X C W k) (ho : PD X ⟨C, O, H0⟩ W a fa) (ha : PKD X ⟨C, O, H0⟩ W [e] gk) (hbase : attributeBase a "join" X.env (eval a X.env) = eval a X.env := by rfl)
 (hfew : ((backTo cpos (starEach [e] X.env)).all (fun x => !x.1) && (backToKw cpos (keywordEach [] X.env)).all (fun x => x.1.isSome)
  && decide (([e] : List Expr).length + ([] : List Keyword).length + (if ([] : List Keyword).isEmpty then 0 else 1) < 30)) = true := by rfl)
 (hline : (apos.endLine == cpos.line) = true := by rfl) (hst : starEach [e] X.env = (false, eval e X.env) :: starEach [] X.env := by rfl) (hplain : (backTo cpos (starEach [] X.env)).any (·.1) = false := by rfl) :
 PD X ⟨C, O, H0⟩ W (.Call (.Attribute a "join" apos) [e] [] cpos) (evMeth isStrD mJoin fa gk) :=
 pd_meth (B := ⟨C, O, H0⟩) fx.K PySem.F.plainAttrs_str PySem.F.slot_str_join PySem.F.type_str_join mt_join ty_str (by rw [← fx.K]; exact s_join) ho ha hbase hfew hline hst hplain
variable {tg iter : Expr}
theorem wi_e (fx : Fx X C W k) (he : PD X ⟨C, O, H0⟩ W e fe) : PID X ⟨C, O, H0⟩ W tg e (ivE fe) := pid_any fx.K he
theorem wi_r1 (hm : X.mg "range" = none) (ha : PKD X ⟨C, O, H0⟩ W [a] gk) (hg : Gl X "range" := by rfl) (hs : starEach [a] X.env = [(false, eval a X.env)] := by rfl) : PID X ⟨C, O, H0⟩ W tg (.Call (.Name "range" p) [a] [] pos) (ivR1 gk) := pid_range1 hg hm ha hs
theorem zqn (i : Nat) (hN : X.N.Nodup) (hi : X.N[i]? = some x := by rfl) (hx : Loc X.env.scope x := by first | exact Or.inl rfl | exact Or.inr rfl) (hf : X.fn x = true ∨ X.env.scope.names.lookup x = some .local := by first | exact .inr rfl | exact .inl rfl) : PGD X C [i] (.Name x pos) (zqq i) := pgd_name hN hi hx hf
theorem wg_n0 : PGsD X C [] [] gvNil := pgsd_nil
theorem wg_n {vs ws : List Nat} {fg : Gv} {gg : List DV → DS → Option DS} (h1 : PGD X C vs e fg) (h2 : PGsD X C ws es gg) (hs : (assignEach (e :: es) X.env).map (·.2) = assign e X.env :: (assignEach es X.env).map (·.2) := by rfl) : PGsD X C (vs ++ ws) (e :: es) (zqD fg gg) := pgsd_cons h1 h2 hs
theorem wg_tup {vs : List Nat} {gg : List DV → DS → Option DS} {n : Nat} (fx : Fx X C W k) (h : PGsD X C vs es gg) (hn : (assignEach es X.env).length = n := by rfl) (hst : (assignEach es X.env).findIdx? (·.1) = none := by rfl) : PGD X C vs (.Tuple es kk pos) (gvTup n gg) := pgd_tup fx.K fx.calm h hn hst
theorem w_lc {elt : Expr} {ifs : List Expr} {scope : Scope} {vt : List Nat} {fi : Iv} {g : Gv} {tt : Tv} (own : List (Str × Nat)) (fx : Fx X C W k) (hN : X.N.Nodup) (hi : PID X ⟨C, O, H0⟩ W tg iter fi) (ok : BlkOk X.N X.env.scope scope own)
 (hg : ∀ (s : Shared) (H : Hp) (Ca : Addr) (cl : List (Str × Addr)) (fp : List Addr), Fx (X.blk s H scope (compEnvC scope cl Ca X.env) fp) C WF k → PGD (X.blk s H scope (compEnvC scope cl Ca X.env) fp) C vt tg g)
 (ht : ∀ (s : Shared) (H : Hp) (Ca : Addr) (cl : List (Str × Addr)) (fp : List Addr), Fx (X.blk s H scope (compEnvC scope cl Ca X.env) fp) C WF k → PTs (X.blk s H scope (compEnvC scope cl Ca X.env) fp) ifs (RTx C tt))
 (he : ∀ (s : Shared) (H : Hp) (Ca : Addr) (cl : List (Str × Addr)) (fp : List Addr), Fx (X.blk s H scope (compEnvC scope cl Ca X.env) fp) C WF k → ∀ O H0, PD (X.blk s H scope (compEnvC scope cl Ca X.env) fp) ⟨C, O, H0⟩ WF elt fe)
 (hv : ∀ i ∈ vt, i ∈ own.map (·.2) := by decide) (hs : ∀ x, foldedSetIterable iter X.env x = pure x := by intro _; rfl) :
 PD X ⟨C, O, H0⟩ W (.ListComp elt [⟨tg, iter, ifs, 0⟩] scope pos) (evLc (own.map (·.2)) fi g tt fe) :=
 pd_lc (B := ⟨C, O, H0⟩) fx.calm hN hi ok hv (fun s H Ca cl fp => hg s H Ca cl fp fx.blk) (fun s H Ca cl fp => ht s H Ca cl fp fx.blk) (fun s H Ca cl fp B' hB => by
  cases B' with
  | mk C' O' H' =>
   have hB : C' = C := hB
   subst hB
   exact he s H Ca cl fp fx.blk O' H') hs
theorem w_t0 : PTs X [] (RTx C tvYes) := ptsx_nil
theorem w_t1 (h : ∀ O H0, PTD X ⟨C, O, H0⟩ WF c t) : PTs X [c] (RTx C t) := ptsx_one fun B hB => by
 cases B with
 | mk C' O' H' =>
  have hB : C' = C := hB
  subst hB
  exact h O' H'
theorem zqt (i : Nat) (hN : X.N.Nodup) (he : PD X ⟨C, O, H0⟩ W e fe) (hi : X.N[i]? = some x := by rfl) (hx : Loc X.env.scope x := by first | exact Or.inl rfl | exact Or.inr rfl) (hs : swapsWith e (some (.Name x p)) pos.line X.env = pure false := by rfl) (hf : X.fn x = true ∨ X.env.scope.names.lookup x = some .local := by first | exact .inr rfl | exact .inl rfl) :
 PSD X ⟨C, O, H0⟩ W (.Assign [.Name x p] e pos) (zqs i fe) := psd_set hN hi hx he hs hf
theorem ws_setLc {elt : Expr} {ifs : List Expr} {scope : Scope} {vt : List Nat} {fi : Iv} {g : Gv} {tt : Tv} (i : Nat) (own : List (Str × Nat)) (fx : Fx X C W k) (hN : X.N.Nodup) (hi : PID X ⟨C, O, H0⟩ W tg iter fi) (ok : BlkOk X.N X.env.scope scope own)
 (hg : ∀ (s : Shared) (H : Hp) (Ca : Addr) (cl : List (Str × Addr)) (fp : List Addr), Fx (X.blk s H scope (compEnvC scope cl Ca X.env) fp) C WF k → PGD (X.blk s H scope (compEnvC scope cl Ca X.env) fp) C vt tg g)
 (ht : ∀ (s : Shared) (H : Hp) (Ca : Addr) (cl : List (Str × Addr)) (fp : List Addr), Fx (X.blk s H scope (compEnvC scope cl Ca X.env) fp) C WF k → PTs (X.blk s H scope (compEnvC scope cl Ca X.env) fp) ifs (RTx C tt))
 (he : ∀ (s : Shared) (H : Hp) (Ca : Addr) (cl : List (Str × Addr)) (fp : List Addr), Fx (X.blk s H scope (compEnvC scope cl Ca X.env) fp) C WF k → ∀ O H0, PD (X.blk s H scope (compEnvC scope cl Ca X.env) fp) ⟨C, O, H0⟩ WF elt fe)
 (hsw : swapsWith (.ListComp elt [⟨tg, iter, ifs, 0⟩] scope pos) (some (.Name x p)) tpos.line X.env = pure true)
 (hv : ∀ i ∈ vt, i ∈ own.map (·.2) := by decide) (hy : X.N[i]? = some x := by rfl) (hyl : X.env.scope.names.lookup x = some .local := by rfl) (hs : ∀ x, foldedSetIterable iter X.env x = pure x := by intro _; rfl) :
 PSD X ⟨C, O, H0⟩ W (.Assign [.Name x p] (.ListComp elt [⟨tg, iter, ifs, 0⟩] scope pos) tpos) (zqs i (evLc (own.map (·.2)) fi g tt fe)) :=
 psd_setLc (B := ⟨C, O, H0⟩) fx.calm hN hy hyl hsw hi ok hv (fun s H Ca cl fp => hg s H Ca cl fp fx.blk) (fun s H Ca cl fp => ht s H Ca cl fp fx.blk) (fun s H Ca cl fp B' hB => by
  cases B' with
  | mk C' O' H' =>
   have hB : C' = C := hB
   subst hB
   exact he s H Ca cl fp fx.blk O' H') hs
theorem zqu (he : PD X ⟨C, O, H0⟩ W e fe) : PSD X ⟨C, O, H0⟩ W (.Return (some e) pos) (zqw fe) := psd_ret he
theorem ws_if {l r : List Stmt} (hc : PTD X ⟨C, O, H0⟩ W c t) (ha : PSsD X ⟨C, O, H0⟩ W l f) (hb : PSsD X ⟨C, O, H0⟩ W r g) : PSD X ⟨C, O, H0⟩ W (.If c l r pos) (svIf t f g) := psd_if hc ha hb
theorem ws_for {vs : List Nat} {body : List Stmt} {fi : Iv} {gv : Gv} (fx : Fx X C W k) (hp : PassesOwn (model X.prog X.w) X.A X.env X.xe) (hi : PID X ⟨C, O, H0⟩ W tg iter fi) (hg : PGD X C vs tg gv) (hb : PSsD X ⟨C, O, H0⟩ W body f)
 (hs : ∀ x, foldedSetIterable iter X.env x = pure x := by intro _; rfl) : PSD X ⟨C, O, H0⟩ W (.For tg iter body [] pos) (svFor fi gv f) := psd_for hp fx.calm hi hg hb hs
theorem ws_while {body : List Stmt} (n : Nat) (hp : PassesOwn (model X.prog X.w) X.A X.env X.xe) (hc : PTD X ⟨C, O, H0⟩ W c t) (hb : PSsD X ⟨C, O, H0⟩ W body f) : PSD X ⟨C, O, H0⟩ W (.While c body [] pos) (svWhile t f n) := psd_while hp hc hb n
end
theorem zqE {P : Program} {w : World} {C : RC} {mg : Str → Option Value} {base : Heap} {N : List Str} {qual : Str} {scope : Scope} {f : Addr} {cdv : Value} {A : Around} {outer : List Env} {s : Shared} {H : Hp} {E : XK} {k : Nat}
 (hr : Room k (A.deeper (envOfC qual scope s.heap.objs.size f cdv))) (hg : (cxOf (L2.CX P w) P w C.K mg base N qual scope f cdv A outer s H E).A.guards = some []) :
 Fx (cxOf (L2.CX P w) P w C.K mg base N qual scope f cdv A outer s H E) C (fun cls d _ H' => E cls d H') k := ⟨rfl, rfl, hr, hg, takes_of rfl rfl rfl rfl⟩
theorem pas_of {P : Program} {w : World} {C : RC} {mg : Str → Option Value} {base : Heap} {N : List Str} {qual : Str} {scope : Scope} {f : Addr} {cdv : Value} {A : Around} {outer : List Env} {s : Shared} {H : Hp} {E : XK} :
 PassesOwn (model (cxOf (L2.CX P w) P w C.K mg base N qual scope f cdv A outer s H E).prog (cxOf (L2.CX P w) P w C.K mg base N qual scope f cdv A outer s H E).w) (cxOf (L2.CX P w) P w C.K mg base N qual scope f cdv A outer s H E).A (cxOf (L2.CX P w) P w C.K mg base N qual scope f cdv A outer s H E).env (cxOf (L2.CX P w) P w C.K mg base N qual scope f cdv A outer s H E).xe :=
 passes_of (X := cxOf (L2.CX P w) P w C.K mg base N qual scope f cdv A outer s H E) rfl
def blkB (N : List Str) (scn : List (Str × NameKind)) (kind : ScopeKind) (names : List (Str × NameKind)) (own : List (Str × Nat)) : Bool :=
 decide (kind = .function) && names.all (fun y => decide (names.lookup y.1 = some y.2)) && own.all (fun p => decide (N[p.2]? = some p.1)) &&
 names.all (fun y => !decide (y.2 = .free) || decide (scn.lookup y.1 = some .cell) || decide (scn.lookup y.1 = some .free)) &&
 names.all (fun y => !(decide (y.2 = .local) || decide (y.2 = .cell)) || decide (y.1 ∈ own.map (·.1)) || decide (y.1 ∉ N))
theorem blk_of {N : List Str} {sc scope : Scope} {own : List (Str × Nat)} (h : blkB N sc.names scope.kind scope.names own = true) : BlkOk N sc scope own := by
 unfold blkB at h
 simp only [Bool.and_eq_true, List.all_eq_true, decide_eq_true_eq, Bool.or_eq_true, Bool.not_eq_true', decide_eq_false_iff_not] at h
 obtain ⟨⟨⟨⟨h1, h2⟩, h3⟩, h4⟩, h5⟩ := h
 refine ⟨h1, h2, h3, fun y hy e => ?_, fun y hy e => ?_⟩
 · rcases h4 y hy with (z | z) | z
   · exact absurd e z
   · exact .inl z
   · exact .inr z
 · rcases h5 y hy with (z | z) | z
   · have z' : ¬ (y.2 = .local ∨ y.2 = .cell) := fun q => by
      rcases q with q | q <;> simp [q] at z
     exact absurd e z'
   · exact .inl z
   · exact .inr z
end D
namespace D
open PySem L2 PyProof.Rows
abbrev absI (i : Int) : Int := if i < 0 then -i else i
def greatL (ns : List Int) : List Int := (ns.filter fun z => decide ((10 : Int) ^ 18 ≤ absI z)).map fun z => absI z / 10 ^ 18
def lumpL (ns : List Int) : List Int := ns.map fun z => absI z % 10 ^ 18
def begunD (ns : List Int) : DrawSt := ⟨0, greatL ns, lumpL ns, 0⟩
def F_0z : Fn := fun ds st => match ds with
 | [.scr ns] => if st.cs.all isDraw = true ∧ ns.length ≤ sizeLine then .ok (.cel st.cs.length, .fro) ⟨[], st.cs ++ [.draw (begunD ns)]⟩ else .stuck
 | _ => .stuck
section
variable {B : BC} {W : WX} {σ : L2.St} {ρ ρ1 : List CellA} {st st1 : DS} {H H1 H' : Hp} {C : RC} {O : Addr → Prop} {cs cs' : List CellC} {c : CellA} {d : DrawSt}
theorem Step.newCell {H0 : Hp} (s : Step ⟨C, O, H0⟩ [] ρ ⟨[], cs⟩ H ρ1 ⟨[], cs'⟩ H') (hd : DrawAt H' c d) (hdr : cs'.all isDraw = true) (hf : ∀ a, (a = c.main ∨ a ∈ c.more) → H a = none ∧ ¬ CM ρ1 a) :
 Step ⟨C, O, H0⟩ [] ρ ⟨[], cs⟩ H (ρ1 ++ [c]) ⟨[], cs' ++ [.draw d]⟩ H' := by
 have r := s.rel
 have cmS : ∀ a, CM (ρ1 ++ [c]) a → CM ρ1 a ∨ (a = c.main ∨ a ∈ c.more) := fun a ⟨x, hx, z⟩ => by
  rcases List.mem_append.mp hx with hx | hx
  · exact .inl ⟨x, hx, z⟩
  · have : x = c := by simpa using hx
    subst this
    exact .inr z
 have hl := r.cel.len
 refine ⟨s.pre.trans (List.prefix_append _ _), ⟨rfl, fun i d h => by simp at h, fun i d h => by simp at h, fun i j p h => by obtain ⟨d, h, _⟩ := h; simp at h, r.dom, r.odom, ⟨by simpa using hl, fun k x y h1 h2 => ?_, fun i j x y h1 h2 hij a z1 z2 => ?_⟩, fun a z => ?_, r.tabs⟩, s.fr, fun i p h => by obtain ⟨d, h, _⟩ := h; simp at h, fun i d b h => by simp at h, fun a z => ?_, s.dm⟩
 · have h2 : (cs' ++ [CellC.draw d])[k]? = some y := h2
   by_cases hk : k < ρ1.length
   · rw [List.getElem?_append_left hk] at h1
     rw [List.getElem?_append_left (by rw [← hl]; exact hk)] at h2
     exact (cells_draw (A' := Av (ρ1 ++ [c]) O ⟨[], cs' ++ [.draw d]⟩ []) hdr r.cel).ok k x y h1 h2 |> fun q => by
      have hx : isDraw y = true := List.all_eq_true.mp hdr y (List.mem_of_getElem? h2)
      cases y with
      | draw d => exact q
      | dead => trivial
      | obj d => cases hx
   · have hk' : k = ρ1.length := by
      have := (List.getElem?_eq_some_iff.mp h1).1
      simp at this
      omega
     subst hk'
     rw [List.getElem?_append_right (Nat.le_refl _)] at h1
     have hl' : ρ1.length = cs'.length := hl
     rw [hl', List.getElem?_append_right (Nat.le_refl _)] at h2
     simp at h1 h2
     subst h1 h2
     exact hd
 · by_cases hi : i < ρ1.length <;> by_cases hj : j < ρ1.length
   · rw [List.getElem?_append_left hi] at h1
     rw [List.getElem?_append_left hj] at h2
     exact r.cel.dis i j x y h1 h2 hij a z1 z2
   · rw [List.getElem?_append_left hi] at h1
     rw [List.getElem?_append_right (by omega)] at h2
     have hj' : j - ρ1.length = 0 := by
      have := (List.getElem?_eq_some_iff.mp h2).1
      simp at this; omega
     rw [hj'] at h2
     simp at h2
     subst h2
     exact (hf a z2).2 ⟨x, List.mem_of_getElem? h1, z1⟩
   · rw [List.getElem?_append_left hj] at h2
     rw [List.getElem?_append_right (by omega)] at h1
     have hi' : i - ρ1.length = 0 := by
      have := (List.getElem?_eq_some_iff.mp h1).1
      simp at this; omega
     rw [hi'] at h1
     simp at h1
     subst h1
     exact (hf a z1).2 ⟨y, List.mem_of_getElem? h2, z2⟩
   · have e1 := (List.getElem?_eq_some_iff.mp h1).1
     have e2 := (List.getElem?_eq_some_iff.mp h2).1
     simp at e1 e2
     omega
 · rcases cmS a z with z | z
   · exact r.cdom a z
   · obtain ⟨g, l, e1, _, _, _, e3, e4, e5⟩ := hd
     rcases z with rfl | z
     · rw [e3]; exact fun z => nomatch z
     · rw [e1] at z
       rcases List.mem_cons.mp z with rfl | z
       · rw [e4]; exact fun z => nomatch z
       · rcases List.mem_cons.mp z with rfl | z
         · rw [e5]; exact fun z => nomatch z
         · cases z
 · rcases cmS a z with z | z
   · exact s.cm a z
   · exact .inr (hf a z).1
theorem ints_rep {A : Addr → Prop} : ∀ {vs : List V} {ns : List Int}, RepL C ρ A H vs (ns.map DV.int) → vs = ns.map V.int
 | _, [], .nil => rfl
 | _, n :: ns, .cons r t => by
  cases r
  rw [ints_rep t]; rfl
end
section
variable {P : Program} {w : World} {mg : Str → Option Value} {base : Heap} {C : RC}
def evAbs (i : Nat) : Ev := zqp (f1 absD) (zqa (zqc i) zqh)
def evGreat : Ev := evLc [2] (ivE (zqc 0)) (zqq 2) (tvB (zqk (dCmp .GtE) (evAbs 2) (zqk (dBin .Pow) (evC (.int 10)) (evC (.int 18))))) (zqk (dBin .FloorDiv) (evAbs 2) (zqk (dBin .Pow) (evC (.int 10)) (evC (.int 18))))
def evLumps : Ev := evLc [2] (ivE (zqc 0)) (zqq 2) tvYes (zqk (dBin .Mod) (evAbs 2) (zqk (dBin .Pow) (evC (.int 10)) (evC (.int 18))))
theorem great_go {ns0 : List Int} {g : Slot} {cs : List CellC} : ∀ (ns : List Int) (acc : List DV),
 lcGo [2] (zqq 2) (tvB (zqk (dCmp .GtE) (evAbs 2) (zqk (dBin .Pow) (evC (.int 10)) (evC (.int 18))))) (zqk (dBin .FloorDiv) (evAbs 2) (zqk (dBin .Pow) (evC (.int 10)) (evC (.int 18)))) (ns.map .int) acc ⟨[some (.scr ns0, false), g, none], cs⟩ =
  some (acc ++ (greatL ns).map .int, ⟨[some (.scr ns0, false), g, none], cs⟩)
 | [], acc => by simp [lcGo, greatL]
 | n :: ns, acc => by
  have hp : powOk 10 18 = true := by decide
  by_cases h : (1000000000000000000 : Int) ≤ absI n
  · have ih := great_go (ns0 := ns0) (g := g) (cs := cs) ns (acc ++ [.int (absI n / 10 ^ 18)])
    have e : greatL (n :: ns) = absI n / 10 ^ 18 :: greatL ns := by simp [greatL, h]
    have e2 : acc ++ (absI n / 10 ^ 18 :: greatL ns).map DV.int = acc ++ [.int (absI n / 10 ^ 18)] ++ (greatL ns).map DV.int := by simp
    rw [e, e2, ← ih]
    simp [lcGo, zqq, DS.wipe, wipeSl, tvB, zqk, evAbs, zqp, zqa, zqh, zqc, f1, absD, dCmp, dGe, evC, Out.bind, dBin, dPow, dDiv, hp, DS.back, backSl, DS.eat, h]
  · have ih := great_go (ns0 := ns0) (g := g) (cs := cs) ns acc
    have e : greatL (n :: ns) = greatL ns := by simp [greatL, h]
    rw [e, ← ih]
    simp [lcGo, zqq, DS.wipe, wipeSl, tvB, zqk, evAbs, zqp, zqa, zqh, zqc, f1, absD, dCmp, dGe, evC, Out.bind, dBin, dPow, dDiv, hp, DS.back, backSl, DS.eat, h]
theorem lump_go {ns0 : List Int} {g : Slot} {cs : List CellC} : ∀ (ns : List Int) (acc : List DV),
 lcGo [2] (zqq 2) tvYes (zqk (dBin .Mod) (evAbs 2) (zqk (dBin .Pow) (evC (.int 10)) (evC (.int 18)))) (ns.map .int) acc ⟨[some (.scr ns0, false), g, none], cs⟩ =
  some (acc ++ (lumpL ns).map .int, ⟨[some (.scr ns0, false), g, none], cs⟩)
 | [], acc => by simp [lcGo, lumpL]
 | n :: ns, acc => by
  have hp : powOk 10 18 = true := by decide
  have ih := lump_go (ns0 := ns0) (g := g) (cs := cs) ns (acc ++ [.int (absI n % 10 ^ 18)])
  have e : lumpL (n :: ns) = absI n % 10 ^ 18 :: lumpL ns := by simp [lumpL]
  have e2 : acc ++ (absI n % 10 ^ 18 :: lumpL ns).map DV.int = acc ++ [.int (absI n % 10 ^ 18)] ++ (lumpL ns).map DV.int := by simp
  rw [e, e2, ← ih]
  simp [lcGo, zqq, DS.wipe, wipeSl, tvYes, zqk, evAbs, zqp, zqa, zqh, zqc, f1, absD, evC, Out.bind, dBin, dPow, dMod, hp, DS.back, backSl, DS.eat]
theorem great_run {ns : List Int} {cs : List CellC} (hl : ns.length ≤ sizeLine) (hd : cs.all isDraw = true) : zqs 1 evGreat ⟨[some (.scr ns, false), none, none], cs⟩ = .ok .nx ⟨[some (.scr ns, false), some (.lst ((greatL ns).map .int), true), none], cs⟩ := by
 have h := great_go (ns0 := ns) (g := none) (cs := cs) ns []
 have e : evGreat ⟨[some (.scr ns, false), none, none], cs⟩ = .ok (.lst ((greatL ns).map .int), .new) ⟨[some (.scr ns, false), none, none], cs⟩ := by
  unfold evGreat evLc
  simp [ivE, zqc, Out.bind, itemsD, DS.eat, hl, DS.dropAll, DS.drop, dropSl]
  rw [h]
  simp
 unfold zqs
 rw [e]
 simp [Out.bind, DS.put, isCont, hd]
theorem lump_run {ns : List Int} {g : DV} {cs : List CellC} (hl : ns.length ≤ sizeLine) : evLumps ⟨[some (.scr ns, false), some (g, true), none], cs⟩ = .ok (.lst ((lumpL ns).map .int), .new) ⟨[some (.scr ns, false), some (g, true), none], cs⟩ := by
 have h := lump_go (ns0 := ns) (g := some (g, true)) (cs := cs) ns []
 unfold evLumps evLc
 simp [ivE, zqc, Out.bind, itemsD, DS.eat, hl, DS.dropAll, DS.drop, dropSl]
 rw [h]
 simp
structure BegunTxt (X : Cx) (C : RC) (W : WX) (body : List Stmt) : Prop where
 ex : ∃ (s0 : Stmt) (k1 k2 k3 k4 v1 v2 v3 v4 : Expr) (p p' : Pos), body = [s0, .Return (some (.Dict [some k1, some k2, some k3, some k4] [v1, v2, v3, v4] p)) p'] ∧
  (∀ O H0, PSD X ⟨C, O, H0⟩ W s0 (zqs 1 evGreat)) ∧ PE X k1 (tC (.str "digits")) ∧ PE X k2 (tC (.str "great")) ∧ PE X k3 (tC (.str "lumps")) ∧ PE X k4 (tC (.str "turn")) ∧
  PE X v1 (tC (.int 0)) ∧ PE X v2 (tVar 1) ∧ (∀ O H0, PD X ⟨C, O, H0⟩ W v3 evLumps) ∧ PE X v4 (tC (.int 0))
theorem Fun.okBegun {x qual : Str} {st : Stmt} {f : Addr} {fd : FuncData} {k : Nat} {n0 n1 n2 : Str} (F : Fun C.K x qual st f fd) (S : FnScope [n0, n1, n2] [n0] (defScope st))
 (hb : ∀ (cdv : Value) (A : Around) (outer : List Env) (s : Shared) (H : Hp) (E : XK), Room k (A.deeper (envOfC qual (defScope st) s.heap.objs.size f cdv)) → (cxOf (L2.CX P w) P w C.K mg base [n0, n1, n2] qual (defScope st) f cdv A outer s H E).A.guards = some [] →
  BegunTxt (cxOf (L2.CX P w) P w C.K mg base [n0, n1, n2] qual (defScope st) f cdv A outer s H E) C (fun cls d _ H' => E cls d H') (defBody st)) :
 FnG P w C.K mg base (k + 1) f fd [n0] (SpF C F_0z) := by
 obtain ⟨oc, od, kV, doc, pm, an, cdv, ct, osl, rfl, lk, hcd⟩ := F.ex
 refine fnG_of lk hcd S (fun vs H Q E h => ?_) fun A outer s H vs Q E hr hg h => ?_
 · obtain ⟨ρ, cs, ds, O, r, rl, res⟩ := h
   rw [rl.length]
   unfold F_0z at res
   split at res
   · rfl
   · exact res.elim
 obtain ⟨ρ, cs, ds, O, r, rl, res⟩ := h
 unfold F_0z at res
 split at res
 case h_2 => exact res.elim
 rename_i ns
 split at res
 case isFalse => exact res.elim
 rename_i hcond
 obtain ⟨hdr, hlen⟩ := hcond
 obtain ⟨s0, k1, k2, k3, k4, v1, v2, v3, v4, p, p', hbody, h0, hk1, hk2, hk3, hk4, hv1, hv2, hv3, hv4⟩ := (hb cdv A outer s H E hr (by first | exact (deeper_guards _ _).trans hg | exact hg)).ex
 rw [hbody]
 refine ⟨_, pss_cons (h0 O H) (pss_one (ps_ret (pe_disp (pps_cons hk1 hv1 (pps_cons hk2 hv2 (pps_cons hk3 (pdx (C := C) (W := fun cls d _ H' => E cls d H') (f := evLumps) fun B hB => by
  cases B with
  | mk C' O' H' =>
   have hB : C' = C := hB
   subst hB
   exact hv3 O' H') (pps_cons hk4 hv4 pps_nil)))) rfl rfl (by simp) (by simp)))), ?_⟩
 have r0 := Rel.start (N := [n0, n1, n2]) r rl
 have noOwn : ∀ i a, ¬ ownAt ⟨zql 3 [.scr ns], cs⟩ (L2.start [n0, n1, n2] vs) i a := fun i a ⟨d, h, _⟩ => zqx h
 have est : zql 3 [DV.scr ns] = [some (.scr ns, false), none, none] := rfl
 refine ⟨ρ, ⟨zql 3 [.scr ns], cs⟩, r0, ?_⟩
 rw [est, great_run hlen hdr]
 intro σ1 ρ1 H1 s1
 intro q hq
 -- the dict stands empty
 have r1 := s1.rel
 have npO : ¬ O q := fun z => r1.odom q z hq
 have npC : ¬ CM ρ1 q := fun z => r1.cdom q z hq
 have rh := Rel.holdA (o := .dK []) r1 hq
 have sa := Step.alloc (o := .dK []) r1 hq
 obtain ⟨g, eg, cg, ng1, ng2, ng3⟩ := rh.own 1 _ rfl
 refine ⟨_, eg, ?_⟩
 refine ⟨⟨C, fun a => O a ∨ a = q, H⟩, rfl, ρ1, _, rh, ?_⟩
 have hl := lump_run (ns := ns) (g := .lst ((greatL ns).map .int)) (cs := cs) hlen
 rw [hl]
 intro ρ2 H2 s2 v rv fv
 obtain ⟨l, rfl⟩ := Rep.ref_of_cont (by rfl) rv.1
 have hnl : upd H1 q (.dK []) l = none := fv l rfl
 have hlq : l ≠ q := fun e => by subst e; rw [upd_same] at hnl; cases hnl
 have cl := rv.2 l rfl rfl
 -- the pair "turn", then the dict
 have nq2 : ¬ CM ρ2 q := fun z => (s2.cm q z).elim npC fun e => by rw [upd_same] at e; cases e
 have eq2 : H2 q = some (.dK []) := s2.fr q _ upd_same npC trivial
 refine ⟨eq2, [(kDigits, .int 0), (kGreat, .ref g), (kLumps, .ref l), (kTurn, .int 0)], rfl, by show 4 ≤ 15; decide, ?_⟩
 have em : mergeK [] [(kDigits, V.int 0), (kGreat, V.ref g), (kLumps, V.ref l), (kTurn, V.int 0)] = [(kDigits, .int 0), (kGreat, .ref g), (kLumps, .ref l), (kTurn, .int 0)] := rfl
 rw [em]
 have hB : (⟨C, fun a => O a ∨ a = q, H⟩ : BC) = (⟨C, O, H⟩ : BC).hold q := rfl
 have s2' : Step ((⟨C, O, H⟩ : BC).hold q) σ1 ρ1 _ (upd H1 q (.dK [])) ρ2 _ H2 := s2
 have rw7 := Rel.writeHeld (o := .dK [(kDigits, .int 0), (kGreat, .ref g), (kLumps, .ref l), (kTurn, .int 0)]) s2'.rel nq2 (fun u e => by rw [eq2] at e; cases e; trivial)
 generalize hH3 : upd H2 q (.dK [(kDigits, .int 0), (kGreat, .ref g), (kLumps, .ref l), (kTurn, .int 0)]) = H3 at rw7 ⊢
 -- what is where
 have hgq : g ≠ q := fun e => ng2 (.inr e)
 obtain ⟨xs, eg2, rg2⟩ := (cg : ∃ xs, upd H1 q (.dK []) g = some (.lst xs) ∧ _)
 have hxs := ints_rep rg2
 subst hxs
 have eg3 : H2 g = some (.lst ((greatL ns).map V.int)) := s2.fr g _ eg2 ng1 trivial
 obtain ⟨ys, el2, rl2⟩ := (cl : ∃ xs, H2 l = some (.lst xs) ∧ _)
 have hys := ints_rep rl2
 subst hys
 have hgl : g ≠ l := fun e => by subst e; rw [hnl] at eg2; cases eg2
 have ng3' : ¬ CM ρ2 g := fun z => (s2.cm g z).elim ng1 fun e => by rw [eg2] at e; cases e
 have nl2 : ¬ CM ρ2 l := nomatchCM (B := ⟨C, fun a => O a ∨ a = q, H⟩) rv.1 rfl
 have draw : DrawAt H3 ⟨q, [g, l]⟩ (begunD ns) := by
  refine ⟨g, l, rfl, Ne.symm hgq, Ne.symm hlq, hgl, ?_, ?_, ?_⟩
  · rw [← hH3, upd_same]; rfl
  · rw [← hH3, upd_ne hgq]; exact eg3
  · rw [← hH3, upd_ne hlq]; exact el2
 -- fresh at the entry
 have fq : H q = none := none_of_dm s1.dm hq
 have fl : H l = none := none_of_dm s1.dm (none_of_dm sa.dm hnl)
 have sF : SStep ⟨C, O, H⟩ (L2.start [n0, n1, n2] vs) ρ ⟨zql 3 [.scr ns], cs⟩ H σ1 ρ2 ⟨[some (.scr ns, false), some (.lst ((greatL ns).map .int), true), none], cs⟩ H3 := by
  have sx : SStep ⟨C, O, H⟩ σ1 ρ1 ⟨[some (.scr ns, false), some (.lst ((greatL ns).map .int), true), none], cs⟩ H1 σ1 ρ2 ⟨[some (.scr ns, false), some (.lst ((greatL ns).map .int), true), none], cs⟩ H2 := SStep.of (Step.unhold sa s2')
  have sy := s1.trans sx
  refine ⟨sy.pre, rw7.unhold, fun a o e n no => ?_, sy.av, sy.cm, fun a z => ?_⟩
  · rw [← hH3, upd_ne (fun z => by subst z; rw [fq] at e; cases e)]
    exact sy.fr a o e n no
  · by_cases h : a = q
    · subst h; exact absurd fq z
    · rw [← hH3, upd_ne h]; exact sy.dm a z
 have sd := Step.done noOwn sF
 have sN := Step.newCell (c := ⟨q, [g, l]⟩) sd draw hdr fun a z => by
  rcases z with rfl | z
  · exact ⟨fq, nq2⟩
  · rcases List.mem_cons.mp z with rfl | z
    · exact ⟨ng3, ng3'⟩
    · rcases List.mem_cons.mp z with rfl | z
      · exact ⟨fl, nl2⟩
      · cases z
 have hlen2 : ρ2.length = cs.length := sd.rel.cel.len
 refine (res _ H3 sN).2 (.ref q) (.cel (c := ⟨q, [g, l]⟩) ?_) (fun e => nomatch e) trivial
 show (ρ2 ++ [_])[cs.length]? = _
 rw [← hlen2, List.getElem?_append_right (Nat.le_refl _)]
 simp
end
end D
namespace D
open PySem L2 PyProof.Rows
def svNextW : Sv := svWhile (tvAnd (tvB (zqk (dCmp .Eq) (evCI 0 .digits) (evC (.int 0)))) (tvNE 0 .great)) (svPop0 0) 100
def svNextI : Sv := svIf (tvB (zqk (dCmp .Gt) (evCI 0 .digits) (evC (.int 0)))) (zqm (zqs 2 (zqk (dBin .Mod) (evCI 0 .digits) (zqc 1))) (zqm (svCSet 0 .digits (zqk (dBin .FloorDiv) (evCI 0 .digits) (zqc 1))) (zqw (zqc 2)))) svNx
def svTail : Sv := zqm (zqs 5 (zqk (dBin .Mod) (zqk (dBin .Pow) (zqk (dBin .Add) (zqk (dBin .Mod) (zqc 4) (evC (.int 2147483629))) (zqk (dBin .Mult) (evC (.int 40009)) (zqc 3))) (evC (.int 3))) (evC (.int 2147483647))))
 (zqw (zqk (dBin .Mod) (zqk (dBin .FloorDiv) (zqk (dBin .Mod) (zqk (dBin .Pow) (zqk (dBin .Add) (zqc 5) (zqk (dBin .Mult) (evC (.int 104729)) (zqc 3))) (evC (.int 5))) (evC (.int 2147483629))) (evC (.int 11))) (zqc 1)))
def svNextT : Sv := zqm (svCAug 0 .turn (evC (.int 1))) (zqm (zqs 3 (evCI 0 .turn)) (zqm (zqs 4 (evC (.int 0))) (zqm (svIf (tvNE 0 .lumps) (zqs 4 (evCIx 0 .lumps (zqk (dBin .Mod) (zqc 3) (evCLen 0 .lumps)))) svNx)
 svTail)))
def svNext : Sv := zqm svNextW (zqm svNextI svNextT)
def F_15 : Fn := fnSv 6 2 svNext
structure zqo (d : DrawSt) (n : Nat) : Prop where
 dg : 0 ≤ d.digits
 gr : ∀ z ∈ d.great, 0 ≤ z
 gl : d.great.length < 100
 lu : ∀ z ∈ d.lumps, 0 ≤ z ∧ z < 10 ^ 18
 tn : 0 ≤ d.turn
 tb : d.turn + n ≤ 2 ^ 40
theorem zqo.mono {d : DrawSt} {n m : Nat} (h : zqo d n) (hm : m ≤ n) : zqo d m := ⟨h.dg, h.gr, h.gl, h.lu, h.tn, by have := h.tb; omega⟩
theorem begun_ok {ns : List Int} (h : ns.length ≤ 63) : zqo (begunD ns) (2 ^ 40) := by
 refine ⟨Int.le_refl _, fun z hz => ?_, ?_, fun z hz => ?_, Int.le_refl _, by simp [begunD]⟩
 · simp only [begunD, greatL, List.mem_map, List.mem_filter] at hz
   obtain ⟨y, ⟨_, hy⟩, rfl⟩ := hz
   have := of_decide_eq_true hy
   exact Int.ediv_nonneg (Int.le_trans (by decide) this) (by decide)
 · simp only [begunD, greatL, List.length_map]
   exact Nat.lt_of_le_of_lt (List.length_filter_le _ _) (by omega)
 · simp only [begunD, lumpL, List.mem_map] at hz
   obtain ⟨y, _, rfl⟩ := hz
   exact ⟨Int.emod_nonneg _ (by decide), Int.emod_lt_of_pos _ (by decide)⟩
section
variable {d : DrawSt} {k n : Nat} {cs : List CellC} {many : Int}
theorem drawAt_mk {s1 s2 s3 s4 s5 : Slot} (hk : cs[k]? = some (.draw d)) : drawAt ⟨[some (.cel k, false), s1, s2, s3, s4, s5], cs⟩ 0 = some (k, d) := by
 simp [drawAt, hk]
theorem set_set (cs : List CellC) (k : Nat) (a b : CellC) : (cs.set k a).set k b = cs.set k b := by simp
theorem set_same {cs : List CellC} {k : Nat} {a : CellC} (h : cs[k]? = some a) : cs.set k a = cs := by
 refine List.ext_getElem? fun i => ?_
 by_cases hi : k = i
 · subst hi
   rw [List.getElem?_set_self (List.getElem?_eq_some_iff.mp h).1, h]
 · rw [List.getElem?_set_ne hi]
theorem get_set {cs : List CellC} {k : Nat} {a b : CellC} (h : cs[k]? = some a) : (cs.set k b)[k]? = some b := List.getElem?_set_self (List.getElem?_eq_some_iff.mp h).1
theorem nextW_run : ∀ (fuel : Nat) (d : DrawSt) (cs : List CellC) (sl : List Slot), cs[k]? = some (.draw d) → sl[0]? = some (some (.cel k, false)) → d.great.length < fuel → 0 ≤ d.digits → (∀ z ∈ d.great, 0 ≤ z) →
 ∃ d', svWhile (tvAnd (tvB (zqk (dCmp .Eq) (evCI 0 .digits) (evC (.int 0)))) (tvNE 0 .great)) (svPop0 0) fuel ⟨sl, cs⟩ = .ok .nx ⟨sl, cs.set k (.draw d')⟩ ∧ 0 ≤ d'.digits ∧ (∀ z ∈ d'.great, 0 ≤ z) ∧ d'.great.length ≤ d.great.length ∧ d'.lumps = d.lumps ∧ d'.turn = d.turn
 | 0, d, cs, sl, _, _, h, _, _ => absurd h (Nat.not_lt_zero _)
 | fuel + 1, d, cs, sl, hk, hs, h, h0, hg => by
  have hda : drawAt ⟨sl, cs⟩ 0 = some (k, d) := by simp [drawAt, hs, hk]
  by_cases hz : d.digits = 0
  · cases hgr : d.great with
    | nil =>
     refine ⟨d, ?_, h0, hg, by rw [hgr]; exact Nat.le_refl _, rfl, rfl⟩
     simp [svWhile, tvAnd, tvB, zqk, evCI, hda, dCmp, dEq, eqD, evC, Out.bind, tvNE, CK.get, CL.get, hz, hgr, set_same hk]
    | cons g r =>
     have hk' : (cs.set k (.draw { d with great := r, digits := g }))[k]? = some (.draw { d with great := r, digits := g }) := get_set hk
     obtain ⟨d', e, h1, h2, h3, h4, h5⟩ := nextW_run fuel { d with great := r, digits := g } _ sl hk' hs (by rw [hgr] at h; simpa using h) (hg g (by rw [hgr]; simp)) (fun z hz => hg z (by rw [hgr]; simp [hz]))
     refine ⟨d', ?_, h1, h2, by rw [List.length_cons]; exact Nat.le_succ_of_le h3, h4, h5⟩
     simp [svWhile, tvAnd, tvB, zqk, evCI, hda, dCmp, dEq, eqD, evC, Out.bind, tvNE, CK.get, CL.get, hz, hgr, svPop0]
     exact e.trans (by rw [set_set])
  · refine ⟨d, ?_, h0, hg, Nat.le_refl _, rfl, rfl⟩
    simp [svWhile, tvAnd, tvB, zqk, evCI, hda, dCmp, dEq, eqD, evC, Out.bind, CK.get, hz, set_same hk]
theorem pow_ok {i j : Int} (h0 : 0 ≤ i) (h : i < 2 ^ 64) (j0 : 0 ≤ j) (j1 : j ≤ 1000000) : powOk i j = true := by
 unfold powOk
 rw [Bool.and_eq_true, Bool.and_eq_true]
 exact ⟨⟨decide_eq_true j0, decide_eq_true j1⟩, decide_eq_true (by omega)⟩
theorem atI_pos {xs : List Int} {j : Int} (h0 : 0 ≤ j) (h1 : j < xs.length) : ∃ n, atI xs j = some n ∧ n ∈ xs := by
 have hj : j.toNat < xs.length := by omega
 refine ⟨xs[j.toNat], ?_, List.getElem_mem hj⟩
 have := atI_nat (xs := xs) (j := j.toNat) (List.getElem?_eq_getElem hj)
 rw [Int.toNat_of_nonneg h0] at this
 exact this
theorem tail_run {s0 s2 : Slot} {tu lump : Int} (hl : 0 ≤ lump) (h0 : 0 ≤ tu) (h1 : tu ≤ 2 ^ 40) (hm : 0 < many) : ∃ r s5, svTail ⟨[s0, some (.int many, false), s2, some (.int tu, false), some (.int lump, false), none], cs⟩ =
 .ok (.rt (.int r) .new) ⟨[s0, some (.int many, false), s2, some (.int tu, false), some (.int lump, false), s5], cs⟩ ∧ 0 ≤ r ∧ r < many := by
 have e1 : 0 ≤ lump % 2147483629 := Int.emod_nonneg _ (by decide)
 have e2 : lump % 2147483629 < 2147483629 := Int.emod_lt_of_pos _ (by decide)
 have p1 : powOk (lump % 2147483629 + 40009 * tu) 3 = true := pow_ok (by omega) (by omega) (by decide) (by decide)
 generalize hmx : (lump % 2147483629 + 40009 * tu) ^ 3 % 2147483647 = mx
 have e3 : 0 ≤ mx := by rw [← hmx]; exact Int.emod_nonneg _ (by decide)
 have e4 : mx < 2147483647 := by rw [← hmx]; exact Int.emod_lt_of_pos _ (by decide)
 have p2 : powOk (mx + 104729 * tu) 5 = true := pow_ok (by omega) (by omega) (by decide) (by decide)
 refine ⟨(mx + 104729 * tu) ^ 5 % 2147483629 / 11 % many, some (.int mx, false), ?_, Int.emod_nonneg _ (by omega), Int.emod_lt_of_pos _ hm⟩
 have f1 : fits64 40009 = true := by decide
 have f2 : fits64 104729 = true := by decide
 have t3 : (3 : Int).toNat = 3 := rfl
 have t5 : (5 : Int).toNat = 5 := rfl
 simp [svTail, zqm, zqs, zqw, zqk, zqc, evC, Out.bind, dBin, dMod, dPow, dAdd, dMul, dDiv, p1, p2, f1, f2, hm, hmx, DS.put, isCont, t3, t5]
theorem nextT_run (ok : zqo d (n + 1)) (hk : cs[k]? = some (.draw d)) (hm : 0 < many) : ∃ r s3 s4 s5, svNextT ⟨[some (.cel k, false), some (.int many, false), none, none, none, none], cs⟩ =
 .ok (.rt (.int r) .new) ⟨[some (.cel k, false), some (.int many, false), none, s3, s4, s5], cs.set k (.draw { d with turn := d.turn + 1 })⟩ ∧ 0 ≤ r ∧ r < many := by
 have tn := ok.tn
 have tb := ok.tb
 have lu := ok.lu
 obtain ⟨dg, gr, ls, tu⟩ := d
 dsimp only at tn tb lu
 have hk2 : (cs.set k (.draw ⟨dg, gr, ls, tu + 1⟩))[k]? = some (.draw ⟨dg, gr, ls, tu + 1⟩) := get_set hk
 have hda : drawAt ⟨[some (.cel k, false), some (.int many, false), none, none, none, none], cs⟩ 0 = some (k, ⟨dg, gr, ls, tu⟩) := drawAt_mk hk
 have hda2 : ∀ s3 s4, drawAt ⟨[some (.cel k, false), some (.int many, false), none, s3, s4, none], cs.set k (.draw ⟨dg, gr, ls, tu + 1⟩)⟩ 0 = some (k, ⟨dg, gr, ls, tu + 1⟩) := fun s3 s4 => drawAt_mk hk2
 cases ls with
 | nil =>
  obtain ⟨r, s5, e, r0, r1⟩ := tail_run (cs := cs.set k (.draw ⟨dg, gr, [], tu + 1⟩)) (s0 := some (.cel k, false)) (s2 := none) (tu := tu + 1) (lump := 0) (by decide) (by omega) (by omega) hm
  refine ⟨r, some (.int (tu + 1), false), some (.int 0, false), s5, ?_, r0, r1⟩
  rw [← e]
  simp [svNextT, zqm, svCAug, hda, evC, Out.bind, zqs, evCI, hda2, DS.put, isCont, CK.get, CK.put, svIf, tvNE, CL.get, svNx]
 | cons x xs =>
  have hl0 : (0 : Int) < ((x :: xs).length : Nat) := by rw [List.length_cons]; omega
  have a0 : 0 ≤ (tu + 1) % ((x :: xs).length : Nat) := Int.emod_nonneg _ (by omega)
  have a1 : (tu + 1) % ((x :: xs).length : Nat) < ((x :: xs).length : Nat) := Int.emod_lt_of_pos _ hl0
  obtain ⟨z, hz, hzm⟩ := atI_pos a0 a1
  obtain ⟨r, s5, e, r0, r1⟩ := tail_run (cs := cs.set k (.draw ⟨dg, gr, x :: xs, tu + 1⟩)) (s0 := some (.cel k, false)) (s2 := none) (tu := tu + 1) (lump := z) (lu z hzm).1 (by omega) (by omega) hm
  refine ⟨r, some (.int (tu + 1), false), some (.int z, false), s5, ?_, r0, r1⟩
  rw [← e]
  generalize hxs : x :: xs = ls at *
  have hne : ls.isEmpty = false := by rw [← hxs]; rfl
  have hln : 0 < ls.length := by omega
  simp [svNextT, zqm, svCAug, hda, evC, Out.bind, zqs, evCI, hda2, DS.put, isCont, CK.get, CK.put, svIf, tvNE, CL.get, svNx, hne, evCIx, zqk, zqc, evCLen, dBin, dMod, hln, hz]
theorem next_run (ok : zqo d (n + 1)) (hk : cs[k]? = some (.draw d)) (hm : 0 < many) (hm2 : many < 2 ^ 64) : ∃ r d' kd, F_15 [.cel k, .int many] ⟨[], cs⟩ = .ok (.int r, kd) ⟨[], cs.set k (.draw d')⟩ ∧ 0 ≤ r ∧ r < many ∧ zqo d' n := by
 obtain ⟨d1, e1, g1, g2, g3, g4, g5⟩ := nextW_run (k := k) 100 d cs [some (.cel k, false), some (.int many, false), none, none, none, none] hk rfl ok.gl ok.dg ok.gr
 have hk1 : (cs.set k (.draw d1))[k]? = some (.draw d1) := get_set hk
 have ok1 : zqo d1 (n + 1) := ⟨g1, g2, Nat.lt_of_le_of_lt g3 ok.gl, by rw [g4]; exact ok.lu, by rw [g5]; exact ok.tn, by rw [g5]; exact ok.tb⟩
 have hda : drawAt ⟨[some (.cel k, false), some (.int many, false), none, none, none, none], cs.set k (.draw d1)⟩ 0 = some (k, d1) := drawAt_mk hk1
 have e1' : svNextW ⟨[some (.cel k, false), some (.int many, false), none, none, none, none], cs⟩ = .ok .nx ⟨[some (.cel k, false), some (.int many, false), none, none, none, none], cs.set k (.draw d1)⟩ := e1
 by_cases hp : 0 < d1.digits
 · refine ⟨d1.digits % many, { d1 with digits := d1.digits / many }, .fro, ?_, Int.emod_nonneg _ (by omega), Int.emod_lt_of_pos _ hm, ⟨Int.ediv_nonneg g1 (by omega), g2, ok1.gl, ok1.lu, ok1.tn, by have := ok1.tb; dsimp only; omega⟩⟩
   have hda2 : ∀ s2, drawAt ⟨[some (.cel k, false), some (.int many, false), s2, none, none, none], cs.set k (.draw d1)⟩ 0 = some (k, d1) := fun s2 => drawAt_mk hk1
   have hm2' : many < 18446744073709551616 := hm2
   simp [F_15, fnSv, zql, svNext, zqm, Out.bind, e1', svNextI, svIf, tvB, zqk, evCI, hda, hda2, dCmp, dGt, evC, hp, zqs, dBin, dMod, dDiv, zqc, hm, hm2', svCSet, DS.put, isCont, zqw, outRet, CK.get, CK.put]
 · obtain ⟨r, s3, s4, s5, e2, r0, r1⟩ := nextT_run ok1 hk1 hm
   refine ⟨r, { d1 with turn := d1.turn + 1 }, .new, ?_, r0, r1, ⟨g1, g2, ok1.gl, ok1.lu, by have := ok1.tn; dsimp only; omega, by have := ok1.tb; dsimp only; omega⟩⟩
   simp [F_15, fnSv, zql, svNext, zqm, Out.bind, e1', svNextI, svIf, tvB, zqk, evCI, hda, dCmp, dGt, evC, hp, svNx, e2, outRet, CK.get]
end
end D
namespace D
open PySem L2 PyProof.Rows
section
variable {vs : List Nat} {g : Gv} {tt : Tv} {fe : Ev}
end
end D
namespace D
open PySem L2 PyProof.Rows
section
variable {X : Cx} {pins : List (Addr × Obj)} {σ : L2.St} {H : Hp} {s : Shared} {a : Addr} {oe : Obj}
theorem pin_stays (S : L2.Inv (X.suite a ((a, oe) :: (X.pn ++ pins))) [] σ H s) (ok : X.Ok) : L2.Inv X ((a, oe) :: pins) σ H s where
 ok := ok
 os := S.os
 bare := S.bare
 base := S.base
 loc := S.loc
 cell := S.cell
 free := S.free
 freeC := S.freeC
 pin := fun p hp => S.pin p (by
  rw [List.append_nil]
  rcases List.mem_append.mp hp with h | h
  · exact List.mem_cons_of_mem _ (List.mem_append_left _ h)
  · rcases List.mem_cons.mp h with rfl | h
    · exact List.mem_cons_self
    · exact List.mem_cons_of_mem _ (List.mem_append_right _ h))
 hok := S.hok
 len := S.len
theorem pin_tracked {o : HO} (I : L2.Inv X ((a, oe) :: pins) σ H s) (n0 : X.s_0.heap.get? a = none) (np : ∀ p ∈ X.pn ++ pins, p.1 ≠ a) (new : ObjOk X.prog X.w (upd H a o) s.heap a o) : L2.Inv X pins σ (upd H a o) s := by
 have me : (a, oe) ∈ X.pn ++ ((a, oe) :: pins) := List.mem_append_right _ List.mem_cons_self
 obtain ⟨ha, na, nL, nF, nC⟩ := I.pin _ me
 have neN : ∀ b, b ≠ a → upd H a o b = H b := fun b h => upd_ne h
 have ne0 : ∀ b u, X.s_0.heap.get? b = some u → b ≠ a := fun b u e z => by rw [z, n0] at e; cases e
 have neH : ∀ b u, H b = some u → b ≠ a := fun b u e => ne_of_none e na
 exact {
  ok := I.ok
  os := I.os
  bare := I.bare
  base := {
   keep := I.base.keep, slot := I.base.slot, there := I.base.there,
   free := fun b u e n q => (neN b (ne0 b u e)).trans (I.base.free b u e n q),
   tups := fun b xs e => (neN b (neH b _ (I.base.tups b xs e))).trans (I.base.tups b xs e),
   frzs := fun b u xs e => (neN b (neH b _ (I.base.frzs b u xs e))).trans (I.base.frzs b u xs e),
   tbls := fun b ps e => by
    obtain ⟨m, z⟩ := I.base.tbls b ps e
    exact ⟨m, (neN b (neH b _ z)).trans z⟩ }
  loc := I.loc
  cell := I.cell
  free := (neN _ (Ne.symm nL)).trans I.free
  freeC := fun x c e => by
   obtain ⟨v, u, hu, hd⟩ := I.cell x c e
   refine (neN c fun z => ?_).trans (I.freeC x c e)
   rw [z, ha] at hu
   cases hu
   exact nC _ hd
  pin := fun p hp => by
   obtain ⟨q1, q2, q3⟩ := I.pin p (by
    rcases List.mem_append.mp hp with h | h
    · exact List.mem_append_left _ h
    · exact List.mem_append_right _ (List.mem_cons_of_mem _ h))
   exact ⟨q1, (neN p.1 (np p hp)).trans q2, q3⟩
  hok := I.hok.laidN (fun _ _ e => e) na new
  len := I.len }
theorem xo_ok {P : Program} {w : World} {H : Hp} {h : Heap} {cls : Value} {d : Option Addr} {vs : Array Value} (e : h.get? a = some oe) (z : Zc cls d oe) (hd : oe.data = .fields vs) : ObjOk P w H h a (XO cls d a) :=
 ⟨⟨oe, vs, e, z, hd⟩, ⟨oe, e⟩, fun h1 h2 ⟨o, us, q, r⟩ k => ⟨o, us, k o q, r⟩⟩
end
def wKeep (K : PySem.W.Frag) (c : Value) (i j : Nat) (Wout : WX) (D : Ends) : WX := fun cls d σ H =>
 ∃ b, PySem.W.exmOne K cls c = some b ∧ (b = true → ∀ a, H a = none → D.nx (((σ.set i (some (.ref a))).set j (some (.ref a))).set i none) (upd H a (XO cls d a))) ∧ (b = false → Wout cls d σ H)
section
variable {X : Cx} {x n y : Str} {c : Value} {i j : Nat} {body : List Stmt} {np pos pos' p1 p2 p3 : Pos} {tb : WX → TS} {Wout : WX}
theorem ps_try_keep (hx : X.ex = []) (hs : X.stack = X.env :: X.outer) (hf : X.env.frame = some X.env.locals) (hN : X.N.Nodup) (hi : X.N[i]? = some n) (hj : X.N[j]? = some y) (hln : X.env.kindOf n = some .local) (hly : X.env.kindOf y = some .local) (hc : Names X x c) (tk : Takes X Wout)
 (hb : ∀ (W : WX) (pn : List (Addr × Obj)) (xe : Value → Shared → Prop), Takes (X.tr pn xe) W → PassesOwn (model X.prog X.w) X.A X.env xe → PSs (X.tr pn xe) body (tb W))
 (hsw : ∀ a pn, swapsWith (.Name n p1) (some (.Name y p2)) p3.line (X.suite a pn).env = pure false) (hdn : (n == ("__debug__" : Str)) = false) (hcn : (n == ("__classdict__" : Str)) = false) :
 PS X (.Try body [.ExceptHandler (some (.Name x np)) (some n) [.Assign [.Name y p2] (.Name n p1) p3] pos'] [] [] pos) (fun D σ H => tb (wKeep X.K c i j Wout D) D σ H) := by
 refine ⟨fun pins s σ H D I h => ?_⟩
 have ok := I.ok
 have fr1 : X.A.frames = some (X.env :: X.outer) := by rw [ok.frames, hs]
 have hiN : i < X.N.length := (List.getElem?_eq_some_iff.mp hi).1
 refine wpAny_Try_except ?_
 refine wpAny_mono ((hb (wKeep X.K c i j Wout D) (X.pn ++ pins) _ (fun u s' xx => ?_) PassesOwn.looking).run [] s σ H D (I.toTry _) h) (fun f s1 hsp => ?_) (fun e s1 he => he)
 · obtain ⟨a, B, sI, pins', σ', H', cls, d, rfl, J0, nb, up, sky, na, os, ag, b, hb1, hyes, hno⟩ := xx
   have J : L2.Inv X pins σ' H' sI := J0.ofTry ok
   rw [show (X.tr (X.pn ++ pins) _).stack = X.env :: X.outer from hs] at sky
   show wpAny (model X.prog X.w) X.A (noteFrame (.ref a) X.env) _ _ _
   refine Sky.land Zc.steady fr1 hf sky fun h3 fl3 up3 => ?_
   have nB : B.get? a = none := fl3.2.1
   obtain ⟨oe3, vs3, he3, hz3, hd3⟩ := fl3.there
   have J3 : L2.Inv X pins σ' H' { s' with heap := h3 } := J.landed nb fl3.1 (up.trans up3) os ag
   -- the exception is none of the frames, nor anything that was there ahead of it
   have nfr : a ∉ frs (X.env :: X.outer) := fun hm => by
    obtain ⟨_, o', e', hnf⟩ := fl3.2.2.1.mem hm
    rw [he3] at e'; cases e'
    exact hnf _ hd3
   have nI : sI.heap.get? a = none := by
    cases q : sI.heap.get? a with
    | none => rfl
    | some o =>
     rw [nb a o q (by show a ∉ frs X.stack; rw [hs]; exact nfr)] at nB
     cases nB
   have nL : a ≠ X.env.locals := fun z => nfr (List.mem_filterMap.mpr ⟨X.env, List.mem_cons_self, by rw [hf, z]⟩)
   have nF : a ∉ X.fs := fun hm => by
    obtain ⟨e, he, q⟩ := List.mem_filterMap.mp hm
    exact nfr (List.mem_filterMap.mpr ⟨e, List.mem_cons_of_mem _ he, q⟩)
   have n0 : X.s_0.heap.get? a = none := by
    cases q : X.s_0.heap.get? a with
    | none => rfl
    | some o =>
     obtain ⟨o', e'⟩ := J.base.there a o q (by rw [hx]; exact fun z => nomatch z)
     rw [nI] at e'; cases e'
   have npins : ∀ p ∈ X.pn ++ pins, p.1 ≠ a := fun p hp z => by
    have e := (J.pin p hp).1
    rw [z, nI] at e; cases e
   refine wpAny_handleBy_cons (codeAny_handlers_test ?_) (by intro q; cases q)
   have LM := PySem.W.exm_one (M := model X.prog X.w) J3.kIn (fun A Q E s k q => wpAny_typeOf_ref (k _ _ he3) (by rw [hz3.1]; exact q) : PySem.W.Looks (model X.prog X.w) h3 (typeOf (.ref a)) cls) hb1
   have S3 := J3.suite he3 hd3 na nL nF
   have named : ∀ {Q : Value → Shared → Prop} {E : Value → Shared → Prop}, Q c { s' with heap := h3 } → wpAny (model X.prog X.w) (X.A.mark (some (.ref a))) (eval (.Name x np) X.env) Q E { s' with heap := h3 } := fun {Q E} q => by
    obtain ⟨hg, hdbg, hm | ⟨hm, hv, hnn⟩⟩ := hc
    · exact ld_glob S3 hg hm q hdbg
    · exact ld_blt S3 hg hm hv q hnn hdbg
   refine named (LM.here ?_)
   cases b with
   | true =>
    refine codeAny_handlers_suite_as (HandSPX.lands_againZ fl3 fun h4 fl4 up4 => ?_)
    have J4 : L2.Inv X pins σ' H' { s' with heap := h4 } := J.landed nb fl4.1 ((up.trans up3).trans up4) os ag
    obtain ⟨oe4, vs4, he4, hz4, hd4⟩ := fl4.there
    refine store_ok (X := X.suite a ((a, oe4) :: (X.pn ++ pins))) (v := .ref a) (J4.suite he4 hd4 na nL nF) hN hi (.inl hln) rfl (fun s5 S5 => ?_) (.inr hln)
    have suite : PSs (X.suite a ((a, oe4) :: (X.pn ++ pins))) [.Assign [.Name y p2] (.Name n p1) p3] _ := pss_one (ps_set (i := j) hN hj (.inl hly) (pe_var (X := X.suite a ((a, oe4) :: (X.pn ++ pins))) hi (.inl hln) hdn hcn) (hsw a _) (.inr hly))
    have hσ : i < σ'.length := by rw [J4.len]; exact hiN
    refine wpAny_mono (suite.run [] s5 _ H' { nx := fun σ6 H6 => σ6 = (σ'.set i (some (.ref a))).set j (some (.ref a)) ∧ H6 = H', rt := fun _ _ => False } S5 ⟨.ref a, List.getElem?_set_self hσ, rfl, rfl⟩) (fun f s6 hsp => ?_) (fun _ _ z => False.elim z)
    match f, hsp with
    | .next, ⟨σ6, H6, S6, e6, e6'⟩ =>
     subst e6 e6'
     refine gone_ok (pin_stays S6 ok) hN hi hln fun s7 J7 => ?_
     have e7 := (J7.pin (a, oe4) (List.mem_append_right _ List.mem_cons_self)).1
     exact ⟨_, _, pin_tracked J7 n0 npins (xo_ok e7 hz4 hd4), hyes rfl a na⟩
    | .brk, ⟨_, _, _, z⟩ => exact z.elim
    | .cont, ⟨_, _, _, z⟩ => exact z.elim
    | .ret u, ⟨_, _, _, _, _, z⟩ => exact z.elim
   | false =>
    refine wpAny_handleBy_nil ?_
    obtain ⟨k1, k2, k3, oe, vs, T, oT, ts', he, hz, hd, h1, hr⟩ := id fl3
    unfold PySem.passOn
    refine wpAny_bind (wpAny_field he hd h1 ?_)
    rw [if_neg (show ¬ ((Value.ref T == Value.none) = true) from by simp)]
    have fin : wpAny (model X.prog X.w) X.A (setFlight (.ref a) X.env.frame) (fun _ s4 => wpAny (model X.prog X.w) X.A (throw (.ref a) : Sem Flow) (SP X pins D) X.xe s4) X.xe { s' with heap := h3 } := by
     rw [hf]
     exact HandSPX.setFlight_upZ fl3 fun h4 hh4 up4 => wpAny_throw (tk _ _ ⟨a, B, sI, pins, σ', H', cls, d, rfl, J, nb, (up.trans up3).trans up4, .inr (.inr (by rw [hs]; exact hh4)), na, os, ag, hno rfl⟩)
    first
     | exact wpAny_bind (wpAny_pure (wpAny_bind fin))
     | exact wpAny_bind fin
 · match f, hsp with
   | .next, ⟨σ', H', J', q⟩ => exact wpAny_execs_nil ⟨σ', H', J'.ofTry ok, q⟩
   | .brk, ⟨σ', H', J', q⟩ => exact ⟨σ', H', J'.ofTry ok, q⟩
   | .cont, ⟨σ', H', J', q⟩ => exact ⟨σ', H', J'.ofTry ok, q⟩
   | .ret u, ⟨v, σ', H', J', r, q⟩ => exact ⟨v, σ', H', J'.ofTry ok, r, q⟩
end
end D
namespace D
open PySem L2 PyProof.Rows
section
variable {X : Cx} {B : BC} {W : WX} {σ : L2.St} {ρ : List CellA} {st : DS} {H : Hp}
theorem clear_own {i j : Nat} {p : Addr} (h : ownAt ⟨st.sl.set i none, st.cs⟩ (σ.set i none) j p) : ownAt st σ j p ∧ j ≠ i := by
 obtain ⟨e, h1, h2⟩ := h
 by_cases hj : j = i
 · subst hj
   dsimp only at h1
   by_cases hl : j < st.sl.length
   · rw [List.getElem?_set_self hl] at h1; cases h1
   · rw [List.getElem?_eq_none (by rw [List.length_set]; omega)] at h1; cases h1
 · dsimp only at h1
   rw [List.getElem?_set_ne (Ne.symm hj)] at h1 h2
   exact ⟨⟨e, h1, h2⟩, hj⟩
theorem SStep.clear (r : Rel B ρ st σ H) (i : Nat) : SStep B σ ρ st H (σ.set i none) ρ ⟨st.sl.set i none, st.cs⟩ H := by
 have av : ∀ a, Av ρ B.O ⟨st.sl.set i none, st.cs⟩ (σ.set i none) a → Av ρ B.O st σ a := fun a z => by
  rcases z with z | z | ⟨j, z⟩
  · exact .inl z
  · exact .inr (.inl z)
  · exact .inr (.inr ⟨j, (clear_own z).1⟩)
 have mv : ∀ a, Av ρ B.O ⟨st.sl.set i none, st.cs⟩ (σ.set i none) a → Av ρ B.O st σ a ∨ H a = none := fun a z => .inl (av a z)
 have slo : ∀ (j : Nat) (z : DV × Bool), (st.sl.set i none)[j]? = some (some z) → j ≠ i ∧ st.sl[j]? = some (some z) := fun j z h => by
  by_cases hj : j = i
  · subst hj
    by_cases hl : j < st.sl.length
    · rw [List.getElem?_set_self hl] at h; cases h
    · rw [List.getElem?_eq_none (by rw [List.length_set]; omega)] at h; cases h
  · rw [List.getElem?_set_ne (Ne.symm hj)] at h
    exact ⟨hj, h⟩
 refine ⟨List.prefix_refl _, ⟨by simp [r.len], fun j e h => ?_, fun j e h => ?_, fun j k p h1 h2 => r.dis j k p (clear_own h1).1 (clear_own h2).1, r.dom, r.odom, ⟨r.cel.len, fun k c x h1 h2 => ?_, r.cel.dis⟩, r.cdom, r.tabs⟩, fun _ _ e _ _ _ => e, mv, fun _ z => .inl z, fun _ z => z⟩
 · obtain ⟨hj, h'⟩ := slo j _ h
   obtain ⟨w, e1, q⟩ := r.fro j e h'
   exact ⟨w, by rw [List.getElem?_set_ne (Ne.symm hj)]; exact e1, q.mv (List.prefix_refl _) (fun _ _ e _ _ => e) mv⟩
 · obtain ⟨hj, h'⟩ := slo j _ h
   obtain ⟨p, e1, q, n⟩ := r.own j e h'
   exact ⟨p, by rw [List.getElem?_set_ne (Ne.symm hj)]; exact e1, q.mv (List.prefix_refl _) (fun _ _ e _ _ => e) mv rfl, n⟩
 · have q := r.cel.ok k c x h1 h2
   cases x with
   | draw d => exact q
   | obj d => exact ⟨q.1, q.2.mv (List.prefix_refl _) (fun _ _ e _ _ => e) mv rfl⟩
   | dead => trivial
theorem XRep.rep {x : DX} {cls : Value} {d : Option Addr} {a : Addr} (rel : Rel B ρ st σ H) (ha : H a = none) (r : XRep B ρ st σ H x cls d) : Rep B.C ρ (Av ρ B.O st σ) (upd H a (XO cls d a)) (.ref a) (.exc x.c x.ns x.vs) := by
 obtain ⟨rfl, r⟩ := r
 rcases r with ⟨e1, e2, rfl⟩ | ⟨dx, vs, rfl, n, e, l, r⟩
 · rw [e1, e2]
   exact .exc0 (rel.av_fresh ha) upd_same
 · exact .exc (rel.av_fresh ha) upd_same n ((upd_ne (ne_of_none e ha)).trans e) l (RepL.step (Step.alloc rel ha) r)
def CatchOk (C : RC) (c : Value) (ca : Nat → Option Bool) : Prop := ∀ k b, ca k = some b → PySem.W.exmOne C.K (.ref (C.cls k)) c = some b
def svTry (f : Sv) (ca : Nat → Option Bool) (i j : Nat) : Sv := fun st => match f st with
 | .ok fl st1 => .ok fl st1
 | .exc x st1 => (match ca x.c with
  | some true => .ok .nx ⟨(st1.sl.set j (some (.exc x.c x.ns x.vs, false))).set i none, st1.cs⟩
  | some false => .exc x st1
  | none => .stuck)
 | .stuck => .stuck
variable {x n y : Str} {c : Value} {i j : Nat} {body : List Stmt} {np pos pos' p1 p2 p3 : Pos} {f : Sv} {ca : Nat → Option Bool}
end
end D
namespace D
open PySem L2 PyProof.Rows
section
variable {X : Cx} {C : RC} {ct : CT} {B : BC} {W : WX}
def tFldZ (C : RC) (ct : CT) (ta : TE) (f : Str) : TE := fun σ H Q => ta σ H fun x H1 =>
 (∃ a c dx fs v, x = .ref a ∧ H1 a = some (.ins (C.cls c) dx fs) ∧ (c, f) ∈ ct.fi ∧ fs.lookup f = some v ∧ Q v H1) ∨
 (∃ a c dd fs v, x = .ref a ∧ H1 a = some (XO (.ref (C.cls c)) (some dd) a) ∧ H1 dd = some (.xd fs) ∧ (c, f) ∈ ct.fe ∧ fs.lookup f = some v ∧ Q v H1)
theorem pe_fldZ {e : Expr} {f : Str} {pos : Pos} {ta : TE} (hC : C.K = X.K) (kc : KitC C ct) (he : PE X e ta) (hb : attributeBase e f X.env (eval e X.env) = eval e X.env) : PE X (.Attribute e f pos) (tFldZ C ct ta f) := by
 refine ⟨fun pins s σ H Q I h => attr_of hb (thn (he.run pins s σ H _ I h) fun u s1 hh => ?_)⟩
 obtain ⟨x, H1, I1, rx, q⟩ := hh
 rcases q with ⟨a, c, dx, fs, v, rfl, ea, hm, l, q⟩ | ⟨a, c, dd, fs, v, rfl, ea, ed, hm, l, q⟩
 · obtain rfl : u = Value.ref a := rx
   obtain ⟨h1, h2⟩ := kc.nf _ hm
   have k1 := kc.cls _ h1
   rw [hC] at k1 h2
   exact getattr_ok I1 ea k1 h2 l fun u' s2 I2 ru => ⟨v, H1, I2, ru, q⟩
 · obtain rfl : u = Value.ref a := rx
   obtain ⟨h1, h2⟩ := kc.nx _ hm
   have k1 := kc.xa _ h1
   have k2 := kc.xg _ h1
   have k3 := kc.xb _ h1
   have k4 := kc.xd _ h1
   rw [hC] at k1 k2 k3 k4 h2
   obtain ⟨⟨oe, vs, g1, hz, g2⟩, _, _⟩ := I1.hok a _ ea
   obtain ⟨mA, hns, hr⟩ := (show ObjOk X.prog X.w H1 s1.heap dd (.xd fs) from I1.hok dd _ ed)
   obtain ⟨od, ho, hl⟩ := lookIn_ns hns
   obtain ⟨u, hu, ru⟩ := RelO.some_of (v := v) (o := mA f) (by rw [← l]; exact hr f)
   have no : PySem.W.notCls oe = true := by unfold PySem.W.notCls; rw [g2]
   exact HandSPX.exc_get I1.kIn (⟨g1, hz.1, no, by rw [hz.2]; exact ho⟩ : PySem.W.InstAt s1.heap a oe (C.cls c) (some od)) k1 k2 k3 (PySem.W.findObj_own k4 h2 rfl (by rw [hl, hu])) (handed_of ru) ⟨v, H1, I1.tok _, ru, q⟩
def fldD (ct : CT) (f : Str) : DV → Option DV
 | .ins c ns vs => if (c, f) ∈ ct.fi then fldGet ns vs f else none
 | .exc c ns vs => if (c, f) ∈ ct.fe then fldGet ns vs f else none
 | _ => none
def evFld (ct : CT) (f : Str) (fa : Ev) : Ev := fun st => (fa st).bind fun a st1 => match fldD ct f a.1 with
 | some d => .ok (d, if flat d = true then .new else .fro) st1
 | none => .stuck
theorem fro_or_flat {σ : L2.St} {ρ : List CellA} {st : DS} {H : Hp} {v : V} {d : DV} (r : Rep B.C ρ (Av ρ B.O st σ) H v d) : RepK B ρ st σ H (if flat d = true then .new else .fro) v d ∧ Fresh H (if flat d = true then .new else .fro) v := by
 by_cases hf : flat d = true
 · rw [if_pos hf, Rep.flat_eq hf r]
   exact ⟨RepK.mkF hf, fresh_flat hf⟩
 · rw [if_neg hf]
   exact ⟨r, trivial⟩
theorem pd_fld {e : Expr} {f : Str} {pos : Pos} {fa : Ev} (hC : B.C.K = X.K) (kc : KitC B.C ct) (he : PD X B W e fa) (hb : attributeBase e f X.env (eval e X.env) = eval e X.env) : PD X B W (.Attribute e f pos) (evFld ct f fa) := by
 refine PE.mono (pe_fldZ hC kc he hb) fun σ H Q ⟨ρ, st, rel, r⟩ => ?_
 have r1 := Res.bind (k := fun (a : DV × Kd) st1 => match fldD ct f a.1 with
  | some d => .ok (d, if flat d = true then Kd.new else Kd.fro) st1
  | none => .stuck) r
 refine RD.go rel r1 fun a st1 ρ1 H1 s1 r1 v rv fv => ?_
 obtain ⟨d, kd⟩ := a
 dsimp only at r1 rv
 cases hf : fldD ct f d with
 | none => rw [hf] at r1; exact r1.elim
 | some z =>
  rw [hf] at r1
  have fin : ∀ u, Rep B.C ρ1 (Av ρ1 B.O st1 σ) H1 u z → Q u H1 := fun u ru => by
   obtain ⟨k1, k2⟩ := fro_or_flat ru
   exact Res.now s1.rel r1 u k1 (Fresh.dm s1.dm k2)
  cases d <;> try (cases hf; done)
  · rename_i c ns vs
    simp only [fldD] at hf
    split at hf
    · rename_i hm
      obtain ⟨p, dx, xs, rfl, e1, e2, e3⟩ := rv.ins
      obtain ⟨u, h1, h2⟩ := fldGet_rep e2 e3 hf
      exact .inl ⟨p, c, dx, _, u, rfl, e1, hm, h1, fin u h2⟩
    · cases hf
  · rename_i c ns vs
    simp only [fldD] at hf
    split at hf
    · rename_i hm
      have r' : Rep B.C ρ1 (Av ρ1 B.O st1 σ) H1 v (.exc c ns vs) := by
       cases kd with
       | view i => obtain ⟨p, rfl, _, c, _⟩ := rv; cases c
       | fro => exact rv
       | new => exact rv.1
      cases r' with
      | exc n e n2 e2 l r =>
       obtain ⟨u, h1, h2⟩ := fldGet_rep l r hf
       exact .inr ⟨_, c, _, _, u, rfl, e, e2, hm, h1, fin u h2⟩
      | exc0 n e => simp [fldGet] at hf
    · cases hf
def catchN (ct : CT) (k : Nat) (c : Nat) : Option Bool := if ct.ex.contains c && ct.ex.contains k then some (ct.sub c k) else none
theorem catch_ok (kc : KitC C ct) (k : Nat) : CatchOk C (.ref (C.cls k)) (catchN ct k) := fun c b h => by
 unfold catchN at h
 split at h
 · rename_i hc
   rw [Bool.and_eq_true, List.contains_iff_mem, List.contains_iff_mem] at hc
   cases h
   exact kc.ek c hc.1 k hc.2
 · cases h
end
end D
namespace D
open PySem L2 PyProof.Rows LamX
structure Grown (H H1 : Hp) : Prop where
 fr : ∀ a o, H a = some o → NT o → H1 a = some o
 dm : ∀ a, H a ≠ none → H1 a ≠ none
theorem Grown.refl (H : Hp) : Grown H H := ⟨fun _ _ e _ => e, fun _ z => z⟩
section
variable {X : Cx} {pins : List (Addr × Obj)} {σ : L2.St} {H : Hp} {s : Shared}
end
abbrev gotCx (X : Cx) (N : List Str) (x : Str) (sg : Scope) (g : Addr) (cdg : Value) (s : Shared) (H : Hp) : Cx := cxOf (L2.CX X.prog X.w) X.prog X.w X.K X.mg X.base N x sg g cdg X.A X.stack s H (fun _ _ _ => False)
section
variable {X : Cx} {pins : List (Addr × Obj)} {σ : L2.St} {H : Hp} {s : Shared}
structure Gets (X : Cx) (k : Nat) (N : List Str) (x : Str) (sg : Scope) (g : Addr) (cdg : Value) (bg : List Stmt) (a q : Str) (TT : Addr → (XK → Hp → VK → Prop) → Hp → VK → Prop) : Prop where
 go : ∀ (f c' : Addr) (s : Shared) (H : Hp) (Q : VK) (tl : XK → Hp → VK → Prop), Room k (X.A.deeper (envOfC x sg s.heap.objs.size g cdg)) →
  (∀ (W : WX) (pn : List (Addr × Obj)) (xe : Value → Shared → Prop) (p1 p2 : Pos), Takes ((gotCx X N x sg g cdg s H).tr pn xe) W →
   PE ((gotCx X N x sg g cdg s H).tr pn xe) (.Call (.Name a p1) [] [] p2) (fun σZ HZ Q => σZ[0]? = some (some (.ref f)) ∧ HZ c' = some (CodeO c' q) ∧ tl (fun cls d H' => W cls d σZ H') HZ Q)) →
  H c' = some (CodeO c' q) → TT f tl H Q → ∃ t, PSs (gotCx X N x sg g cdg s H) bg t ∧ t { nx := fun _ H' => Q .non H', rt := Q } (L2.start N [.ref f]) H
def tLamD (T : List (Addr × Str)) (TT : Addr → (XK → Hp → VK → Prop) → Hp → VK → Prop) (t : XK → TE) : TE := fun σ H Q => Tabs T H ∧ ∀ H1 f, Grown H H1 → Tabs T H1 → H1 f = none → TT f (fun E H' Q' => t E σ H' Q') H1 Q
end
end D
namespace D
open PySem L2 PyProof.Rows LamX
def DS.frz (st : DS) : DS := ⟨st.sl.map (Option.map fun (p : DV × Bool) => (p.1, false)), st.cs⟩
section
variable {B : BC} {W : WX} {σ : L2.St} {ρ : List CellA} {st : DS} {H H1 : Hp}
theorem frz_at {i : Nat} {d : DV} {b : Bool} (h : st.frz.sl[i]? = some (some (d, b))) : b = false ∧ ∃ c, st.sl[i]? = some (some (d, c)) := by
 simp only [DS.frz, List.getElem?_map] at h
 cases e : st.sl[i]? with
 | none => rw [e] at h; cases h
 | some x =>
  rw [e] at h
  cases x with
  | none => cases h
  | some p =>
   obtain ⟨d', c⟩ := p
   cases h
   exact ⟨rfl, c, rfl⟩
theorem frz_own {i : Nat} {p : Addr} : ¬ ownAt st.frz σ i p := fun ⟨d, h, _⟩ => by cases (frz_at h).1
theorem frz_av {a : Addr} (h : Av ρ B.O st.frz σ a) : Av ρ B.O st σ a := by
 rcases h with h | h | ⟨j, h⟩
 · exact .inl h
 · exact .inr (.inl h)
 · exact absurd h frz_own
theorem Step.frz (r : Rel B ρ st σ H) : Step B σ ρ st H ρ st.frz H := by
 have mv : ∀ a, Av ρ B.O st.frz σ a → Av ρ B.O st σ a ∨ H a = none := fun a z => .inl (frz_av z)
 refine ⟨List.prefix_refl _, ⟨by rw [← r.len]; simp [DS.frz], fun j d h => ?_, fun j d h => ?_, fun j k p h1 h2 => absurd h1 frz_own, r.dom, r.odom, ⟨r.cel.len, fun k c x h1 h2 => ?_, r.cel.dis⟩, r.cdom, r.tabs⟩, fun _ _ e _ _ => e, fun _ _ z => absurd z frz_own, fun j d b z => (frz_at z).2, fun _ z => .inl z, fun _ z => z⟩
 · obtain ⟨_, c, e⟩ := frz_at h
   cases c with
   | false =>
    obtain ⟨v, e1, q⟩ := r.fro j d e
    exact ⟨v, e1, q.mv (List.prefix_refl _) (fun _ _ e _ _ => e) mv⟩
   | true =>
    obtain ⟨p, e1, q, n1, n2, n3⟩ := r.own j d e
    refine ⟨.ref p, e1, q.rep (fun a z => frz_av z) fun z => ?_⟩
    rcases z with z | z | ⟨k, z⟩
    · exact n2 z
    · exact n1 z
    · exact absurd z frz_own
 · cases (frz_at h).1
 · have q := r.cel.ok k c x h1 h2
   cases x with
   | draw d => exact q
   | obj d => exact ⟨q.1, q.2.mv (List.prefix_refl _) (fun _ _ e _ _ => e) mv rfl⟩
   | dead => trivial
theorem Step.grown (r : Rel B ρ st σ H) (g : Grown H H1) (t : Tabs B.C.T H1) : Step B σ ρ st H ρ st H1 := by
 have fr : ∀ a o, H a = some o → ¬ Av ρ B.O st σ a → NT o → H1 a = some o := fun a o e _ n => g.fr a o e n
 have mv : ∀ a, Av ρ B.O st σ a → Av ρ B.O st σ a ∨ H a = none := fun a z => .inl z
 have same : ∀ p d, Cont B.C ρ (Av ρ B.O st σ) H p d → H1 p = H p := fun p d c => by
  obtain ⟨o, e, n⟩ := c.nt
  rw [e, g.fr p o e n]
 refine ⟨List.prefix_refl _, ⟨r.len, fun j d h => ?_, fun j d h => ?_, r.dis, fun a z => g.dm a (r.dom a z), fun a z => g.dm a (r.odom a z), ⟨r.cel.len, fun k c x h1 h2 => ?_, r.cel.dis⟩, fun a z => g.dm a (r.cdom a z), t⟩, fun a o e _ n => g.fr a o e n, fun _ _ z => z, fun j d b z => ⟨b, z⟩, fun _ z => .inl z, g.dm⟩
 · obtain ⟨v, e1, q⟩ := r.fro j d h
   exact ⟨v, e1, q.mv (List.prefix_refl _) fr mv⟩
 · obtain ⟨p, e1, q, n⟩ := r.own j d h
   exact ⟨p, e1, q.mv (List.prefix_refl _) fr mv (same p d q), n⟩
 · have q := r.cel.ok k c x h1 h2
   cases x with
   | draw d =>
    obtain ⟨g', l, e, n1, n2, n3, a, b, c⟩ := q
    exact ⟨g', l, e, n1, n2, n3, g.fr _ _ a trivial, g.fr _ _ b trivial, g.fr _ _ c trivial⟩
   | obj d => exact ⟨q.1, q.2.mv (List.prefix_refl _) fr mv (same _ d q.2)⟩
   | dead => trivial
end
structure LamD where
 n : Nat
 jc : Nat
 je : Nat
 kx : Nat
 rest : Sv
def LamD.sl1 (L : LamD) : List Slot := (zql L.n [.opq]).set L.jc (some (.non, false))
def LamD.slX (L : LamD) (x : DX) : List Slot := (L.sl1.set L.jc (some (.exc x.c x.ns x.vs, false))).set L.je none
def lamBack (sl : List Slot) : Out (DV × Kd) → Out (DV × Kd)
 | .ok a st2 => .ok (a.1, if flat a.1 = true then .new else .fro) ⟨sl, st2.cs⟩
 | _ => .stuck
def evLam (ct : CT) (L : LamD) (body : Ev) : Ev := fun st => match body st.frz with
 | .ok _ st1 => lamBack st1.sl (outRet (L.rest ⟨L.sl1, st1.cs⟩))
 | .exc x st1 => (match catchN ct L.kx x.c with
  | some true => lamBack st1.sl (outRet (L.rest ⟨L.slX x, st1.cs⟩))
  | _ => .stuck)
 | .stuck => .stuck
def LamD.ends (L : LamD) (C : RC) (O : Addr → Prop) (H : Hp) (Q : VK) : Ends := { nx := fun σ' H' => RS ⟨C, O, H⟩ WF L.rest { nx := fun _ H' => Q .non H', rt := Q } σ' H', rt := Q }
def LamD.σ1 (L : LamD) (N : List Str) (f : Addr) : L2.St := (L2.start N [.ref f]).set L.jc (some .non)
def TTL (C : RC) (L : LamD) (N : List Str) (f : Addr) (tl : XK → Hp → VK → Prop) (H : Hp) (Q : VK) : Prop := ∃ O : Addr → Prop,
 tl (fun cls d H' => wKeep C.K (.ref (C.cls L.kx)) L.je L.jc WF (L.ends C O H Q) cls d (L.σ1 N f) H') H (fun _ H' => (L.ends C O H Q).nx (L.σ1 N f) H')
section
variable {X : Cx} {C : RC} {ct : CT}
theorem gets_of {k : Nat} {N : List Str} {x a c e kn : Str} {sg : Scope} {g : Addr} {cdg : Value} {L : LamD} {q : Str} {rest : List Stmt} {kk : Nat} {q1 q2 q3 q4 q5 q6 q7 q8 q9 q10 q11 q12 : Pos} (hC : C.K = X.K) (hgu : X.A.guards = some [])
 (hN : N.Nodup) (h0 : N[0]? = some a) (hjc : N[L.jc]? = some c) (hje : N[L.je]? = some e) (hne : L.jc ≠ 0) (hle : sg.names.lookup e = some .local) (hlc : sg.names.lookup c = some .local) (hk : sg.names.lookup kn = some .globalImplicit) (hm : X.mg kn = some (.ref (C.cls L.kx))) (hdk : (kn == ("__debug__" : Str)) = false)
 (hde : (e == ("__debug__" : Str)) = false) (hce : (e == ("__classdict__" : Str)) = false)
 (hkind : sg.kind = .function)
 (hrest : ∀ (s : Shared) (H : Hp) (O : Addr → Prop), Room k (X.A.deeper (envOfC x sg s.heap.objs.size g cdg)) → PSsD (gotCx X N x sg g cdg s H) ⟨C, O, H⟩ WF rest L.rest)
 (s1 : ∀ s H, swapsWith (.Constant .none kk q1) (some (.Name c q2)) q3.line (gotCx X N x sg g cdg s H).env = pure false)
 (s2 : ∀ s H pn xe, swapsWith (.Call (.Name a q4) [] [] q5) none q6.line ((gotCx X N x sg g cdg s H).tr pn xe).env = pure false)
 (s3 : ∀ s H aa pn, swapsWith (.Name e q7) (some (.Name c q8)) q9.line ((gotCx X N x sg g cdg s H).suite aa pn).env = pure false) :
 Gets X k N x sg g cdg (.Assign [.Name c q2] (.Constant .none kk q1) q3 :: .Try [.Expr (.Call (.Name a q4) [] [] q5) q6] [.ExceptHandler (some (.Name kn q10)) (some e) [.Assign [.Name c q8] (.Name e q7) q9] q11] [] [] q12 :: rest) a q (TTL C L N) := by
 refine ⟨fun f c' s H Q tl hr act hco ⟨O, ht⟩ => ⟨_, pss_cons (ps_set (i := L.jc) (te := tC .non) hN hjc (.inl hlc) (pe_non) (s1 s H) (.inr hlc)) (pss_cons (ps_try_keep (X := gotCx X N x sg g cdg s H) (c := .ref (C.cls L.kx)) (i := L.je) (j := L.jc) (Wout := WF)
  (tb := fun W D σ H' => σ[0]? = some (some (V.ref f)) ∧ H' c' = some (CodeO c' q) ∧ tl (fun cls d H'' => W cls d σ H'') H' (fun _ H'' => D.nx σ H'')) rfl rfl rfl hN hje hjc hle hlc ⟨hk, hdk, .inl hm⟩ takesF
  (fun W pn xe tk _ => PSs.mono (pss_one (ps_expr (act W pn xe q4 q5 tk) (s2 s H pn xe))) fun D σ H' h => h) (s3 s H) hde hce) (hrest s H O hr)), ?_⟩⟩
 refine ⟨?_, hco, ?_⟩
 · show ((L2.start N [.ref f]).set L.jc (some .non))[0]? = _
   rw [List.getElem?_set_ne hne]
   rfl
 · rw [hC] at ht
   exact ht
end
section
variable {B : BC} {W : WX} {σ : L2.St} {ρ ρ1 : List CellA} {st st1 : DS} {H H1 H' : Hp} {C : RC}
theorem rel_got {n : Nat} {N : List Str} {f : Addr} (hn : N.length = n) (r : Rel B ρ1 st1 σ H') (dom : ∀ a, H1 a ≠ none → H' a ≠ none) : Rel ⟨B.C, B.O, H1⟩ ρ1 ⟨zql n [.opq], st1.cs⟩ (L2.start N [.ref f]) H' := by
 subst hn
 have sub : ∀ a, Av ρ1 B.O ⟨zql N.length [.opq], st1.cs⟩ (L2.start N [.ref f]) a → Av ρ1 B.O st1 σ a := fun a z => by
  rcases z with z | z | ⟨i, d, z, _⟩
  · exact .inl z
  · exact .inr (.inl z)
  · exact absurd z zqx
 have mv : ∀ a, Av ρ1 B.O ⟨zql N.length [.opq], st1.cs⟩ (L2.start N [.ref f]) a → Av ρ1 B.O st1 σ a ∨ H' a = none := fun a z => .inl (sub a z)
 refine ⟨?_, fun i d h => ?_, fun i d h => absurd h zqx, fun i j p ⟨d, h, _⟩ => absurd h zqx, dom, r.odom, ⟨r.cel.len, fun k c x h1 h2 => ?_, r.cel.dis⟩, r.cdom, r.tabs⟩
 · simp [zql, L2.start]
 · cases i with
   | zero =>
    have h : some (some (DV.opq, false)) = some (some (d, false)) := h
    cases h
    exact ⟨.ref f, rfl, .opq f⟩
   | succ i =>
    have h : (List.replicate (N.length - 1) (none : Slot))[i]? = some (some (d, false)) := h
    rw [List.getElem?_replicate] at h
    split at h <;> cases h
 · have q := r.cel.ok k c x h1 h2
   cases x with
   | draw d => exact q
   | obj d => exact ⟨q.1, q.2.mv (List.prefix_refl _) (fun _ _ e _ _ => e) mv rfl⟩
   | dead => trivial
theorem rest_got {rest : Sv} {slc : List Slot} {σc : L2.St} {Q : VK} (no1 : ∀ i a, ¬ ownAt st1 σ i a) (noc : ∀ i a, ¬ ownAt ⟨slc, st1.cs⟩ σc i a) (sT : Step B σ ρ st H ρ1 st1 H') (rc : Rel ⟨B.C, B.O, H1⟩ ρ1 ⟨slc, st1.cs⟩ σc H')
 (r : Res B W σ ρ st H (lamBack st1.sl (outRet (rest ⟨slc, st1.cs⟩))) (GE B σ H Q)) : RS ⟨B.C, B.O, H1⟩ WF rest { nx := fun _ H' => Q .non H', rt := Q } σc H' := by
 refine ⟨ρ1, ⟨slc, st1.cs⟩, rc, ?_⟩
 -- the caller's state behind it
 have later : ∀ σ2 ρ2 st2 H2, SStep ⟨B.C, B.O, H1⟩ σc ρ1 ⟨slc, st1.cs⟩ H' σ2 ρ2 st2 H2 → Step B σ ρ st H ρ2 ⟨st1.sl, st2.cs⟩ H2 := fun σ2 ρ2 st2 H2 s2 => by
  have av : ∀ a, Av ρ2 B.O ⟨st1.sl, st2.cs⟩ σ a → Av ρ2 B.O st2 σ2 a ∨ H2 a = none := fun a z => by
   rcases z with z | z | ⟨i, z⟩
   · exact .inl (.inl z)
   · exact .inl (.inr (.inl z))
   · exact absurd z (no1 i a)
  refine sT.trans (Step.called sT.rel s2.pre (fun a o e n t => s2.fr a o e n (fun i => noc i a) t) s2.cm s2.dm ⟨s2.rel.cel.len, fun k c x h1 h2 => ?_, s2.rel.cel.dis⟩ s2.rel.cdom s2.rel.tabs)
  have q := s2.rel.cel.ok k c x h1 h2
  cases x with
  | draw d => exact q
  | obj d => exact ⟨q.1, q.2.mv (List.prefix_refl _) (fun _ _ e _ _ => e) av rfl⟩
  | dead => trivial
 have fin : ∀ σ2 ρ2 st2 H2 v d kd, SStep ⟨B.C, B.O, H1⟩ σc ρ1 ⟨slc, st1.cs⟩ H' σ2 ρ2 st2 H2 → RepK ⟨B.C, B.O, H1⟩ ρ2 st2 σ2 H2 kd v d → Res B W σ ρ st H (.ok (d, if flat d = true then .new else .fro) ⟨st1.sl, st2.cs⟩) (GE B σ H Q) → Q v H2 := fun σ2 ρ2 st2 H2 v d kd s2 rv r => by
  have s3 := later σ2 ρ2 st2 H2 s2
  have rep : Rep B.C ρ2 (Av ρ2 B.O ⟨st1.sl, st2.cs⟩ σ) H2 v d := rv.eat.mv (List.prefix_refl _) (fun _ _ e _ _ => e) fun a z => by
   rcases z with z | z | ⟨i, z⟩
   · exact .inl (.inl z)
   · exact .inl (.inr (.inl z))
   · exact absurd z (no1 i a)
  obtain ⟨k1, k2⟩ := fro_or_flat rep
  exact r ρ2 H2 s3 v k1 (Fresh.dm s3.dm k2)
 cases e : rest ⟨slc, st1.cs⟩ with
 | stuck => rw [e] at r; exact r.elim
 | exc x st2 => rw [e] at r; exact (show False from r).elim
 | ok fl st2 =>
  rw [e] at r
  cases fl with
  | nx => exact fun σ2 ρ2 H2 s2 => fin σ2 ρ2 st2 H2 .non .non .new s2 (RepK.mkF (d := .non) rfl) r
  | bk => exact (show False from r).elim
  | ct => exact (show False from r).elim
  | rt d kd => exact fun σ2 ρ2 H2 s2 v rv _ => fin σ2 ρ2 st2 H2 v d kd s2 rv r
theorem setF_own {sl : List Slot} {cs : List CellC} {σc : L2.St} {i : Nat} {v : Option V} {s : Slot} (hs : ∀ d, s ≠ some (d, true)) (h : ∀ i a, ¬ ownAt ⟨sl, cs⟩ σc i a) : ∀ j a, ¬ ownAt ⟨sl.set i s, cs⟩ (σc.set i v) j a := fun j a ⟨d, h1, h2⟩ => by
 by_cases hj : j = i
 · subst hj
   dsimp only at h1
   by_cases hl : j < sl.length
   · rw [List.getElem?_set_self hl] at h1
     exact hs d (Option.some.inj h1)
   · rw [List.getElem?_eq_none (by rw [List.length_set]; omega)] at h1; cases h1
 · dsimp only at h1
   rw [List.getElem?_set_ne (Ne.symm hj)] at h1 h2
   exact h j a ⟨d, h1, h2⟩
theorem lam_core {ct : CT} {L : LamD} {fb : Ev} {N : List Str} {Q : VK} (kc : KitC B.C ct) (hn : N.length = L.n) (hj : L.jc ≠ L.je) (rel : Rel B ρ st σ H) (r : Res B W σ ρ st H (evLam ct L fb st) (GE B σ H Q)) :
 tLamD B.C.T (TTL B.C L N) (fun E => RDx B.C (fun cls d _ H' => E cls d H') fb) σ H Q := by
 refine ⟨rel.tabs, fun H1 f gr t1 hf => ⟨B.O, B, rfl, ρ, st.frz, ?_, ?_⟩⟩
 · exact (Step.frz (Step.grown rel gr t1).rel).rel
 have s0 : Step B σ ρ st H ρ st.frz H1 := (Step.grown rel gr t1).trans (Step.frz (Step.grown rel gr t1).rel)
 unfold evLam at r
 have no0 : ∀ i a, ¬ ownAt (⟨zql L.n [.opq], []⟩ : DS) (L2.start N [.ref f]) i a := fun i a ⟨d, z, _⟩ => zqx z
 cases e : fb st.frz with
 | stuck => rw [e] at r; exact r.elim
 | ok a st1 =>
  rw [e] at r
  intro ρ1 H' s1 v rv fv
  have no1 : ∀ i a, ¬ ownAt st1 σ i a := fun i a z => frz_own (s1.sub i a z)
  have sT := s0.trans s1
  have rg := (SStep.putF (i := L.jc) (rel_got (f := f) (H1 := H1) hn s1.rel s1.dm) (v := .non) (d := .non) .non).rel
  exact rest_got no1 (setF_own (fun d z => by cases z) no0) sT rg r
 | exc x st1 =>
  rw [e] at r
  dsimp only at r
  intro ρ1 H' cls d s1 xr
  cases hk : catchN ct L.kx x.c with
  | none => rw [hk] at r; exact r.elim
  | some b =>
   cases b with
   | false => rw [hk] at r; exact r.elim
   | true =>
    rw [hk] at r
    have r : Res B W σ ρ st H (lamBack st1.sl (outRet (L.rest ⟨L.slX x, st1.cs⟩))) (GE B σ H Q) := r
    have no1 : ∀ i a, ¬ ownAt st1 σ i a := fun i a z => frz_own (s1.sub i a z)
    have sT := s0.trans s1
    have rg := (SStep.putF (i := L.jc) (rel_got (f := f) (H1 := H1) hn s1.rel s1.dm) (v := .non) (d := .non) .non).rel
    refine ⟨true, by rw [xr.1]; exact catch_ok kc L.kx x.c true hk, fun _ a ha => ?_, fun z => nomatch z⟩
    have e2 : (((L.σ1 N f).set L.je (some (.ref a))).set L.jc (some (.ref a))).set L.je none = ((L.σ1 N f).set L.jc (some (.ref a))).set L.je none := by
     rw [List.set_comm _ _ (Ne.symm hj), List.set_set]
    rw [e2]
    have sT2 := sT.trans (Step.alloc (o := XO cls d a) sT.rel ha)
    -- the exception in the def's slots
    have xr' : XRep ⟨B.C, B.O, H1⟩ ρ1 ⟨L.sl1, st1.cs⟩ (L.σ1 N f) H' x cls d := by
     have noc := setF_own (i := L.jc) (v := some (V.non)) (s := some (DV.non, false)) (fun d z => by cases z) no0
     have sub : ∀ b, Av ρ1 B.O ⟨L.sl1, st1.cs⟩ (L.σ1 N f) b → Av ρ1 B.O st1 σ b := fun b z => by
      rcases z with z | z | ⟨i, d, z1, z2⟩
      · exact .inl z
      · exact .inr (.inl z)
      · exact absurd ⟨d, z1, z2⟩ (noc i b)
     obtain ⟨x1, x2⟩ := xr
     refine ⟨x1, x2.imp id fun ⟨dd, vs, q1, q2, q3, q4, q5⟩ => ⟨dd, vs, q1, fun z => q2 (sub _ z), q3, q4, q5.mv (List.prefix_refl _) (fun _ _ e _ _ => e) fun a z => .inl (sub a z)⟩⟩
    have q1 := Step.alloc (o := XO cls d a) rg ha
    have q2 := SStep.putF (i := L.jc) q1.rel (xr'.rep rg ha)
    have q3 := SStep.clear q2.rel L.je
    exact rest_got no1 (setF_own (fun d z => by cases z) (setF_own (fun d z => by cases z) (setF_own (fun d z => by cases z) no0))) sT2 q3.rel r
end
end D
namespace D
open PySem L2 PyProof.Rows
theorem Cont.wr {C : RC} {ρ : List CellA} {A : Addr → Prop} {H : Hp} {p : Addr} : ∀ {d : DV}, Cont C ρ A H p d → ∀ o, H p = Option.some o → WR o
 | .lst _, ⟨xs, e, r⟩, o, q => by rw [e] at q; cases q; trivial
 | .dct _ _, ⟨xs, e, l, r⟩, o, q => by rw [e] at q; cases q; trivial
 | .ins _ _ _, ⟨dx, xs, e, l, r⟩, o, q => by rw [e] at q; cases q; trivial
section
variable {X : Cx} {B : BC} {W : WX} {σ : L2.St} {ρ : List CellA} {st : DS} {H : Hp} {i : Nat} {p : Addr} {d d' : DV} {o' : HO}
theorem SStep.ownW (r : Rel B ρ st σ H) (hi : st.sl[i]? = some (some (d, true))) (hσ : σ[i]? = some (some (.ref p))) (c : Cont B.C ρ (Av ρ B.O st σ) (upd H p o') p d') :
 SStep B σ ρ st H σ ρ ⟨st.sl.set i (some (d', true)), st.cs⟩ (upd H p o') := by
 obtain ⟨q, e1, c0, n1, n2, n3⟩ := r.own i d hi
 rw [hσ] at e1
 cases e1
 have hil : i < st.sl.length := (List.getElem?_eq_some_iff.mp hi).1
 have own : ∀ j a, ownAt ⟨st.sl.set i (some (d', true)), st.cs⟩ σ j a ↔ ownAt st σ j a := fun j a => by
  by_cases hj : j = i
  · subst hj
    constructor
    · rintro ⟨e, _, h2⟩
      exact ⟨d, hi, h2⟩
    · rintro ⟨e, _, h2⟩
      exact ⟨d', List.getElem?_set_self hil, h2⟩
  · have e : (st.sl.set i (some (d', true)))[j]? = st.sl[j]? := List.getElem?_set_ne (Ne.symm hj)
    constructor
    · rintro ⟨z, h1, h2⟩
      exact ⟨z, e.symm.trans h1, h2⟩
    · rintro ⟨z, h1, h2⟩
      exact ⟨z, e.trans h1, h2⟩
 have av : ∀ a, Av ρ B.O ⟨st.sl.set i (some (d', true)), st.cs⟩ σ a → Av ρ B.O st σ a := fun a z => by
  rcases z with z | z | ⟨j, z⟩
  · exact .inl z
  · exact .inr (.inl z)
  · exact .inr (.inr ⟨j, (own j a).mp z⟩)
 have mv : ∀ a, Av ρ B.O ⟨st.sl.set i (some (d', true)), st.cs⟩ σ a → Av ρ B.O st σ a ∨ H a = none := fun a z => .inl (av a z)
 have here : ownAt st σ i p := ⟨d, hi, hσ⟩
 have kp : ∀ a o, H a = some o → ¬ Av ρ B.O st σ a → NT o → upd H p o' a = some o := fun a o e n _ => by
  rw [upd_ne (fun (z : a = p) => n (by rw [z]; exact .inr (.inr ⟨i, here⟩)))]; exact e
 have dm : ∀ a, H a ≠ none → upd H p o' a ≠ none := fun a z => by
  by_cases h : a = p
  · rw [h, upd_same]; exact fun z => nomatch z
  · rw [upd_ne h]; exact z
 have kc : ∀ a, CM ρ a → upd H p o' a = H a := fun a z => upd_ne fun e => n1 (e ▸ z)
 refine ⟨List.prefix_refl _, ⟨by rw [← r.len]; simp, fun j e h => ?_, fun j e h => ?_, fun j k a h1 h2 => r.dis j k a ((own j a).mp h1) ((own k a).mp h2), fun a z => dm a (r.dom a z), fun a z => dm a (r.odom a z), ⟨r.cel.len, fun k cc x h1 h2 => ?_, r.cel.dis⟩, fun a z => dm a (r.cdom a z), tabs_write r.tabs c0.wr⟩,
  fun a o e _ n _ => by rw [upd_ne (fun (z : a = p) => n i (by rw [z]; exact here))]; exact e, mv, fun _ z => .inl z, dm⟩
 · have hj : j ≠ i := fun z => by
    subst z
    dsimp only at h
    rw [List.getElem?_set_self hil] at h; cases h
   dsimp only at h
   rw [List.getElem?_set_ne (Ne.symm hj)] at h
   obtain ⟨v, e1, q⟩ := r.fro j e h
   exact ⟨v, e1, q.mv (List.prefix_refl _) kp mv⟩
 · by_cases hj : j = i
   · subst hj
     dsimp only at h
     rw [List.getElem?_set_self hil] at h
     cases h
     exact ⟨p, hσ, c.mv (List.prefix_refl _) (fun _ _ e _ _ => e) (fun a z => .inl (av a z)) rfl, n1, n2, n3⟩
   · dsimp only at h
     rw [List.getElem?_set_ne (Ne.symm hj)] at h
     obtain ⟨q, e1, q2, m⟩ := r.own j e h
     have hqp : q ≠ p := fun z => hj (r.dis j i p (by subst z; exact ⟨e, h, e1⟩) here)
     exact ⟨q, e1, q2.mv (List.prefix_refl _) kp mv (upd_ne hqp), m⟩
 · have q := r.cel.ok k cc x h1 h2
   have cm : ∀ a, (a = cc.main ∨ a ∈ cc.more) → CM ρ a := fun a z => ⟨cc, List.mem_of_getElem? h1, z⟩
   cases x with
   | draw dd =>
    obtain ⟨g, l, e1, m1, m2, m3, a1, a2, a3⟩ := q
    exact ⟨g, l, e1, m1, m2, m3, (kc _ (cm _ (.inl rfl))).trans a1, (kc _ (cm _ (.inr (by rw [e1]; simp)))).trans a2, (kc _ (cm _ (.inr (by rw [e1]; simp)))).trans a3⟩
   | obj dd => exact ⟨q.1, q.2.mv (List.prefix_refl _) kp mv (kc _ (cm _ (.inl rfl)))⟩
   | dead => trivial
def svApp (i : Nat) (fe : Ev) : Sv := fun st => match st.sl[i]? with
 | some (some (.lst _, true)) => (fe st).bind fun a st1 => (match (st1.eat a.2).sl[i]? with
  | some (some (.lst ds, true)) => if ds.length < sizeLine then .ok .nx ⟨(st1.eat a.2).sl.set i (some (.lst (ds ++ [a.1]), true)), (st1.eat a.2).cs⟩ else .stuck
  | _ => .stuck)
 | _ => .stuck
theorem psd_append {x : Str} {e : Expr} {fe : Ev} {p1 apos cpos pos : Pos} (hK : B.C.K = X.K) (ho : PE X (.Name x p1) (tVar i)) (he : PD X B W e fe) (hbase : attributeBase (.Name x p1) "append" X.env (eval (.Name x p1) X.env) = eval (.Name x p1) X.env)
 (hfew : ((backTo cpos (starEach [e] X.env)).all (fun x => !x.1) && (backToKw cpos (keywordEach [] X.env)).all (fun x => x.1.isSome) && decide (([e] : List Expr).length + ([] : List Keyword).length + (if ([] : List Keyword).isEmpty then 0 else 1) < 30)) = true)
 (hline : (apos.endLine == cpos.line) = true) (hst : starEach [e] X.env = (false, eval e X.env) :: starEach [] X.env) (hplain : (backTo cpos (starEach [] X.env)).any (·.1) = false) (hs : swapsWith (.Call (.Attribute (.Name x p1) "append" apos) [e] [] cpos) none pos.line X.env = pure false) :
 PSD X B W (.Expr (.Call (.Attribute (.Name x p1) "append" apos) [e] [] cpos) pos) (svApp i fe) := by
 refine PS.mono (ps_expr (pe_bm PySem.F.plainAttrs_list PySem.F.slot_list_append PySem.F.type_list_append mt_append ho (pkd_cons he zqb hst) hbase hfew hline hst hplain) hs) fun D σ H ⟨ρ, st, rel, r⟩ => ?_
 unfold svApp at r
 split at r
 case h_2 => exact r.elim
 rename_i ds0 hsl
 obtain ⟨p, e1, c0, n1, n2, n3⟩ := rel.own i _ hsl
 refine ⟨.ref p, e1, ⟨?_, ?_⟩⟩
 · rw [← hK]; exact ty_lst B ρ st σ H (.view i) (.ref p) (.lst ds0) rfl rfl ⟨p, rfl, e1, c0, n1, n2, fun j oj => rel.dis j i p oj ⟨_, hsl, e1⟩, n3⟩
 · have r1 := SRes.ex0 r
   show RK B W (zqa fe zqh) σ H _
   refine ⟨ρ, st, rel, ?_⟩
   unfold zqa zqh
   cases ef : fe st with
   | stuck => rw [ef] at r; exact r.elim
   | exc x st1 => rw [ef] at r1; exact r1
   | ok a st1 =>
    rw [ef] at r1
    intro ρ1 H1 s1 vs rvs
    have r2 := r1 ρ1 H1 s1
    cases rvs with
    | cons rv rn =>
     rename_i v vs
     cases rn
     dsimp only at r2
     split at r2
     case h_2 => exact r2.elim
     rename_i ds hsl1
     split at r2
     case isFalse => exact r2.elim
     rename_i hlen
     have s2 := s1.trans (Step.eat s1.rel a.2)
     have rv2 := rv.eat
     have hsl2 : (st1.eat a.2).sl[i]? = some (some (.lst ds, true)) := hsl1
     obtain ⟨p', e1', c1, _⟩ := s2.rel.own i _ hsl2
     rw [e1] at e1'
     cases e1'
     obtain ⟨xs, ex, rx⟩ := (c1 : ∃ xs, H1 p = some (.lst xs) ∧ _)
     refine ⟨p, xs, v, rfl, rfl, ex, by rw [rx.length]; exact hlen, ?_⟩
     have here : Av ρ1 B.O (st1.eat a.2) σ p := .inr (.inr ⟨i, _, hsl2, e1⟩)
     have kp : ∀ b o, H1 b = some o → ¬ Av ρ1 B.O (st1.eat a.2) σ b → NT o → upd H1 p (.lst (xs ++ [v])) b = some o := fun b o e n _ => by
      rw [upd_ne (fun (z : b = p) => n (by rw [z]; exact here))]; exact e
     have cc : Cont B.C ρ1 (Av ρ1 B.O (st1.eat a.2) σ) (upd H1 p (.lst (xs ++ [v]))) p (.lst (ds ++ [a.1])) :=
      ⟨xs ++ [v], upd_same, (rx.append (.cons rv2 .nil)).mv (List.prefix_refl _) kp fun b z => .inl z⟩
     exact r2 _ _ _ ((SStep.of s2).trans (SStep.ownW s2.rel hsl2 e1 cc))
theorem RepK.flat4 {kd : Kd} {v : V} {a : DV} (h : D.flat4 a = true) (r : RepK B ρ st σ H kd v a) : v = flatV' a := RepK.flat (flat_of4 h) r
def evCls (k : Nat) : Ev := fun st => .ok (.cls k, .fro) st
theorem pd_cls {k : Nat} {x : Str} {pos : Pos} (hm : X.mg x = some (.ref (B.C.cls k))) (hg : Gl X x) (hd : (x == ("__debug__" : Str)) = false) : PD X B W (.Name x pos) (evCls k) :=
 PE.mono (pe_glob hg hm (v := .ref (B.C.cls k)) rfl hd) fun σ H Q ⟨ρ, st, rel, r⟩ => Res.now rel r _ (.cls k) trivial
theorem psd_raiseOwn {ct : CT} {k : Nat} {x : Str} {m : Str} {j : Nat} {p1 p2 p3 pos : Pos} (hC : B.C.K = X.K) (kc : KitC B.C ct) (hk : k ∈ ct.pl) (hc : X.calm = true) (tk : Takes X W) (hm : X.mg x = some (.ref (B.C.cls k))) (hg : Gl X x) (hd : (x == ("__debug__" : Str)) = false) :
 PSD X B W (.Raise (some (.Call (.Name x p1) [.Constant (.str m) j p2] [] p3)) none pos) (zqI k) := by
 obtain ⟨h1, h2⟩ := kc.xq k hk
 have h3 := kc.xk k h1
 have h4 := kc.xb k h1
 have h5 := kc.xt k h1
 rw [hC] at h2 h3 h4 h5
 exact psd_raise hc tk (pmk_own PySem.F.excBase_ValueError h2 hm h3 (raises_own h4 h5) hg hd)
end
end D
namespace D
open PySem L2 PyProof.Rows LamX
section
variable {X : Cx} {C : RC} {ct : CT} {O : Addr → Prop} {H0 : Hp} {W : WX} {k : Nat} {a b c e : Expr} {es rest body : List Expr} {fa fb fc fe : Ev} {f g : Sv} {gk : Ak} {pos p p1 p2 p3 apos cpos tpos : Pos} {x y n m : Str} {i j kk : Nat}
theorem Fx.tr (fx : Fx X C W k) {W' : WX} {pn : List (Addr × Obj)} {xe : Value → Shared → Prop} (tk : Takes (X.tr pn xe) W') : Fx (X.tr pn xe) C W' k := ⟨fx.K, fx.calm, fx.room, fx.gu, tk⟩
theorem Fx.down {l : Nat} (fx : Fx X C W k) (h : l ≤ k) : Fx X C W l := ⟨fx.K, fx.calm, fx.room.mono h, fx.gu, fx.tk⟩
theorem w_cls (j : Nat) (hm : X.mg x = some (.ref (C.cls j))) (hg : Gl X x := by rfl) (hd : (x == ("__debug__" : Str)) = false := by decide) : PD X ⟨C, O, H0⟩ W (.Name x pos) (evCls j) := pd_cls (B := ⟨C, O, H0⟩) hm hg hd
theorem w_fld (fx : Fx X C W k) (kc : KitC C ct) (he : PD X ⟨C, O, H0⟩ W e fe) (hb : attributeBase e n X.env (eval e X.env) = eval e X.env := by rfl) : PD X ⟨C, O, H0⟩ W (.Attribute e n pos) (evFld ct n fe) := pd_fld (B := ⟨C, O, H0⟩) fx.K kc he hb
theorem ws_append (i : Nat) (fx : Fx X C W k) (he : PD X ⟨C, O, H0⟩ W e fe) (hN : X.N[i]? = some x := by rfl) (hv : Vis X.env.scope x := by first | exact Or.inl rfl | exact Or.inr (Or.inl rfl) | exact Or.inr (Or.inr rfl)) (hd : (x == ("__debug__" : Str)) = false := by decide) (hcd : (x == ("__classdict__" : Str)) = false := by decide)
 (hbase : attributeBase (.Name x p1) "append" X.env (eval (.Name x p1) X.env) = eval (.Name x p1) X.env := by rfl)
 (hfew : ((backTo cpos (starEach [e] X.env)).all (fun x => !x.1) && (backToKw cpos (keywordEach [] X.env)).all (fun x => x.1.isSome) && decide (([e] : List Expr).length + ([] : List Keyword).length + (if ([] : List Keyword).isEmpty then 0 else 1) < 30)) = true := by rfl)
 (hline : (apos.endLine == cpos.line) = true := by rfl) (hst : starEach [e] X.env = (false, eval e X.env) :: starEach [] X.env := by rfl) (hplain : (backTo cpos (starEach [] X.env)).any (·.1) = false := by rfl) (hs : swapsWith (.Call (.Attribute (.Name x p1) "append" apos) [e] [] cpos) none pos.line X.env = pure false := by rfl) :
 PSD X ⟨C, O, H0⟩ W (.Expr (.Call (.Attribute (.Name x p1) "append" apos) [e] [] cpos) pos) (svApp i fe) :=
 psd_append (B := ⟨C, O, H0⟩) fx.K (pe_var hN hv hd hcd) he hbase hfew hline hst hplain hs
theorem ws_raise (fx : Fx X C W k) (kc : KitC C ct) (j : Nat) (hm : X.mg x = some (.ref (C.cls j))) (hk : j ∈ ct.pl := by decide) (hg : Gl X x := by rfl) (hd : (x == ("__debug__" : Str)) = false := by decide) :
 PSD X ⟨C, O, H0⟩ W (.Raise (some (.Call (.Name x p1) [.Constant (.str m) kk p2] [] p3)) none pos) (zqI j) := psd_raiseOwn (B := ⟨C, O, H0⟩) fx.K kc hk fx.calm fx.tk hm hg hd
theorem ws_expr (he : PD X ⟨C, O, H0⟩ W e fe) (hs : swapsWith e none pos.line X.env = pure false := by rfl) : PSD X ⟨C, O, H0⟩ W (.Expr e pos) (svExpr fe) := psd_expr he hs
theorem fromC {W : WX} {e : Expr} {fe : Ev} (h : ∀ O H0, PD X ⟨C, O, H0⟩ W e fe) : ∀ B' : BC, B'.C = C → PD X B' W e fe := fun B' hB => by
 cases B' with
 | mk C' O' H' =>
  have hB : C' = C := hB
  subst hB
  exact h O' H'
theorem ws_par {px py pt pt2 : Pos} {k1 k2 : Nat} (i j : Nat) (fx : Fx X C W k) (hN : X.N.Nodup) (ha : ∀ O H0, PD X ⟨C, O, H0⟩ W a fa) (hb : ∀ O H0, PD X ⟨C, O, H0⟩ W b fb) (hi : X.N[i]? = some x := by rfl) (hj : X.N[j]? = some y := by rfl) (hij : i ≠ j := by decide)
 (hx : X.env.scope.names.lookup x = some .local := by rfl) (hy : X.env.scope.names.lookup y = some .local := by rfl) (hsa : starEach [a, b] X.env = (false, eval a X.env) :: starEach [b] X.env := by rfl) (hsb : starEach [b] X.env = (false, eval b X.env) :: starEach [] X.env := by rfl)
 (hw : swappedStores [.Tuple [.Name x px, .Name y py] k1 pt] (.Tuple [a, b] k2 pt2) X.env = pure (some [x, y]) := by rfl) (hs : swapsWithSole [.Tuple [.Name x px, .Name y py] k1 pt] (.Tuple [a, b] k2 pt2) pos.line X.env = pure false := by rfl) :
 PSD X ⟨C, O, H0⟩ W (.Assign [.Tuple [.Name x px, .Name y py] k1 pt] (.Tuple [a, b] k2 pt2) pos) (svThen (svPar i fa (svPar j fb svNx))) :=
 psd_par (B := ⟨C, O, H0⟩) fx.calm hN hi hj hij hx hy (fromC ha) (fromC hb) hsa hsb hw hs
theorem ws_asg {tg : Expr} {vs : List Nat} {gv : Gv} (he : PD X ⟨C, O, H0⟩ W e fe) (hg : PGD X C vs tg gv) (hs : swapsWithSole [tg] e pos.line X.env = pure false := by rfl) (hw : swappedStores [tg] e X.env = pure none := by rfl) (h1 : (assignEach [tg] X.env).map (·.2) = [assign tg X.env] := by rfl) :
 PSD X ⟨C, O, H0⟩ W (.Assign [tg] e pos) (svAsg fe gv) := psd_asg (B := ⟨C, O, H0⟩) he hg hs hw h1
theorem w_gets {L : LamD} {st : Stmt} {gg : Addr} {cdg : Value} {N : List Str} {q c e kn : Str} {rest : List Stmt} {kk : Nat} {q1 q2 q3 q4 q5 q6 q7 q8 q9 q10 q11 q12 : Pos} (fx : Fx X C W k) (l : Nat) (Sg : FnScope N [n] (defScope st)) (hm : X.mg kn = some (.ref (C.cls L.kx)))
 (hst : defBody st = .Assign [.Name c q2] (.Constant .none kk q1) q3 :: .Try [.Expr (.Call (.Name n q4) [] [] q5) q6] [.ExceptHandler (some (.Name kn q10)) (some e) [.Assign [.Name c q8] (.Name e q7) q9] q11] [] [] q12 :: rest)
 (hrest : ∀ (s : Shared) (H : Hp) (O : Addr → Prop), Fx (gotCx X N x (defScope st) gg cdg s H) C WF l → PSsD (gotCx X N x (defScope st) gg cdg s H) ⟨C, O, H⟩ WF rest L.rest)
 (h0 : N[0]? = some n := by rfl) (hjc : N[L.jc]? = some c := by rfl) (hje : N[L.je]? = some e := by rfl) (hne : L.jc ≠ 0 := by decide) (hle : (defScope st).names.lookup e = some .local := by rfl) (hlc : (defScope st).names.lookup c = some .local := by rfl) (hk : (defScope st).names.lookup kn = some .globalImplicit := by rfl) (hdk : (kn == ("__debug__" : Str)) = false := by decide)
 (hde : (e == ("__debug__" : Str)) = false := by decide) (hce : (e == ("__classdict__" : Str)) = false := by decide) (hkind : (defScope st).kind = .function := by rfl)
 (s1 : ∀ s H, swapsWith (.Constant .none kk q1) (some (.Name c q2)) q3.line (gotCx X N x (defScope st) gg cdg s H).env = pure false := by intros; rfl)
 (s2 : ∀ s H pn xe, swapsWith (.Call (.Name n q4) [] [] q5) none q6.line ((gotCx X N x (defScope st) gg cdg s H).tr pn xe).env = pure false := by intros; rfl)
 (s3 : ∀ s H aa pn, swapsWith (.Name e q7) (some (.Name c q8)) q9.line ((gotCx X N x (defScope st) gg cdg s H).suite aa pn).env = pure false := by intros; rfl) :
 Gets X l N x (defScope st) gg cdg (defBody st) n q (TTL C L N) := by
 rw [hst]
 exact gets_of fx.K fx.gu Sg.nd h0 hjc hje hne hle hlc hk hm hdk hde hce hkind (fun s H O hr => hrest s H O ⟨fx.K, rfl, hr, by rw [← fx.gu]; rfl, takesF⟩) s1 s2 s3
end
end D
namespace D
open PySem L2 PyProof.Rows LamX
section
variable {K : PySem.W.Frag}
def clsOf (l : List (Nat × Addr)) : Nat → Addr := fun k => (l.lookup k).getD 0
theorem tabIn_of {x : Str} {f c P : Addr} {oc o2 : Value} {od d2 : Option Addr} {fd : FuncData} {sl s2 : Array (Option Value)} {vs : Array Value} (a : PySem.W.nsIn K mainGlobals x = some (some (.ref f))) (l : K.lookup f = some ⟨oc, od, .func fd, sl⟩) (hc : fd.code = .ref c)
 (lc : K.lookup c = some ⟨o2, d2, .fields vs, s2⟩) (hp : vs[11]? = some (.ref P)) : PySem.W.tabIn K x = some (c, P) := by
 unfold PySem.W.tabIn
 rw [a]
 dsimp only
 rw [l]
 dsimp only
 rw [hc]
 dsimp only
 rw [lc]
 dsimp only
 rw [hp]
def oneB (K : PySem.W.Frag) (ct : CT) (c : Nat) (C : Addr) : Bool :=
 decide (PySem.W.findIn K (.ref C) "__class__" = some (some (.builtin "object.__class__"))) && (decide (PySem.W.mroIn K C (.type "object") = some true) &&
 (kinds.all (fun T => decide (PySem.W.kitOne K (.type T) (.ref C) = some false)) && tested.all fun T => decide (PySem.W.kitOne K (.ref C) (.type T) = some (decide (T = "ValueError") && ct.ex.contains c))))
def excB (K : PySem.W.Frag) (C : Addr) : Bool :=
 (PySem.W.clsIn K C).isSome && (decide (PySem.W.findIn K (.ref C) "__getattribute__" = some (some (.builtin "BaseException.__getattribute__"))) && (decide (PySem.W.findIn K (.ref C) "__getattr__" = some none) && (decide (PySem.W.subIn K (.ref C) (.type "BaseException") = some true) &&
 (PySem.W.hasDictIn K C && (decide (PySem.W.typeIn K (.ref C) = some (.type "type")) && PySem.W.keepIn K (.ref C))))))
def kitCB (K : PySem.W.Frag) (cls : Nat → Addr) (ct : CT) : Bool :=
 decide (PySem.W.specialIn K (.builtin "object.__class__") "__get__" = some (some (.builtin "getset_descriptor.__get__"))) && (decide (PySem.W.takesIn K (.builtin "object.__class__") = some true) &&
 ((ct.ins ++ ct.ex).all (fun c => oneB K ct c (cls c)) && (ct.ex.all (fun c => excB K (cls c)) &&
 (ct.ins.all (fun c => ct.ins.all fun c' => decide (PySem.W.kitOne K (.ref (cls c)) (.ref (cls c')) = some (decide (c = c')))) && (ct.ins.all (fun c => ct.ex.all fun c' => decide (PySem.W.kitOne K (.ref (cls c)) (.ref (cls c')) = some false)) &&
 (ct.ex.all (fun c => ct.ins.all fun c' => decide (PySem.W.kitOne K (.ref (cls c)) (.ref (cls c')) = some false)) && (ct.ex.all (fun c => ct.ex.all fun c' => decide (PySem.W.kitOne K (.ref (cls c)) (.ref (cls c')) = some (ct.sub c c')) && decide (PySem.W.exmOne K (.ref (cls c)) (.ref (cls c')) = some (ct.sub c c'))) &&
 (ct.pl.all (fun c => ct.ex.contains c && PySem.W.excIn K (cls c) [.type "ValueError", .type "Exception", .type "BaseException", .type "object"] "ValueError.__new__") && ct.fe.all fun p => ct.ex.contains p.1 && decide (PySem.W.findIn K (.ref (cls p.1)) p.2 = some none)))))))))
theorem kitCB_ok {cls : Nat → Addr} {ct : CT} {T : List (Addr × Str)} (h : kitCB K cls ct = true) (hc : ∀ c ∈ ct.ins, Cls K (cls c)) (hf : ∀ p ∈ ct.fi, p.1 ∈ ct.ins ∧ NoAttr K (cls p.1) p.2) : KitC ⟨K, cls, T⟩ ct := by
 unfold kitCB oneB excB at h
 simp only [Bool.and_eq_true, List.all_eq_true, decide_eq_true_eq, List.contains_iff_mem] at h
 obtain ⟨h1, h2, h3, h4, h5, h6, h7, h8, h9, h10⟩ := h
 exact {
  cls := hc, nf := hf,
  ha := fun c m => (h3 c m).1, hn := fun _ _ => h1, tk := fun _ _ => h2, mr := fun c m => (h3 c m).2.1, tc := fun c m => (h3 c m).2.2.1, tt := fun c m => (h3 c m).2.2.2,
  cc := h5, ce := h6, ec := h7, ee := fun c m c' m' => (h8 c m c' m').1, ek := fun c m c' m' => (h8 c m c' m').2,
  xs := fun c m => (h4 c m).1, xa := fun c m => (h4 c m).2.1, xg := fun c m => (h4 c m).2.2.1, xb := fun c m => (h4 c m).2.2.2.1, xd := fun c m => (h4 c m).2.2.2.2.1, xt := fun c m => (h4 c m).2.2.2.2.2.1, xk := fun c m => (h4 c m).2.2.2.2.2.2,
  xq := h9, nx := h10 }
end
end D
namespace D
open PySem L2 PyProof.Rows
def flatOf : Value → Option (V × DV)
 | .int i _ => some (.int i, .int i)
 | .str s _ => some (.str s, .str s)
 | _ => none
def flatsOf : List Value → Option (List V × List DV)
 | [] => some ([], [])
 | v :: vs => match flatOf v, flatsOf vs with | some (a, d), some (as, ds) => some (a :: as, d :: ds) | _, _ => none
theorem flatOf_ok {C : RC} {ρ : List CellA} {A : Addr → Prop} {H : Hp} {v : Value} {a : V} {d : DV} (h : flatOf v = some (a, d)) : RelV a v ∧ Rep C ρ A H a d := by
 cases v <;> simp only [flatOf, Option.some.injEq, Prod.mk.injEq] at h <;> first
  | (obtain ⟨rfl, rfl⟩ := h; exact ⟨⟨_, rfl⟩, .int _⟩)
  | (obtain ⟨rfl, rfl⟩ := h; exact ⟨⟨_, rfl⟩, .str _⟩)
  | cases h
theorem flatsOf_ok {C : RC} {ρ : List CellA} {A : Addr → Prop} {H : Hp} : ∀ {vs : List Value} {as : List V} {ds : List DV}, flatsOf vs = some (as, ds) → Vals as vs ∧ RepL C ρ A H as ds
 | [], _, _, h => by cases h; exact ⟨.nil, .nil⟩
 | v :: vs, as, ds, h => by
  unfold flatsOf at h
  cases e1 : flatOf v with
  | none => rw [e1] at h; cases h
  | some p =>
   cases e2 : flatsOf vs with
   | none => rw [e1, e2] at h; cases h
   | some q =>
    obtain ⟨a, d⟩ := p
    obtain ⟨as', ds'⟩ := q
    rw [e1, e2] at h
    cases h
    have h1 := flatOf_ok (C := C) (ρ := ρ) (A := A) (H := H) e1
    have h2 := flatsOf_ok (C := C) (ρ := ρ) (A := A) (H := H) e2
    exact ⟨.cons h1.1 h2.1, .cons h1.2 h2.2⟩
def tupIn (K : PySem.W.Frag) (a : Addr) : Option (List DV) := match K.lookup a with
 | some ⟨.type t, _, .seq its _, _⟩ => if t = "tuple" ∧ its.size ≤ sizeLine then (flatsOf its.toList).map (·.2) else none
 | _ => none
theorem tupIn_ok {C : RC} {ρ : List CellA} {A : Addr → Prop} {H : Hp} {a : Addr} {ds : List DV} (h : tupIn C.K a = some ds) : Rep C ρ A H (.ref a) (.tup ds) := by
 unfold tupIn at h
 split at h
 · rename_i t x its n y e
   split at h
   · rename_i hc
     obtain ⟨rfl, hs⟩ := hc
     cases e2 : flatsOf its.toList with
     | none => rw [e2] at h; cases h
     | some p =>
      obtain ⟨as, ds'⟩ := p
      rw [e2] at h
      cases h
      have h2 := flatsOf_ok (C := C) (ρ := ρ) (A := A) (H := H) e2
      exact .ktup ⟨_, its, n, e, rfl, rfl, hs, h2.1⟩ h2.2
   · cases h
 · cases h
def evG (d : DV) : Ev := fun st => .ok (d, .fro) st
section
variable {X : Cx} {C : RC} {W : WX} {O : Addr → Prop} {H0 : Hp} {x : Str} {pos : Pos} {ds : List DV}
theorem w_gtup (hm : ∃ a, X.mg x = some (.ref a) ∧ tupIn C.K a = some ds) (hg : Gl X x := by rfl) (hd : (x == ("__debug__" : Str)) = false := by decide) : PD X ⟨C, O, H0⟩ W (.Name x pos) (evG (.tup ds)) := by
 obtain ⟨a, h, ht⟩ := hm
 exact PE.mono (pe_glob hg h (v := .ref a) rfl hd) fun σ H Q ⟨ρ, st, rel, r⟩ => Res.now rel r _ (tupIn_ok ht) trivial
end
end D
namespace D
open PySem L2 PyProof.Rows
section
variable {X : Cx} {B : BC} {W : WX} {i : Nat}
def svSetIx (i : Nat) (fi fe : Ev) : Sv := fun st => match st.sl[i]? with
 | some (some (.lst _, true)) => (fe st).bind fun a st1 => (fi (st1.eat a.2)).bind fun j st2 => (match st2.sl[i]?, j.1 with
  | some (some (.lst ds, true)), .int k => (match ixN ds.length k with | some m => .ok .nx ⟨st2.sl.set i (some (.lst (ds.set m a.1), true)), st2.cs⟩ | none => .stuck)
  | _, _ => .stuck)
 | _ => .stuck
end
section
variable {X : Cx} {C : RC} {W : WX} {O : Addr → Prop} {H0 : Hp} {x : Str} {pos p1 p2 : Pos} {e ie : Expr} {fe fi : Ev}
end
end D
namespace D
open PySem L2 PyProof.Rows
instance {a b : Int} : Decidable (RgOk a b) := by unfold RgOk; infer_instance
def evLR1 (fa : Ev) : Ev := fun st => (fa st).bind fun a st1 => match a.1 with
 | .int j => if RgOk 0 j then .ok (.lst (rangeL 0 (j - 0).toNat), .new) st1 else .stuck
 | _ => .stuck
def evLR2 (fa fb : Ev) : Ev := fun st => (fa st).bind fun a st1 => (fb st1).bind fun b st2 => match a.1, b.1 with
 | .int i, .int j => if RgOk i j then .ok (.lst (rangeL i (j - i).toNat), .new) st2 else .stuck
 | _, _ => .stuck
section
variable {X : Cx} {B : BC} {W : WX} {a b : Expr} {fa fb : Ev} {p q pos pos' : Pos}
end
section
variable {X : Cx} {C : RC} {O : Addr → Prop} {H0 : Hp} {W : WX} {k : Nat} {a b : Expr} {fa fb : Ev} {p q pos pos' : Pos}
end
section
variable {C : RC}
end
section
variable {X : Cx} {C : RC} {O : Addr → Prop} {H0 : Hp} {W : WX} {k : Nat} {a e : Expr} {fa : Ev} {gk : Ak} {apos cpos : Pos}
end
def permL {α : Type} : List Nat → List α → Option (List α)
 | [], _ => some []
 | i :: π, as => match as[i]?, permL π as with
  | some a, some r => some (a :: r)
  | _, _ => none
def permK {α : Type} (π : List Nat) (as : List α) : Option (List α) := if as.length = π.length then permL π as else none
def akPerm (π : List Nat) (g : Ak) : Ak := fun st => (g st).bind fun as st1 => match permK π as with
 | some bs => .ok bs st1
 | none => .stuck
def permD {α : Type} (π : List Nat) (as : List α) : List α := (permL π as).getD []
theorem permL_rep {B : BC} {ρ : List CellA} {st : DS} {σ : L2.St} {H : Hp} {xs : List V} {as : List (DV × Kd)} (r : RepKs B ρ st σ H xs as) : ∀ {π : List Nat} {bs : List (DV × Kd)}, permL π as = some bs → ∃ ys, permL π xs = some ys ∧ RepKs B ρ st σ H ys bs := by
 have get : ∀ {xs : List V} {as : List (DV × Kd)} {i : Nat} {a : DV × Kd}, RepKs B ρ st σ H xs as → as[i]? = some a → ∃ x, xs[i]? = some x ∧ RepK B ρ st σ H a.2 x a.1 := fun {xs as i a} r => by
  induction r generalizing i with
  | nil => intro e; simp at e
  | cons h t ih =>
   intro e
   cases i with
   | zero => simp at e; subst e; exact ⟨_, rfl, h⟩
   | succ i =>
    obtain ⟨x, e1, e2⟩ := ih (by simpa using e)
    exact ⟨x, by simpa using e1, e2⟩
 intro π
 induction π with
 | nil => intro bs e; cases e; exact ⟨[], rfl, .nil⟩
 | cons i π ih =>
  intro bs e
  unfold permL at e
  split at e
  case h_2 => cases e
  rename_i a r' e1 e2
  cases e
  obtain ⟨x, e3, rx⟩ := get r e1
  obtain ⟨ys, e4, ry⟩ := ih e2
  refine ⟨x :: ys, ?_, .cons rx ry⟩
  unfold permL
  rw [e3, e4]
theorem vals_perm {π : List Nat} {xs : List V} {us : List Value} (r : Vals xs us) : Vals (permD π xs) (permD π us) := by
 have get1 : ∀ {xs : List V} {us : List Value}, Vals xs us → ∀ i : Nat, (xs[i]? = none ∧ us[i]? = none) ∨ ∃ x u, xs[i]? = some x ∧ us[i]? = some u ∧ RelV x u := fun {xs us} r => by
  induction r with
  | nil => intro i; exact .inl ⟨by simp, by simp⟩
  | cons h t ih =>
   intro i
   cases i with
   | zero => exact .inr ⟨_, _, rfl, rfl, h⟩
   | succ i => simpa using ih i
 have key : (permL π xs = none ∧ permL π us = none) ∨ ∃ ys ws, permL π xs = some ys ∧ permL π us = some ws ∧ Vals ys ws := by
  induction π with
  | nil => exact .inr ⟨[], [], rfl, rfl, .nil⟩
  | cons i π ih =>
   rcases get1 r i with ⟨e1, e2⟩ | ⟨x, u, e1, e2, ru⟩
   · exact .inl ⟨by unfold permL; rw [e1], by unfold permL; rw [e2]⟩
   · rcases ih with ⟨e3, e4⟩ | ⟨ys, ws, e3, e4, rw'⟩
     · exact .inl ⟨by unfold permL; rw [e1, e3], by unfold permL; rw [e2, e4]⟩
     · exact .inr ⟨x :: ys, u :: ws, by unfold permL; rw [e1, e3], by unfold permL; rw [e2, e4], .cons ru rw'⟩
 unfold permD
 rcases key with ⟨e3, e4⟩ | ⟨ys, ws, e3, e4, rw'⟩
 · rw [e3, e4]; exact .nil
 · rw [e3, e4]; exact rw'
theorem PK.mono {X : Cx} {e : List Keyword} {t t' : TA} (h : PK X e t) (m : ∀ σ H Q, t' σ H Q → t σ H Q) : PK X e t' := ⟨fun pos pins s σ H Q I r => h.run pos pins s σ H Q I (m _ _ _ r)⟩
def PWKD (X : Cx) (B : BC) (W : WX) (kws : List Keyword) (f : Ak) : Prop := PK X kws (RK B W f)
section
variable {X : Cx} {B : BC} {W : WX} {e : Expr} {kws : List Keyword} {f : Ev} {g : Ak} {pos kpos : Pos} {nm : Option Str}
theorem pwkd_nil : PWKD X B W [] zqh := PK.mono pk_nil fun σ H Q ⟨ρ, st, rel, res⟩ => Res.now rel res [] .nil
theorem pwkd_cons (he : PD X B W e f) (hr : PWKD X B W kws g) : PWKD X B W (⟨nm, e, kpos⟩ :: kws) (zqa f g) := by
 refine PK.mono (pk_cons he hr) fun σ H Q ⟨ρ, st, rel, res⟩ => ?_
 refine RD.go rel (Res.bind res) fun a st1 ρ1 H1 s1 r1 x rx fx => ?_
 refine RK.go s1.rel (Res.bind r1) fun as st3 ρ3 H3 s3 r3 vs rv => ?_
 exact Res.now s3.rel r3 (x :: vs) (.cons (RepK.step s3 rx) rv)
end
structure KwB (K : PySem.W.Frag) (fd : FuncData) (ps ks : List Str) (π : List Nat) : Prop where
 to : ∀ (s : Shared) (ws : List Value), K.In s.heap → ws.length = ks.length → BindsTo s fd ⟨[], ks.zip ws⟩ (ps.zip (permD π ws))
section
variable {X : Cx} {B : BC} {W : WX} {F : Fn} {g : Ak} {k : Nat} {f : Addr} {fd : FuncData} {ps ks : List Str} {π : List Nat} {x : Str} {p pos : Pos} {kws : List Keyword} {sp : Sp} {E : L2.St → XK} {t : TA}
def tCallW (π : List Nat) (n : Nat) (sp : Sp) (E : L2.St → XK) (t : TA) : TE := fun σ H Q => t σ H fun vs H1 => vs.length = n ∧ sp (permD π vs) H1 Q (E σ)
theorem pe_callW (F : FnG X.prog X.w X.K X.mg X.base k f fd ps sp) (hr : Room k X.A) (hgu : X.A.guards = some []) (hg : Gl X x) (hm : X.mg x = some (.ref f)) (hk : PySem.W.keepIn X.K (.ref f) = true) (hb : KwB X.K fd ps ks π) (hx : ∀ σ, PassesAt (L2.CX X.prog X.w) X σ (E σ))
 (hkw : PK X kws t) (hall : (backToKw pos (keywordEach kws X.env)).all (·.1.isSome) = true) (hks : (backToKw pos (keywordEach kws X.env)).filterMap (·.1) = ks)
 (hdb : (x == ("__debug__" : Str)) = false) (hpl : ((backTo pos (starEach [] X.env)).any (·.1) || (backToKw pos (keywordEach kws X.env)).any (·.1.isNone)) = false) :
 PE X (.Call (.Name x p) [] kws pos) (tCallW π ks.length sp E t) := by
 refine ⟨fun pins s σ H Q I h => ?_⟩
 refine wpAny_Call_Name_kw (ld_glob I hg hm ?_ hdb)
 refine PySem.W.callWith_KW0 (h₀ := X.base) I.ok.mod.kin hk hall (thn (hkw.run pos pins s σ H _ I h) fun ws s2 ⟨zs, H2, I2, rz, hl, q2⟩ => ⟨I2.kIn, ?_⟩) hpl
 rw [hks]
 have r2 : Vals (permD π zs) (permD π ws) := vals_perm rz
 have l2 : ws.length = ks.length := rz.length.symm.trans hl
 refine wpAny_call (codeAny_mono (F.run X.A X.stack s2 H2 ⟨[], ks.zip ws⟩ (permD π ws) (permD π zs) Q (E σ) hr hgu I2.env0 (hb.to s2 ws I2.kIn l2) r2 q2) fun r s' hq => ?_)
 cases r with
 | error e => exact hx σ pins H2 s2 e s' I2 hq
 | ok fl =>
  cases fl with
  | ret u => exact I2.after hq
  | next => exact False.elim hq
  | brk => exact False.elim hq
  | cont => exact False.elim hq
theorem tCallW_of {σ : L2.St} {H : Hp} {Q : VK} (h : RD B W (zqr F (akPerm π g)) σ H Q) : tCallW π π.length (SpF B.C F) (WE W) (RK B W g) σ H Q := by
 obtain ⟨ρ, st, rel, res⟩ := h
 have res' : Res B W σ ρ st H ((g st).bind fun as st1 => match permK π as with
  | some bs => backTo' st1.sl bs (F (bs.map (·.1)) ⟨[], st1.cs⟩)
  | none => .stuck) (GE B σ H Q) := by
  unfold zqr akPerm at res
  cases e : g st with
  | ok a st1 =>
   rw [e] at res
   have res : Res B W σ ρ st H (Out.bind (match permK π a with | some bs => Out.ok bs st1 | none => .stuck) fun (as : List (DV × Kd)) (st1 : DS) => backTo' st1.sl as (F (as.map fun z : DV × Kd => z.1) ⟨[], st1.cs⟩)) (GE B σ H Q) := res
   show Res B W σ ρ st H (match permK π a with | some bs => backTo' st1.sl bs (F (bs.map (·.1)) ⟨[], st1.cs⟩) | none => .stuck) (GE B σ H Q)
   cases e2 : permK π a with
   | none => rw [e2] at res; exact res
   | some bs => rw [e2] at res; exact res
  | exc x st1 => rw [e] at res; exact res
  | stuck => rw [e] at res; exact res
 refine RK.go rel (Res.bind res') fun as st1 ρ1 H1 s1 r1 vs rv => ?_
 cases e2 : permK π as with
 | none => rw [e2] at r1; exact r1.elim
 | some bs =>
  rw [e2] at r1
  unfold permK at e2
  split at e2
  case isFalse => cases e2
  rename_i hl
  obtain ⟨ys, e3, ry⟩ := permL_rep rv e2
  have q := spF_of s1.rel ry (r1.imp fun _ _ _ _ _ => GE.dm s1.dm _ _ _ _)
  have e4 : permD π vs = ys := by unfold permD; rw [e3]; rfl
  rw [e4]
  refine ⟨?_, q⟩
  have len : ∀ {xs : List V} {as : List (DV × Kd)}, RepKs B ρ1 st1 σ H1 xs as → xs.length = as.length := fun {xs as} r => by
   induction r with
   | nil => rfl
   | cons _ _ ih => simp [ih]
  rw [len rv, hl]
end
section
variable {X : Cx} {C : RC} {O : Addr → Prop} {H0 : Hp} {W : WX} {F : Fn} {gk : Ak} {k l : Nat} {fa : Addr} {fd : FuncData} {ps : List Str} {x : Str} {p pos : Pos} {kws : List Keyword}
theorem w_fnW (π : List Nat) (ks : List Str) (fx : Fx X C W k) (Fk : FnG X.prog X.w X.K X.mg X.base l fa fd ps (SpF C F)) (hm : X.mg x = some (.ref fa)) (hk : PySem.W.keepIn X.K (.ref fa) = true) (hb : KwB X.K fd ps ks π)
 (ha : PWKD X ⟨C, O, H0⟩ W kws gk) (hl : l ≤ k := by decide) (hkl : π.length = ks.length := by rfl) (hg : Gl X x := by rfl) (hall : (backToKw pos (keywordEach kws X.env)).all (·.1.isSome) = true := by rfl) (hks : (backToKw pos (keywordEach kws X.env)).filterMap (·.1) = ks := by rfl)
 (hdb : (x == ("__debug__" : Str)) = false := by decide) (hpl : ((backTo pos (starEach [] X.env)).any (·.1) || (backToKw pos (keywordEach kws X.env)).any (·.1.isNone)) = false := by rfl) :
 PD X ⟨C, O, H0⟩ W (.Call (.Name x p) [] kws pos) (evN (zqr F (akPerm π gk))) :=
 pd_n (PE.mono (pe_callW (E := WE W) (π := π) (ks := ks) Fk (fx.room.mono hl) fx.gu hg hm hk hb (passAt fx.tk) ha hall hks hdb hpl) fun _ _ _ h => by rw [← hkl]; exact tCallW_of (B := ⟨C, O, H0⟩) h)
end
theorem fun_kwb {K : PySem.W.Frag} {x qual : Str} {st : Stmt} {f : Addr} {fd : FuncData} {ps ks : List Str} {π : List Nat} (F : Fun K x qual st f fd)
 (h : ∀ (kV doc pm : Value) (an : Option Addr) (cdv ct : Value) (ws : List Value), ws.length = ks.length → bindArgs (PySem.W.fnOf x qual (defArgs st) (defBody st) (defScope st) .none kV doc pm an cdv ct) ⟨[], ks.zip ws⟩ = pure (ps.zip (permD π ws))) : KwB K fd ps ks π := by
 obtain ⟨oc, od, kV, doc, pm, an, cdv, ct, osl, rfl, lk, hcd⟩ := F.ex
 exact ⟨fun s ws _ hl => .of_eq (h kV doc pm an cdv ct ws hl)⟩
theorem w_zip {X : Cx} {C : RC} {O : Addr → Prop} {H0 : Hp} {W : WX} {k kk : Nat} {elts : List Expr} {a b : Expr} {p pos tpos : Pos} {gk : Ak} (fx : Fx X C W k) (hm : X.mg "zip" = none) (ha : PKD X ⟨C, O, H0⟩ W [a, b] gk) (hg : Gl X "zip" := by rfl) (hs : starEach [a, b] X.env = (false, eval a X.env) :: starEach [b] X.env := by rfl) (hpl : (backTo pos (starEach [b] X.env)).any (·.1) = false := by rfl) :
 PID X ⟨C, O, H0⟩ W (.Tuple elts kk tpos) (.Call (.Name "zip" p) [a, b] [] pos) (ivZip gk) := pid_zip (B := ⟨C, O, H0⟩) fx.K hg hm ha hs hpl
end D
namespace D
open PySem PySem.Spec PyProof.Rows L2 Sem
open AutoSeq1 (wpAny_loadPart')
section
variable {prog : Program} {w : World} {A : Around} {E : Value → Shared → Prop} {s : Shared}
end
theorem PI.or {X : Cx} {tg e : Expr} {t t' : TI} (h : PI X tg e t) (h' : PI X tg e t') : PI X tg e (fun σ H R => t σ H R ∨ t' σ H R) := ⟨fun pins s σ H R I r => r.elim (h.run pins s σ H R I) (h'.run pins s σ H R I)⟩
section
variable {C : RC} {ρ : List CellA} {H : Hp}
end
def ivEnumX (g : Ak) : Iv := fun st => (g st).bind fun (as : List (DV × Kd)) st1 => match as with
 | [a] => (match a.1 with
  | .lst ds => .ok (enumL ds) (st1.eat a.2)
  | .tup ds => .ok (enumL ds) (st1.eat a.2)
  | _ => .stuck)
 | _ => .stuck
section
variable {X : Cx} {B : BC} {W : WX} {g : Ak} {a : Expr} {p pos : Pos}
end
section
variable {X : Cx} {C : RC} {O : Addr → Prop} {H0 : Hp} {W : WX} {k : Nat} {a : Expr} {p pos : Pos} {gk : Ak}
end
section
variable {X : Cx} {B : BC} {W : WX}
theorem sets2 {σ : L2.St} {i j : Nat} {v w : V} (hij : i ≠ j) : sets σ [i, j] [v, w] = (σ.set i (some v)).set j (some w) := by
 show (σ.set j (some w)).set i (some v) = _
 rw [List.set_comm _ _ (Ne.symm hij)]
theorem psd_parT {i j : Nat} {x y : Str} {a b : Expr} {fa fb : Ev} {px py pt pos : Pos} {kt k2 : Nat} {pt2 : Pos} (hK : B.C.K = X.K) (hc : X.calm = true) (hN : X.N.Nodup) (hi : X.N[i]? = some x) (hj : X.N[j]? = some y) (hij : i ≠ j)
 (hx : Loc X.env.scope x) (hy : Loc X.env.scope y) (hfx : X.fn x = true ∨ X.env.scope.names.lookup x = some .local) (hfy : X.fn y = true ∨ X.env.scope.names.lookup y = some .local)
 (ha : ∀ B', B'.C = B.C → PD X B' W a fa) (hb : ∀ B', B'.C = B.C → PD X B' W b fb)
 (hsa : starEach [a, b] X.env = (false, eval a X.env) :: starEach [b] X.env) (hsb : starEach [b] X.env = (false, eval b X.env) :: starEach [] X.env)
 (hn : (assignEach [.Name x px, .Name y py] X.env).length = 2) (hst : (assignEach [.Name x px, .Name y py] X.env).findIdx? (·.1) = none)
 (hs : swapsWithSole [.Tuple [.Name x px, .Name y py] kt pt] (.Tuple [a, b] k2 pt2) pos.line X.env = pure false) (hw : swappedStores [.Tuple [.Name x px, .Name y py] kt pt] (.Tuple [a, b] k2 pt2) X.env = pure none)
 (h1 : (assignEach [.Tuple [.Name x px, .Name y py] kt pt] X.env).map (·.2) = [assign (.Tuple [.Name x px, .Name y py] kt pt) X.env]) (hu : PGs X [.Name x px, .Name y py] (gCons (gName i) (gCons (gName j) gNil))) :
 PSD X B W (.Assign [.Tuple [.Name x px, .Name y py] kt pt] (.Tuple [a, b] k2 pt2) pos) (svThen (svPar i fa (svPar j fb svNx))) := by
 refine PS.mono (ps_asg (pe_tup (ppar_cons (i := i) ha (ppar_cons (i := j) hb ppar_nil hsb) hsa)) (pg_tup hc hu hn hst) hs hw h1) fun D σ H ⟨ρ, st, rel, r⟩ => ?_
 refine ⟨B, ρ, st, rfl, rel, ?_⟩
 have r := SRes.then r
 cases e : (svPar i fa (svPar j fb svNx)) st with
 | stuck => rw [e] at r; exact r
 | exc x st1 => rw [e] at r; exact r
 | ok fl st1 =>
  rw [e] at r
  intro σ' ρ' H' s vs hl hσ
  refine ⟨by rw [hl]; exact (by decide : 2 ≤ sizeLine), fun p hp => ?_⟩
  obtain ⟨v, w, rfl⟩ : ∃ v w, vs = [v, w] := by
   match vs, hl with
   | [v, w], _ => exact ⟨v, w, rfl⟩
  have r' := r σ' ρ' _ (s.trans (SStep.of (Step.alloc (o := .tup [v, w]) s.rel hp)))
  refine ⟨p, [v, w], rfl, .inl (.inl upd_same), rfl, v, [w], rfl, w, [], rfl, rfl, ?_⟩
  rw [hσ, sets2 hij] at r'
  exact r'
end
section
variable {X : Cx} {C : RC} {O : Addr → Prop} {H0 : Hp} {W : WX} {k : Nat} {a b : Expr} {fa fb : Ev} {x y : Str} {pos px py pt pt2 : Pos} {k1 k2 : Nat}
theorem ws_parT (i j : Nat) (fx : Fx X C W k) (hN : X.N.Nodup) (ha : ∀ O H0, PD X ⟨C, O, H0⟩ W a fa) (hb : ∀ O H0, PD X ⟨C, O, H0⟩ W b fb) (hi : X.N[i]? = some x := by rfl) (hj : X.N[j]? = some y := by rfl) (hij : i ≠ j := by decide)
 (hx : Loc X.env.scope x := by first | exact Or.inl rfl | exact Or.inr rfl) (hy : Loc X.env.scope y := by first | exact Or.inl rfl | exact Or.inr rfl) (hfx : X.fn x = true ∨ X.env.scope.names.lookup x = some .local := by first | exact .inr rfl | exact .inl rfl) (hfy : X.fn y = true ∨ X.env.scope.names.lookup y = some .local := by first | exact .inr rfl | exact .inl rfl)
 (hsa : starEach [a, b] X.env = (false, eval a X.env) :: starEach [b] X.env := by rfl) (hsb : starEach [b] X.env = (false, eval b X.env) :: starEach [] X.env := by rfl)
 (hn : (assignEach [.Name x px, .Name y py] X.env).length = 2 := by rfl) (hst : (assignEach [.Name x px, .Name y py] X.env).findIdx? (·.1) = none := by rfl)
 (hs : swapsWithSole [.Tuple [.Name x px, .Name y py] k1 pt] (.Tuple [a, b] k2 pt2) pos.line X.env = pure false := by rfl) (hw : swappedStores [.Tuple [.Name x px, .Name y py] k1 pt] (.Tuple [a, b] k2 pt2) X.env = pure none := by rfl)
 (h1 : (assignEach [.Tuple [.Name x px, .Name y py] k1 pt] X.env).map (·.2) = [assign (.Tuple [.Name x px, .Name y py] k1 pt) X.env] := by rfl) :
 PSD X ⟨C, O, H0⟩ W (.Assign [.Tuple [.Name x px, .Name y py] k1 pt] (.Tuple [a, b] k2 pt2) pos) (svThen (svPar i fa (svPar j fb svNx))) :=
 psd_parT (B := ⟨C, O, H0⟩) fx.K fx.calm hN hi hj hij hx hy hfx hfy (fromC ha) (fromC hb) hsa hsb hn hst hs hw h1 (pgs_cons (pg_name hN hi hx hfx) (pgs_cons (pg_name hN hj hy hfy) pgs_nil))
end
end D
namespace D
open PySem L2 PyProof.Rows
mutual
def noCel : DV → Bool
 | .cel _ => false
 | .lst ds => noCels ds
 | .tup ds => noCels ds
 | .dct _ ds => noCels ds
 | .ins _ _ ds => noCels ds
 | .exc _ _ ds => noCels ds
 | .bor ds => noCels ds
 | .fdc _ ds => noCels ds
 | _ => true
def noCels : List DV → Bool
 | [] => true
 | d :: ds => noCel d && noCels ds
end
section
variable {C : RC} {ρ ρ' : List CellA} {A A' : Addr → Prop} {H H' : Hp}
mutual
theorem Rep.nocel (hk : ∀ a o, H a = some o → ¬ A a → NT o → H' a = some o) (ha : ∀ a, A' a → A a ∨ H a = none) : ∀ {v : V} {d : DV}, noCel d = true → Rep C ρ A H v d → Rep C ρ' A' H' v d
 | _, _, _, .non => .non
 | _, _, _, .bl b => .bl b
 | _, _, _, .int i => .int i
 | _, _, _, .str s => .str s
 | _, _, _, .ty n => .ty n
 | _, _, _, .cls c => .cls c
 | _, _, h, .lst n e r => .lst (fun z => (ha _ z).elim n fun q => by rw [e] at q; cases q) (hk _ _ e n trivial) (RepL.nocel hk ha (by simpa only [noCel] using h) r)
 | _, _, h, .tup n e r => .tup (fun z => (ha _ z).elim n fun q => by rw [e] at q; cases q) (hk _ _ e n trivial) (RepL.nocel hk ha (by simpa only [noCel] using h) r)
 | _, _, h, .ktup k r => .ktup k (RepL.nocel hk ha (by simpa only [noCel] using h) r)
 | _, _, h, .dct n e l r => .dct (fun z => (ha _ z).elim n fun q => by rw [e] at q; cases q) (hk _ _ e n trivial) l (RepL.nocel hk ha (by simpa only [noCel] using h) r)
 | _, _, h, .ins n e l r => .ins (fun z => (ha _ z).elim n fun q => by rw [e] at q; cases q) (hk _ _ e n trivial) l (RepL.nocel hk ha (by simpa only [noCel] using h) r)
 | _, _, _, .scr n e => .scr (fun z => (ha _ z).elim n fun q => by rw [e] at q; cases q) (hk _ _ e n trivial)
 | _, _, _, .kscr k => .kscr k
 | _, _, h, .cel e => by simp [noCel] at h
 | _, _, _, .opq a => .opq a
 | _, _, h, .exc n e n2 e2 l r => .exc (fun z => (ha _ z).elim n fun q => by rw [e] at q; cases q) (hk _ _ e n trivial) (fun z => (ha _ z).elim n2 fun q => by rw [e2] at q; cases q) (hk _ _ e2 n2 trivial) l (RepL.nocel hk ha (by simpa only [noCel] using h) r)
 | _, _, _, .exc0 n e => .exc0 (fun z => (ha _ z).elim n fun q => by rw [e] at q; cases q) (hk _ _ e n trivial)
 | _, _, h, .bor n e r => .bor (fun z => (ha _ z).elim n fun q => by rw [e] at q; cases q) (hk _ _ e n trivial) (RepL.nocel hk ha (by simpa only [noCel] using h) r)
 | _, _, h, .fdc n e l r => .fdc (fun z => (ha _ z).elim n fun q => by rw [e] at q; cases q) (hk _ _ e n trivial) l (RepL.nocel hk ha (by simpa only [noCel] using h) r)
theorem RepL.nocel (hk : ∀ a o, H a = some o → ¬ A a → NT o → H' a = some o) (ha : ∀ a, A' a → A a ∨ H a = none) : ∀ {vs : List V} {ds : List DV}, noCels ds = true → RepL C ρ A H vs ds → RepL C ρ' A' H' vs ds
 | _, _, _, .nil => .nil
 | _, _, h, .cons r t => by
  simp only [noCels, Bool.and_eq_true] at h
  exact .cons (Rep.nocel hk ha h.1 r) (RepL.nocel hk ha h.2 t)
end
theorem Cont.nocel {p : Addr} (hk : ∀ a o, H a = Option.some o → ¬ A a → NT o → H' a = Option.some o) (ha : ∀ a, A' a → A a ∨ H a = none) (hpp : H' p = H p) : ∀ {d : DV}, noCel d = true → Cont C ρ A H p d → Cont C ρ' A' H' p d
 | .lst _, h, ⟨xs, e, r⟩ => ⟨xs, hpp.trans e, r.nocel hk ha (by simpa only [noCel] using h)⟩
 | .dct _ _, h, ⟨xs, e, l, r⟩ => ⟨xs, hpp.trans e, l, r.nocel hk ha (by simpa only [noCel] using h)⟩
 | .ins _ _ _, h, ⟨dx, xs, e, l, r⟩ => ⟨dx, xs, hpp.trans e, l, r.nocel hk ha (by simpa only [noCel] using h)⟩
end
def putFD (f : Str) (a : DV) : List Str → List DV → List Str × List DV
 | k :: ks, d :: ds => if k = f then (k :: ks, a :: ds) else ((k :: (putFD f a ks ds).1, d :: (putFD f a ks ds).2))
 | _, _ => ([f], [a])
theorem putFD_rep {C : RC} {ρ : List CellA} {A : Addr → Prop} {H : Hp} {f : Str} {v : V} {a : DV} (ra : Rep C ρ A H v a) : ∀ {ns : List Str} {xs : List V} {ds : List DV}, ns.length = xs.length → RepL C ρ A H xs ds →
 ∃ ys, putF f v (ns.zip xs) = ((putFD f a ns ds).1.zip ys) ∧ (putFD f a ns ds).1.length = ys.length ∧ RepL C ρ A H ys (putFD f a ns ds).2
 | [], _, _, hl, .nil => ⟨[v], rfl, rfl, .cons ra .nil⟩
 | [], _, _, hl, .cons _ _ => by cases hl
 | k :: ns, _, _, hl, .nil => by cases hl
 | k :: ns, x :: xs, d :: ds, hl, .cons r t => by
  unfold putFD
  by_cases h : k = f
  · rw [if_pos h]
    refine ⟨v :: xs, ?_, hl, .cons ra t⟩
    rw [List.zip_cons_cons]
    unfold putF
    rw [if_pos h]
    rfl
  · rw [if_neg h]
    obtain ⟨ys, e1, e2, e3⟩ := putFD_rep (f := f) ra (ns := ns) (by simpa using hl) t
    refine ⟨x :: ys, ?_, by simp [e2], .cons r e3⟩
    rw [List.zip_cons_cons]
    unfold putF
    rw [if_neg h, e1]
    rfl
section
variable {B : BC} {σ : L2.St} {ρ : List CellA} {st : DS} {H : Hp} {X : Cx} {W : WX} {ct : CT}
theorem Step.obj {k : Nat} {c : CellA} {d d' : DV} {o : HO} (rel : Rel B ρ st σ H) (hc : ρ[k]? = some c) (hs : st.cs[k]? = some (.obj d)) (hw : WR o) (hd : Cont B.C ρ (Av ρ B.O st σ) (upd H c.main o) c.main d') :
 Step B σ ρ st H ρ ⟨st.sl, st.cs.set k (.obj d')⟩ (upd H c.main o) := by
 have inC : CM ρ c.main := ⟨c, List.mem_of_getElem? hc, .inl rfl⟩
 have q0 := rel.cel.ok k c _ hc hs
 have fr : ∀ a o', H a = some o' → ¬ CM ρ a → NT o' → upd H c.main o a = some o' := fun a o' e n _ => by
  rw [upd_ne (fun (z : a = c.main) => n (z ▸ inC))]; exact e
 have dm : ∀ a, H a ≠ none → upd H c.main o a ≠ none := fun a z => by
  by_cases h : a = c.main
  · rw [h, upd_same]; exact fun z => nomatch z
  · rw [upd_ne h]; exact z
 have mv : ∀ a, Av ρ B.O ⟨st.sl, st.cs.set k (.obj d')⟩ σ a → Av ρ B.O st σ a ∨ H a = none := fun a z => .inl z
 have fr' : ∀ a o', H a = some o' → ¬ Av ρ B.O st σ a → NT o' → upd H c.main o a = some o' := fun a o' e n => fr a o' e fun z => n (.inr (.inl z))
 have hkl : k < st.cs.length := (List.getElem?_eq_some_iff.mp hs).1
 refine ⟨List.prefix_refl _, ⟨rel.len, fun i d h => ?_, fun i d h => ?_, rel.dis, fun a z => dm a (rel.dom a z), fun a z => dm a (rel.odom a z), ⟨by rw [rel.cel.len]; simp, fun j cj x h1 h2 => ?_, rel.cel.dis⟩, fun a z => dm a (rel.cdom a z), tabs_but rel.tabs fun a o' e nw => ?_⟩, fr, fun _ _ z => z, fun _ _ b z => ⟨b, z⟩, fun _ z => .inl z, dm⟩
 · obtain ⟨v, e, q⟩ := rel.fro i d h
   exact ⟨v, e, q.mv (List.prefix_refl _) fr' mv⟩
 · obtain ⟨q, e, cc, n1, n2, n3⟩ := rel.own i d h
   exact ⟨q, e, cc.mv (List.prefix_refl _) fr' mv (upd_ne fun (z : q = c.main) => n1 (z ▸ inC)), n1, n2, n3⟩
 · by_cases hj : j = k
   · subst hj
     rw [hc] at h1
     cases h1
     have h2 : (st.cs.set j (.obj d'))[j]? = some x := h2
     rw [List.getElem?_set_self hkl] at h2
     cases h2
     exact ⟨q0.1, hd⟩
   · have h2 : (st.cs.set k (.obj d'))[j]? = some x := h2
     rw [List.getElem?_set_ne (Ne.symm hj)] at h2
     have q := rel.cel.ok j cj x h1 h2
     have keep : ∀ a, (a = cj.main ∨ a ∈ cj.more) → upd H c.main o a = H a := fun a z => upd_ne fun z' => rel.cel.dis j k cj c h1 hc hj a z (.inl z')
     cases x with
     | draw dd =>
      obtain ⟨g, l, e1, n1, n2, n3, e3, e4, e5⟩ := q
      exact ⟨g, l, e1, n1, n2, n3, (keep _ (.inl rfl)).trans e3, (keep g (.inr (by rw [e1]; simp))).trans e4, (keep l (.inr (by rw [e1]; simp))).trans e5⟩
     | obj dd => exact ⟨q.1, q.2.mv (List.prefix_refl _) fr' mv (keep _ (.inl rfl))⟩
     | dead => trivial
 · by_cases h : a = c.main
   · subst h
     refine absurd ?_ nw
     cases d with
     | lst => obtain ⟨xs, e2, _⟩ := q0.2; rw [e2] at e; cases e; trivial
     | dct => obtain ⟨xs, e2, _⟩ := q0.2; rw [e2] at e; cases e; trivial
     | ins => obtain ⟨dx, xs, e2, _⟩ := q0.2; rw [e2] at e; cases e; trivial
     | _ => exact q0.2.elim
   · rw [upd_ne h]; exact e
def svSetF (ct : CT) (f : Str) (fo fe : Ev) : Sv := fun st => (fe st).bind fun a st1 => (fo (st1.eat a.2)).bind fun o st2 => match o.1 with
 | .cel k => (match st2.cs[k]? with
  | some (.obj (.ins c ns vs)) => if (c, f) ∈ ct.fi ∧ ns.length < 1000 then .ok .nx ⟨st2.sl, st2.cs.set k (.obj (.ins c (putFD f a.1 ns vs).1 (putFD f a.1 ns vs).2))⟩ else .stuck
  | _ => .stuck)
 | _ => .stuck
theorem rep_cel {kd : Kd} {v : V} {k : Nat} (r : RepK B ρ st σ H kd v (.cel k)) : ∃ c, ρ[k]? = some c ∧ v = .ref c.main := by
 have r' : Rep B.C ρ (Av ρ B.O st σ) H v (.cel k) := by
  cases kd with
  | view i => obtain ⟨p, rfl, _, c, _⟩ := r; cases c
  | fro => exact r
  | new => exact r.1
 cases r' with
 | cel e => exact ⟨_, e, rfl⟩
theorem psd_setF {o value : Expr} {f : Str} {fo fe : Ev} {pos pos' : Pos} (hC : B.C.K = X.K) (kc : KitC B.C ct) (ho : PD X B W o fo) (he : PD X B W value fe) (hs : swapsWith value (some (.Attribute o f pos')) pos.line X.env = pure false) :
 PSD X B W (.Assign [.Attribute o f pos'] value pos) (svSetF ct f fo fe) := by
 refine PS.mono (ps_fld ho he hs) fun D σ H ⟨ρ, st, rel, r⟩ => ?_
 unfold svSetF at r
 have r1 := SRes.ex r
 refine RD.go rel r1 fun a st1 ρ1 H1 s1 r1 v rv fv => ?_
 have s2 := Step.eat s1.rel a.2
 have r2 := SRes.ex (SRes.from (SStep.of s2) r1)
 refine RD.go s2.rel r2 fun o st2 ρ2 H2 s3 r2 x rx fx => ?_
 obtain ⟨d, kd⟩ := o
 cases d <;> try exact r2.elim
 rename_i k
 dsimp only at r2 rx
 obtain ⟨c, hc, rfl⟩ := rep_cel rx
 cases hk : st2.cs[k]? with
 | none => rw [hk] at r2; exact r2.elim
 | some y =>
  rw [hk] at r2
  cases y with
  | draw => exact r2.elim
  | dead => exact r2.elim
  | obj d0 =>
   cases d0 <;> try exact r2.elim
   rename_i cl ns vs
   dsimp only at r2
   split at r2
   case isFalse => exact r2.elim
   rename_i hcond
   obtain ⟨h1, h2⟩ := kc.nf _ hcond.1
   have k1 := kc.cls _ h1
   rw [hC] at k1 h2
   obtain ⟨hm, dx, xs, e1, e2, e3⟩ := s3.rel.cel.ok k c _ hc hk
   have rv' : Rep B.C ρ2 (Av ρ2 B.O st2 σ) H2 v a.1 := Rep.step s3 (rv.eat)
   obtain ⟨ys, e4, e5, e6⟩ := putFD_rep (f := f) rv' e2 e3
   have s4 := Step.obj (d' := .ins cl (putFD f a.1 ns vs).1 (putFD f a.1 ns vs).2) (o := .ins (B.C.cls cl) dx ((putFD f a.1 ns vs).1.zip ys)) s3.rel hc hk trivial ⟨dx, ys, upd_same, e5, e6.mv (List.prefix_refl _) (fun b o' e n _ => by
    rw [upd_ne (fun (z : b = c.main) => n (.inr (.inl (z ▸ ⟨c, List.mem_of_getElem? hc, .inl rfl⟩))))]; exact e) fun _ z => .inl z⟩
   refine ⟨c.main, B.C.cls cl, dx, ns.zip xs, rfl, e1, k1, h2, ?_, ?_⟩
   · rw [List.length_zip, ← e2, Nat.min_self]; exact hcond.2
   · rw [e4]
     exact r2 _ _ _ (SStep.of s4)
def fldC (C : CT) (f : Str) (st : DS) : DV → Option DV
 | .cel k => match st.cs[k]? with
  | some (.obj d) => fldD C f d
  | _ => none
 | d => fldD C f d
def evFldC (ct : CT) (f : Str) (fa : Ev) : Ev := fun st => (fa st).bind fun a st1 => match fldC ct f st1 a.1 with
 | some d => .ok (d, if flat d = true then .new else .fro) st1
 | none => .stuck
theorem pd_fldC {e : Expr} {f : Str} {pos : Pos} {fa : Ev} (hC : B.C.K = X.K) (kc : KitC B.C ct) (he : PD X B W e fa) (hb : attributeBase e f X.env (eval e X.env) = eval e X.env) : PD X B W (.Attribute e f pos) (evFldC ct f fa) := by
 refine PE.mono (pe_fldZ hC kc he hb) fun σ H Q ⟨ρ, st, rel, r⟩ => ?_
 unfold evFldC at r
 refine RD.go rel (Res.bind r) fun a st1 ρ1 H1 s1 r1 v rv fv => ?_
 obtain ⟨d, kd⟩ := a
 dsimp only at r1 rv
 by_cases hcel : ∃ k, d = .cel k
 · obtain ⟨k, rfl⟩ := hcel
   dsimp only [fldC] at r1
   obtain ⟨c, hc, rfl⟩ := rep_cel rv
   cases hk : st1.cs[k]? with
   | none => rw [hk] at r1; exact r1.elim
   | some y =>
    rw [hk] at r1
    cases y with
    | draw => exact r1.elim
    | dead => exact r1.elim
    | obj d0 =>
     dsimp only at r1
     cases hf : fldD ct f d0 with
     | none => rw [hf] at r1; exact r1.elim
     | some z =>
      rw [hf] at r1
      have q0 := s1.rel.cel.ok k c _ hc hk
      cases d0 <;> try (cases hf; done)
      · rename_i cl ns vs
        simp only [fldD] at hf
        split at hf
        case isFalse => cases hf
        rename_i hm
        obtain ⟨_, dx, xs, e1, e2, e3⟩ := q0
        obtain ⟨u, h1, h2⟩ := fldGet_rep e2 e3 hf
        obtain ⟨k1, k2⟩ := fro_or_flat h2
        exact .inl ⟨c.main, cl, dx, _, u, rfl, e1, hm, h1, Res.now s1.rel r1 u k1 (Fresh.dm s1.dm k2)⟩
      · exact q0.2.elim
 · have r1' : Res B W σ ρ1 st1 H1 (match fldD ct f d with
    | some d => .ok (d, if flat d = true then Kd.new else Kd.fro) st1
    | none => .stuck) (GE B σ H Q) := by
    have e : fldC ct f st1 d = fldD ct f d := by cases d <;> first | rfl | exact absurd ⟨_, rfl⟩ hcel
    rw [← e]
    exact r1
   have r2 := r1'
   cases hf : fldD ct f d with
   | none => rw [hf] at r2; exact r2.elim
   | some z =>
    rw [hf] at r2
    have fin : ∀ u, Rep B.C ρ1 (Av ρ1 B.O st1 σ) H1 u z → Q u H1 := fun u ru => by
     obtain ⟨k1, k2⟩ := fro_or_flat ru
     exact Res.now s1.rel r2 u k1 (Fresh.dm s1.dm k2)
    cases d <;> try (cases hf; done)
    · rename_i c ns vs
      simp only [fldD] at hf
      split at hf
      · rename_i hm
        obtain ⟨p, dx, xs, rfl, e1, e2, e3⟩ := rv.ins
        obtain ⟨u, h1, h2⟩ := fldGet_rep e2 e3 hf
        exact .inl ⟨p, c, dx, _, u, rfl, e1, hm, h1, fin u h2⟩
      · cases hf
    · rename_i c ns vs
      simp only [fldD] at hf
      split at hf
      · rename_i hm
        have r' : Rep B.C ρ1 (Av ρ1 B.O st1 σ) H1 v (.exc c ns vs) := by
         cases kd with
         | view i => obtain ⟨p, rfl, _, c, _⟩ := rv; cases c
         | fro => exact rv
         | new => exact rv.1
        cases r' with
        | exc n e n2 e2 l r =>
         obtain ⟨u, h1, h2⟩ := fldGet_rep l r hf
         exact .inr ⟨_, c, _, _, u, rfl, e, e2, hm, h1, fin u h2⟩
        | exc0 n e => simp [fldGet] at hf
      · cases hf
end
end D
namespace D
open PySem L2 PyProof.Rows
section
variable {B : BC} {ρ : List CellA} {H : Hp} {cs : List CellC}
theorem Rel.startB {N : List Str} {vs : List V} {ds : List DV} (r : Rel B ρ ⟨[], cs⟩ [] H) (rl : RepL B.C ρ (Av ρ B.O ⟨[], cs⟩ []) H vs ds) : Rel B ρ ⟨zql N.length ds, cs⟩ (L2.start N vs) H := by
 have hl := rl.length
 have noOwn : ∀ i a, ¬ ownAt ⟨zql N.length ds, cs⟩ (L2.start N vs) i a := fun i a ⟨d, h, _⟩ => zqx h
 have mv : ∀ a, Av ρ B.O ⟨zql N.length ds, cs⟩ (L2.start N vs) a → Av ρ B.O ⟨[], cs⟩ [] a ∨ H a = none := fun a z => by
  rcases z with z | z | ⟨i, z⟩
  · exact .inl (.inl z)
  · exact .inl (.inr (.inl z))
  · exact absurd z (noOwn i a)
 refine ⟨?_, fun i d h => ?_, fun i d h => absurd h zqx, fun i j p h => absurd h (noOwn i p), r.dom, r.odom, ⟨r.cel.len, fun k c x h1 h2 => ?_, r.cel.dis⟩, r.cdom, r.tabs⟩
 · simp [zql, L2.start, hl]
 · have h : (zql N.length ds)[i]? = some (some (d, false)) := h
   unfold zql at h
   rw [List.getElem?_append] at h
   split at h
   · rename_i hi
     rw [List.getElem?_map] at h
     cases e : ds[i]? with
     | none => rw [e] at h; cases h
     | some x =>
      rw [e] at h
      cases h
      obtain ⟨v, hv, rv⟩ := rl.get e
      refine ⟨v, ?_, rv.mv (List.prefix_refl _) (fun _ _ e _ _ => e) mv⟩
      unfold L2.start
      have hi' : i < (vs.map some).length := by simpa [hl] using hi
      rw [List.getElem?_append_left hi', List.getElem?_map, hv]
      rfl
   · rw [List.getElem?_replicate] at h
     split at h <;> cases h
 · have q := r.cel.ok k c x h1 h2
   cases x with
   | draw d => exact q
   | obj d => exact ⟨q.1, q.2.mv (List.prefix_refl _) (fun _ _ e _ _ => e) mv rfl⟩
   | dead => trivial
end
section
variable {C : RC} {O : Addr → Prop} {ρ ρ' : List CellA} {H0 H' : Hp} {cs : List CellC} {x dx : Addr} {c : Nat}
abbrev mkH (C : RC) (H0 : Hp) (x dx : Addr) (c : Nat) : Hp := upd (upd H0 dx (.own x)) x (.ins (C.cls c) dx [])
theorem mkH_of (hx : H0 x = none) (hdx : H0 dx = none) {a : Addr} {o : HO} (e : H0 a = some o) : mkH C H0 x dx c a = some o := by
 unfold mkH
 rw [upd_ne (ne_of_none e hx), upd_ne (ne_of_none e hdx)]
 exact e
theorem cm_grow {a : Addr} : CM (ρ ++ [⟨x, []⟩]) a ↔ CM ρ a ∨ a = x := by
 unfold CM
 constructor
 · rintro ⟨c, hc, z⟩
   rcases List.mem_append.mp hc with h | h
   · exact .inl ⟨c, h, z⟩
   · simp at h
     subst h
     rcases z with z | z
     · exact .inr z
     · simp at z
 · rintro (⟨c, hc, z⟩ | rfl)
   · exact ⟨c, List.mem_append_left _ hc, z⟩
   · exact ⟨⟨a, []⟩, by simp, .inl rfl⟩
theorem Rel.grow (r : Rel ⟨C, O, H0⟩ ρ ⟨[], cs⟩ [] H0) (hx : H0 x = none) (hdx : H0 dx = none) (hne : dx ≠ x) :
 Rel ⟨C, O, H0⟩ (ρ ++ [⟨x, []⟩]) ⟨[], cs ++ [.obj (.ins c [] [])]⟩ [] (mkH C H0 x dx c) := by
 have up : ∀ {a o}, H0 a = some o → mkH C H0 x dx c a = some o := fun e => mkH_of hx hdx e
 have dm : ∀ a, H0 a ≠ none → mkH C H0 x dx c a ≠ none := fun a z => by
  cases e : H0 a with
  | none => exact absurd e z
  | some o => rw [up e]; exact fun z => nomatch z
 have at_x : mkH C H0 x dx c x = some (.ins (C.cls c) dx []) := upd_same
 have hlen := r.cel.len
 dsimp only at hlen
 refine ⟨rfl, fun i d h => by simp at h, fun i d h => by simp at h, fun i j p h => by obtain ⟨d, h, _⟩ := h; simp at h, fun a z => dm a (r.dom a z), fun a z => dm a (r.odom a z), ⟨by simp [hlen], fun k cc y h1 h2 => ?_, fun i j c1 c2 h1 h2 hij a z1 z2 => ?_⟩, fun a z => ?_, tabs_but r.tabs fun a o e _ => up e⟩
 · dsimp only at h2
   by_cases hk : k < ρ.length
   · rw [List.getElem?_append_left hk] at h1
     rw [List.getElem?_append_left (by rw [← hlen]; exact hk)] at h2
     have q := r.cel.ok k cc y h1 h2
     have hin : CM ρ cc.main := ⟨cc, List.mem_of_getElem? h1, .inl rfl⟩
     have hmv : ∀ a, Av (ρ ++ [⟨x, []⟩]) O ⟨[], cs ++ [.obj (.ins c [] [])]⟩ [] a → Av ρ O ⟨[], cs⟩ [] a ∨ H0 a = none := fun a z => by
      rcases z with z | z | ⟨i, d, z, _⟩
      · exact .inl (.inl z)
      · rcases cm_grow.mp z with z | rfl
        · exact .inl (.inr (.inl z))
        · exact .inr hx
      · simp at z
     have keep : ∀ a, H0 a ≠ none → mkH C H0 x dx c a = H0 a := fun a z => by
      cases e : H0 a with
      | none => exact absurd e z
      | some o => exact up e
     cases y with
     | draw d =>
      obtain ⟨g, l, e1, n1, n2, n3, e3, e4, e5⟩ := q
      exact ⟨g, l, e1, n1, n2, n3, up e3, up e4, up e5⟩
     | obj d => exact ⟨q.1, q.2.mv (List.prefix_append _ _) (fun a o e _ _ => up e) hmv (keep _ (r.cdom _ hin))⟩
     | dead => trivial
   · rw [List.getElem?_append_right (by omega)] at h1
     rw [List.getElem?_append_right (by rw [← hlen]; omega)] at h2
     rw [← hlen] at h2
     cases hz : k - ρ.length with
     | zero =>
      rw [hz] at h1 h2
      cases h1
      cases h2
      exact ⟨rfl, dx, [], at_x, rfl, .nil⟩
     | succ m =>
      rw [hz] at h1
      simp at h1
 · by_cases hi : i < ρ.length
   · rw [List.getElem?_append_left hi] at h1
     have m1 : CM ρ a := ⟨c1, List.mem_of_getElem? h1, z1⟩
     by_cases hj : j < ρ.length
     · rw [List.getElem?_append_left hj] at h2
       exact r.cel.dis i j c1 c2 h1 h2 hij a z1 z2
     · rw [List.getElem?_append_right (by omega)] at h2
       have h2' := List.mem_of_getElem? h2
       simp at h2'
       subst h2'
       rcases z2 with rfl | z2
       · exact r.cdom _ m1 hx
       · simp at z2
   · rw [List.getElem?_append_right (by omega)] at h1
     have h1' := List.mem_of_getElem? h1
     simp at h1'
     subst h1'
     rcases z1 with rfl | z1
     · by_cases hj : j < ρ.length
       · rw [List.getElem?_append_left hj] at h2
         exact r.cdom _ ⟨c2, List.mem_of_getElem? h2, z2⟩ hx
       · have e1 := (List.getElem?_eq_some_iff.mp h1).1
         have e2 := h2
         rw [List.getElem?_append_right (by omega)] at e2
         have e3 := (List.getElem?_eq_some_iff.mp e2).1
         simp at e1 e3
         omega
     · simp at z1
 · rcases cm_grow.mp z with z | rfl
   · exact dm a (r.cdom a z)
   · rw [at_x]; exact fun z => nomatch z
theorem Step.ini {N : List Str} {vs : List V} {ds : List DV} {n : Nat} {σ' : L2.St} {st' : DS} (r : Rel ⟨C, O, H0⟩ ρ ⟨[], cs⟩ [] H0) (hx : H0 x = none) (hdx : H0 dx = none) (hl : st'.cs.length = cs.length + 1) (hd : (st'.cs.take cs.length).all isDraw = true)
 (s : SStep ⟨C, O, H0⟩ (L2.start N vs) (ρ ++ [⟨x, []⟩]) ⟨zql n ds, cs ++ [.obj (.ins c [] [])]⟩ (mkH C H0 x dx c) σ' ρ' st' H') :
 ρ' = ρ ++ [⟨x, []⟩] ∧ Step ⟨C, O, H0⟩ [] ρ ⟨[], cs⟩ H0 ρ ⟨[], st'.cs.take cs.length⟩ H' := by
 have up : ∀ {a o}, H0 a = some o → mkH C H0 x dx c a = some o := fun e => mkH_of hx hdx e
 have noOwn : ∀ i a, ¬ ownAt ⟨zql n ds, cs ++ [.obj (.ins c [] [])]⟩ (L2.start N vs) i a := fun i a ⟨d, h, _⟩ => zqx h
 have hlen := r.cel.len
 dsimp only at hlen
 have hρ : ρ' = ρ ++ [⟨x, []⟩] := by
  obtain ⟨t, ht⟩ := s.pre
  have e1 := s.rel.cel.len
  rw [hl, ← ht] at e1
  simp [hlen] at e1
  rw [← ht, e1, List.append_nil]
 refine ⟨hρ, ?_⟩
 have dm : ∀ a, H0 a ≠ none → H' a ≠ none := fun a z => s.dm a (by
  cases e : H0 a with
  | none => exact absurd e z
  | some o => rw [up e]; exact fun z => nomatch z)
 refine ⟨List.prefix_refl _, ⟨rfl, fun i d h => by simp at h, fun i d h => by simp at h, fun i j p h => by obtain ⟨d, h, _⟩ := h; simp at h, s.rel.dom, s.rel.odom, ⟨by rw [List.length_take]; omega, fun k cc y h1 h2 => ?_, fun i j c1 c2 h1 h2 => r.cel.dis i j c1 c2 h1 h2⟩, fun a z => dm a (r.cdom a z), s.rel.tabs⟩,
  fun a o e nm nt => s.fr a o (up e) (fun z => (cm_grow.mp z).elim nm fun q => by subst q; rw [hx] at e; cases e) (fun i => noOwn i a) nt, fun i p h => by obtain ⟨d, h, _⟩ := h; simp at h, fun i d b h => by simp at h, fun a z => .inl z, dm⟩
 dsimp only at h2
 have hk : k < ρ.length := (List.getElem?_eq_some_iff.mp h1).1
 have hy := List.all_eq_true.mp hd y (List.mem_of_getElem? h2)
 rw [List.getElem?_take_of_lt (by rw [← hlen]; exact hk)] at h2
 have q := s.rel.cel.ok k cc y (by rw [hρ, List.getElem?_append_left hk]; exact h1) h2
 cases y with
 | draw d => exact q
 | obj d => cases hy
 | dead => trivial
end
def iniBack (m : Nat) (st' : DS) : Out (DV × Kd) := if st'.cs.length = m + 1 ∧ (st'.cs.take m).all isDraw = true then (match st'.cs[m]? with
 | some (.obj d) => if noCel d = true then .ok (d, .new) ⟨[], st'.cs.take m⟩ else .stuck
 | _ => .stuck) else .stuck
def iniOut (m : Nat) : Out Fl → Out (DV × Kd)
 | .ok .nx st' => iniBack m st'
 | .ok (.rt .non _) st' => iniBack m st'
 | .ok _ _ => .stuck
 | .exc x st' => if st'.cs.length = m + 1 ∧ (st'.cs.take m).all isDraw = true ∧ noCels x.vs = true then .exc x ⟨[], st'.cs.take m⟩ else .stuck
 | .stuck => .stuck
def fnIni (n p c : Nat) (sv : Sv) : Fn := fun ds st => if ds.length + 1 = p then iniOut st.cs.length (sv ⟨zql n (.cel st.cs.length :: ds), st.cs ++ [.obj (.ins c [] [])]⟩) else .stuck
def SpI (C : RC) (c : Nat) (F : Fn) : Sp := fun vs H Q E => ∃ x dx H0 vs' Q0, vs = V.ref x :: vs' ∧ H0 x = none ∧ H0 dx = none ∧ dx ≠ x ∧ H = mkH C H0 x dx c ∧ SpF C F vs' H0 Q0 E ∧ ∀ H', Q0 (.ref x) H' → Q .non H'
section
variable {P : Program} {w : World} {mg : Str → Option Value} {base : Heap} {C : RC}
theorem SpI.len {n p c : Nat} {sv : Sv} {vs : List V} {H : Hp} {Q : VK} {E : XK} (h : SpI C c (fnIni n p c sv) vs H Q E) : vs.length = p := by
 obtain ⟨x, dx, H0, vs', Q0, rfl, hx, hdx, hne, rfl, ⟨ρ, cs, ds, O, r, rl, res⟩, hq⟩ := h
 unfold fnIni at res
 split at res
 · rename_i hl
   rw [List.length_cons, rl.length]
   exact hl
 · exact res.elim
theorem okI_raw {x qual : Str} {st : Stmt} {f : Addr} {N ps : List Str} {k c : Nat} {sv : Sv} {oc dV kV doc pm cdv ct : Value} {od an : Option Addr} {osl : Array (Option Value)}
 (lk : C.K.lookup f = some ⟨oc, od, .func (PySem.W.fnOf x qual (defArgs st) (defBody st) (defScope st) dV kV doc pm an cdv ct), osl⟩) (hcd : PySem.W.codeIn C.K cdv qual = true) (S : FnScope N ps (defScope st))
 (hb : ∀ (cdv' : Value) (A : Around) (outer : List Env) (s : Shared) (H : Hp) (E : XK), (PySem.W.fnOf x qual (defArgs st) (defBody st) (defScope st) dV kV doc pm an cdv ct).code = cdv' → Room k (A.deeper (envOfC qual (defScope st) s.heap.objs.size f cdv')) → (cxOf (L2.CX P w) P w C.K mg base N qual (defScope st) f cdv' A outer s H E).A.guards = some [] →
  ∀ O H0, PSsD (cxOf (L2.CX P w) P w C.K mg base N qual (defScope st) f cdv' A outer s H E) ⟨C, O, H0⟩ (fun cls d _ H' => E cls d H') (defBody st) sv) :
 FnG P w C.K mg base (k + 1) f (PySem.W.fnOf x qual (defArgs st) (defBody st) (defScope st) dV kV doc pm an cdv ct) ps (SpI C c (fnIni N.length ps.length c sv)) := by
 refine fnG_of lk hcd S (fun vs H Q E h => h.len) fun A outer s H vs Q E hr hg h => ?_
 obtain ⟨x, dx, H0, vs', Q0, rfl, hx, hdx, hne, rfl, ⟨ρ, cs, ds, O, r, rl, res⟩, hq⟩ := h
 have r1 := Rel.grow (c := c) r hx hdx hne
 have hlen := r.cel.len
 dsimp only at hlen
 have rl1 : RepL C (ρ ++ [⟨x, []⟩]) (Av (ρ ++ [⟨x, []⟩]) O ⟨[], cs ++ [.obj (.ins c [] [])]⟩ []) (mkH C H0 x dx c) (V.ref x :: vs') (.cel cs.length :: ds) := by
  refine .cons (.cel (c := ⟨x, []⟩) (by rw [← hlen]; simp)) (rl.mv (List.prefix_append _ _) (fun a o e _ _ => mkH_of hx hdx e) fun a z => ?_)
  rcases z with z | z | ⟨i, d, z, _⟩
  · exact .inl (.inl z)
  · rcases cm_grow.mp z with z | rfl
    · exact .inl (.inr (.inl z))
    · exact .inr hx
  · simp at z
 refine ⟨_, hb cdv A outer s _ E rfl hr (by first | exact (deeper_guards _ _).trans hg | exact hg) O H0, ρ ++ [⟨x, []⟩], ⟨zql N.length (.cel cs.length :: ds), cs ++ [.obj (.ins c [] [])]⟩, Rel.startB (B := ⟨C, O, H0⟩) r1 rl1, ?_⟩
 have ox : ¬ O x := fun z => r.odom x z hx
 have cx : ¬ CM ρ x := fun z => r.cdom x z hx
 unfold fnIni at res
 split at res
 case isFalse => exact res.elim
 dsimp only at res
 -- the object's content, as a value
 have key : ∀ {σ' : L2.St} {ρ' : List CellA} {st' : DS} {H' : Hp}, SStep ⟨C, O, H0⟩ (L2.start N (V.ref x :: vs')) (ρ ++ [⟨x, []⟩]) ⟨zql N.length (.cel cs.length :: ds), cs ++ [.obj (.ins c [] [])]⟩ (mkH C H0 x dx c) σ' ρ' st' H' →
  Res ⟨C, O, H0⟩ (fun cls d _ H' => E cls d H') [] ρ ⟨[], cs⟩ H0 (iniBack cs.length st') (fun a st' ρ' H' => st'.sl = [] ∧ ∀ v, Rep C ρ' (Av ρ' O st' []) H' v a.1 → (a.2 = .new → NewC ⟨C, O, H0⟩ ρ' st' [] H' v a.1) → Fresh H0 a.2 v → Q0 v H') → Q .non H' := fun {σ' ρ' st' H'} s1 res => by
  unfold iniBack at res
  split at res
  case isFalse => exact res.elim
  rename_i hc
  obtain ⟨hρ, sd⟩ := Step.ini r hx hdx hc.1 hc.2 s1
  subst hρ
  cases hm : st'.cs[cs.length]? with
  | none => rw [hm] at res; exact res.elim
  | some y =>
   rw [hm] at res
   cases y with
   | draw => exact res.elim
   | dead => exact res.elim
   | obj d =>
    dsimp only at res
    split at res
    case isFalse => exact res.elim
    rename_i hn
    have q := s1.rel.cel.ok cs.length ⟨x, []⟩ _ (by rw [← hlen]; simp) hm
    have nA : ∀ a, Av ρ O ⟨[], st'.cs.take cs.length⟩ [] a → Av (ρ ++ [⟨x, []⟩]) O st' σ' a := fun a z => by
     rcases z with z | z | ⟨i, d, z, _⟩
     · exact .inl z
     · exact .inr (.inl (cm_grow.mpr (.inl z)))
     · simp at z
    have npx : ¬ Av ρ O ⟨[], st'.cs.take cs.length⟩ [] x := fun z => by
     rcases z with z | z | ⟨i, d, z, _⟩
     · exact ox z
     · exact cx z
     · simp at z
    have ct' : Cont C ρ (fun a => Av ρ O ⟨[], st'.cs.take cs.length⟩ [] a ∨ a = x) H' x d := q.2.nocel (fun _ _ e _ _ => e) (fun a z => .inl (z.elim (nA a) fun z => by subst z; exact .inr (.inl (cm_grow.mpr (.inr rfl))))) rfl hn
    exact hq _ ((res ρ H' sd).2 (.ref x) (ct'.rep (fun a z => .inl z) npx) (fun _ p e _ => by cases e; exact ct') fun p e => by cases e; exact hx)
 cases e : sv ⟨zql N.length (.cel cs.length :: ds), cs ++ [.obj (.ins c [] [])]⟩ with
 | stuck => rw [e] at res; exact res
 | exc xx st' =>
  rw [e] at res
  have res : Res ⟨C, O, H0⟩ (fun cls d _ H' => E cls d H') [] ρ ⟨[], cs⟩ H0 (if st'.cs.length = cs.length + 1 ∧ (st'.cs.take cs.length).all isDraw = true ∧ noCels xx.vs = true then .exc xx ⟨[], st'.cs.take cs.length⟩ else .stuck) (fun (a : DV × Kd) st' ρ' H' => st'.sl = [] ∧ ∀ v, Rep C ρ' (Av ρ' O st' []) H' v a.1 → (a.2 = .new → NewC ⟨C, O, H0⟩ ρ' st' [] H' v a.1) → Fresh H0 a.2 v → Q0 v H') := res
  split at res
  case isFalse => exact res.elim
  rename_i hc
  intro σ' ρ' H' cls d s1 xr
  obtain ⟨hρ, sd⟩ := Step.ini r hx hdx hc.1 hc.2.1 s1
  subst hρ
  refine res ρ H' cls d sd ?_
  obtain ⟨e1, xr⟩ := xr
  have nA : ∀ a, Av ρ O ⟨[], st'.cs.take cs.length⟩ [] a → Av (ρ ++ [⟨x, []⟩]) O st' σ' a := fun a z => by
   rcases z with z | z | ⟨i, d, z, _⟩
   · exact .inl z
   · exact .inr (.inl (cm_grow.mpr (.inl z)))
   · simp at z
  refine ⟨e1, ?_⟩
  rcases xr with xr | ⟨a, vs, h1, h2, h3, h4, h5⟩
  · exact .inl xr
  · exact .inr ⟨a, vs, h1, fun z => h2 (nA a z), h3, h4, h5.nocel (fun _ _ e _ _ => e) (fun a z => .inl (nA a z)) hc.2.2⟩
 | ok fl st' =>
  rw [e] at res
  intro σ' ρ' H' s1
  cases fl with
  | bk => exact res.elim
  | ct => exact res.elim
  | nx => exact key s1 res
  | rt d kd =>
   intro v rv fv
   cases d <;> try exact res.elim
   obtain rfl := RepK.non rv
   exact key s1 res
theorem okG_raw {x qual : Str} {st : Stmt} {f : Addr} {N ps : List Str} {k : Nat} {sv : Sv} {oc dV kV doc pm cdv ct : Value} {od an : Option Addr} {osl : Array (Option Value)}
 (lk : C.K.lookup f = some ⟨oc, od, .func (PySem.W.fnOf x qual (defArgs st) (defBody st) (defScope st) dV kV doc pm an cdv ct), osl⟩) (hcd : PySem.W.codeIn C.K cdv qual = true) (S : FnScope N ps (defScope st))
 (hb : ∀ (cdv' : Value) (A : Around) (outer : List Env) (s : Shared) (H : Hp) (E : XK), (PySem.W.fnOf x qual (defArgs st) (defBody st) (defScope st) dV kV doc pm an cdv ct).code = cdv' → Room k (A.deeper (envOfC qual (defScope st) s.heap.objs.size f cdv')) → (cxOf (L2.CX P w) P w C.K mg base N qual (defScope st) f cdv' A outer s H E).A.guards = some [] →
  ∀ O, PSsD (cxOf (L2.CX P w) P w C.K mg base N qual (defScope st) f cdv' A outer s H E) ⟨C, O, H⟩ (fun cls d _ H' => E cls d H') (defBody st) sv) :
 FnG P w C.K mg base (k + 1) f (PySem.W.fnOf x qual (defArgs st) (defBody st) (defScope st) dV kV doc pm an cdv ct) ps (SpF C (fnSv N.length ps.length sv)) := by
 refine fnG_of lk hcd S (fun vs H Q E h => h.len) fun A outer s H vs Q E hr hg h => ?_
 obtain ⟨ρ, cs, ds, O, r, rl, res⟩ := h
 refine ⟨_, hb cdv A outer s H E rfl hr (by first | exact (deeper_guards _ _).trans hg | exact hg) O, ρ, ⟨zql N.length ds, cs⟩, Rel.start r rl, ?_⟩
 have noOwn : ∀ i a, ¬ ownAt ⟨zql N.length ds, cs⟩ (L2.start N vs) i a := fun i a ⟨d, h, _⟩ => zqx h
 unfold fnSv at res
 split at res
 case isFalse => exact res.elim
 cases e : sv ⟨zql N.length ds, cs⟩ with
 | stuck => rw [e] at res; exact res
 | exc x st' =>
  rw [e] at res
  intro σ' ρ' H' cls d s1 xr
  refine res ρ' H' cls d (Step.done noOwn s1) ?_
  obtain ⟨e1, xr⟩ := xr
  refine ⟨e1, ?_⟩
  rcases xr with xr | ⟨a, vs, h1, h2, h3, h4, h5⟩
  · exact .inl xr
  · exact .inr ⟨a, vs, h1, fun z => h2 (av_done z), h3, h4, h5.mv (List.prefix_refl _) (fun _ _ e _ _ => e) fun a z => .inl (av_done z)⟩
 | ok fl st' =>
  rw [e] at res
  intro σ' ρ' H' s1
  have sd := Step.done noOwn s1
  cases fl with
  | bk => exact res.elim
  | ct => exact res.elim
  | nx => exact (res ρ' H' sd).2 .non .non (fun _ p e => nomatch e) fun p e => nomatch e
  | rt d kd =>
   intro v rv fv
   have mv : ∀ a, Av ρ' O ⟨[], st'.cs⟩ [] a → Av ρ' O st' σ' a ∨ H' a = none := fun a z => .inl (av_done z)
   cases kd with
   | fro => exact (res ρ' H' sd).2 v (Rep.mv (List.prefix_refl _) (fun _ _ e _ _ => e) mv rv) (fun z => nomatch z) trivial
   | new =>
    refine (res ρ' H' sd).2 v (Rep.mv (List.prefix_refl _) (fun _ _ e _ _ => e) mv rv.1) (fun _ p ep hc => ?_) fun p ep => fv rfl p ep
    exact (rv.2 p ep hc).mv (List.prefix_refl _) (fun _ _ e _ _ => e) (fun a z => z.elim (fun z => .inl (.inl (av_done z))) fun z => .inl (.inr z)) rfl
   | view i =>
    obtain ⟨p, rfl, es, c, n1, n2, u, n3⟩ := rv
    have npa : ¬ Av ρ' O ⟨[], st'.cs⟩ [] p := fun z => by
     rcases z with z | z | ⟨i, d, z, _⟩
     · exact n2 z
     · exact n1 z
     · simp at z
    have rp : Rep C ρ' (Av ρ' O ⟨[], st'.cs⟩ []) H' (.ref p) d := Cont.rep (A' := Av ρ' O ⟨[], st'.cs⟩ []) (fun a z => av_done z) npa c
    refine (res ρ' H' sd).2 _ rp (fun hk q eq hc => ?_) ?_
    · cases eq
      dsimp only at hk
      split at hk
      · rename_i d' hs
        have ow : ownAt st' σ' i p := ⟨d', hs, es⟩
        exact c.mv (List.prefix_refl _) (fun _ _ e _ _ => e) (fun a z => .inl (z.elim (fun z => av_done z) fun z => by subst z; exact .inr (.inr ⟨i, ow⟩))) rfl
      · cases hk
    · dsimp only
      split
      · exact fun q eq => by cases eq; exact n3
      · trivial
end
end D
namespace D
open PySem L2 PyProof.Rows
abbrev FunX (K : PySem.W.Frag) (x qual : Str) (st : Stmt) (dvs : List V) (kws : List (Str × V)) (f : Addr) (fd : FuncData) : Prop := FunD K x qual (defArgs st) (defBody st) (defScope st) dvs kws f fd
theorem FunX.of {K : PySem.W.Frag} {x qual : Str} {st : Stmt} {f : Addr} {fd : FuncData} (F : Fun K x qual st f fd) : FunX K x qual st [] [] f fd := by
 obtain ⟨oc, od, kV, doc, pm, an, cdv, ct, osl, h1, lk, hcd⟩ := F.ex
 exact ⟨⟨oc, od, .none, kV, doc, pm, an, cdv, ct, osl, h1, lk, hcd, .inl ⟨rfl, rfl⟩, .inl rfl⟩, F.kp⟩
section
variable {P : Program} {w : World} {mg : Str → Option Value} {base : Heap} {C : RC} {x qual : Str} {st : Stmt} {f : Addr} {fd : FuncData} {N ps : List Str} {k c : Nat} {sv : Sv} {dvs : List V} {kws : List (Str × V)}
theorem FunX.okI (F : FunX C.K x qual st dvs kws f fd) (S : FnScope N ps (defScope st))
 (hb : ∀ (cdv : Value) (A : Around) (outer : List Env) (s : Shared) (H : Hp) (E : XK), fd.code = cdv → Room k (A.deeper (envOfC qual (defScope st) s.heap.objs.size f cdv)) → (cxOf (L2.CX P w) P w C.K mg base N qual (defScope st) f cdv A outer s H E).A.guards = some [] →
  ∀ O H0, PSsD (cxOf (L2.CX P w) P w C.K mg base N qual (defScope st) f cdv A outer s H E) ⟨C, O, H0⟩ (fun cls d _ H' => E cls d H') (defBody st) sv) :
 FnG P w C.K mg base (k + 1) f fd ps (SpI C c (fnIni N.length ps.length c sv)) := by
 obtain ⟨oc, od, dV, kV, doc, pm, an, cdv, ct, osl, rfl, lk, hcd, _, _⟩ := F.ex
 exact okI_raw lk hcd S hb
theorem FunX.okG (F : FunX C.K x qual st dvs kws f fd) (S : FnScope N ps (defScope st))
 (hb : ∀ (cdv : Value) (A : Around) (outer : List Env) (s : Shared) (H : Hp) (E : XK), fd.code = cdv → Room k (A.deeper (envOfC qual (defScope st) s.heap.objs.size f cdv)) → (cxOf (L2.CX P w) P w C.K mg base N qual (defScope st) f cdv A outer s H E).A.guards = some [] →
  ∀ O, PSsD (cxOf (L2.CX P w) P w C.K mg base N qual (defScope st) f cdv A outer s H E) ⟨C, O, H⟩ (fun cls d _ H' => E cls d H') (defBody st) sv) :
 FnG P w C.K mg base (k + 1) f fd ps (SpF C (fnSv N.length ps.length sv)) := by
 obtain ⟨oc, od, dV, kV, doc, pm, an, cdv, ct, osl, rfl, lk, hcd, _, _⟩ := F.ex
 exact okG_raw lk hcd S hb
end
structure BindN (K : PySem.W.Frag) (fd : FuncData) (ps : List Str) (n : Nat) (ks : List Str) (π : List Nat) (ds : List Value) : Prop where
 to : ∀ (s : Shared) (us ws : List Value), K.In s.heap → us.length = n → ws.length = ks.length → BindsTo s fd ⟨us, ks.zip ws⟩ (ps.zip (permD π (us ++ (ws ++ ds))))
section
variable {K : PySem.W.Frag} {x qual : Str} {params : Arguments} {body : List Stmt} {scope : Scope} {dvs : List V} {kws : List (Str × V)} {f : Addr} {fd : FuncData} {ps : List Str}
theorem bindN_k (F : FunD K x qual params body scope [] kws f fd) (n : Nat) (ks : List Str) (ms : List (Str × V)) (π : List Nat) (hk : kws ≠ []) (hms : ∀ q ∈ ms, q ∈ kws)
 (h : ∀ (D : Addr) (doc pm : Value) (an : Option Addr) (cdv ct : Value) (us mv ws : List Value), us.length = n → mv.length = ms.length → ws.length = ks.length →
  KwChain D ((ms.map (·.1)).zip mv) (bindArgs (PySem.W.fnOf x qual params body scope .none (.ref D) doc pm an cdv ct) ⟨us, ks.zip ws⟩) (ps.zip (permD π (us ++ (ws ++ mv))))) :
 ∃ ds, Vals (ms.map (·.2)) ds ∧ BindN K fd ps n ks π ds := by
 obtain ⟨oc, od, dV, kV, doc, pm, an, cdv, ct, osl, rfl, lk, hcd, hD, hK⟩ := F.ex
 rcases hD with ⟨_, rfl⟩ | ⟨e, _⟩
 · rcases hK with e | ⟨D, rfl, hq⟩
   · exact absurd e hk
   · obtain ⟨mv, hl, rk, hks⟩ := kwd_vals (ms := ms) fun q hm => hq q (hms q hm)
     exact ⟨mv, rk, ⟨fun s us ws X l1 l2 => BindsTo.of_looks fun M => KwChain.looks X hks (h D doc pm an cdv ct us mv ws l1 hl l2)⟩⟩
 · exact absurd rfl e
end
def CW (X : Cx) (es : List Expr) (kws : List Keyword) (pos : Pos) (ks : List Str) (t tk : TA) : Prop :=
 ∀ (f : Value) (first : List Value) (pins : List (Addr × Obj)) (s : Shared) (σ : L2.St) (H : Hp) (R : List V → List V → Hp → Prop) (Q : Value → Shared → Prop), PySem.W.keepIn X.K f = true → L2.Inv X pins σ H s →
  t σ H (fun vs H1 => tk σ H1 fun zs H2 => R vs zs H2) → (∀ us ws vs zs H2 s2, L2.Inv X pins σ H2 s2 → Vals vs us → Vals zs ws → R vs zs H2 → wpAny (model X.prog X.w) X.A (call f (first ++ us) (ks.zip ws)) Q X.xe s2) →
  wpAny (model X.prog X.w) X.A (callWith pos f first (backTo pos (starEach es X.env)) (backToKw pos (keywordEach kws X.env))) Q X.xe s
section
variable {X : Cx} {e : Expr} {es : List Expr} {kws : List Keyword} {pos : Pos} {ks : List Str} {t tk : TA}
theorem cw_ak (ha : PA X (e :: es) t) (hkw : PK X kws tk) (hall : (backToKw pos (keywordEach kws X.env)).all (·.1.isSome) = true) (hks : (backToKw pos (keywordEach kws X.env)).filterMap (·.1) = ks)
 (he : starEach (e :: es) X.env = (false, eval e X.env) :: starEach es X.env) (hpl : ((backTo pos (starEach (e :: es) X.env)).any (·.1) || (backToKw pos (keywordEach kws X.env)).any (·.1.isNone)) = false) :
 CW X (e :: es) kws pos ks t tk := fun f first pins s σ H R Q hk I h k => by
 refine PySem.W.callWith_KW (first := first) (h₀ := X.base) I.ok.mod.kin hk hall (thn (ha.run pos pins s σ H _ I h) fun us s1 ⟨vs, H1, I1, r, q⟩ => ?_) hpl he
 refine thn (hkw.run pos pins s1 σ H1 _ I1 q) fun ws s2 ⟨zs, H2, I2, rz, q2⟩ => ⟨I2.kIn, ?_⟩
 rw [hks]
 exact k us ws vs zs H2 s2 I2 r rz q2
end
def akArr (π : List Nat) (n m : Nat) (dds : List DV) (ge gk : Ak) : Ak := fun st => (ge st).bind fun as st1 => (gk st1).bind fun bs st2 => if as.length = n ∧ bs.length = m then (match permL π (as ++ (bs ++ dds.map fun d => (d, Kd.fro))) with
 | some cs => .ok cs st2
 | none => .stuck) else .stuck
theorem RepKs.len {B : BC} {ρ : List CellA} {st : DS} {σ : L2.St} {H : Hp} {xs : List V} {as : List (DV × Kd)} (r : RepKs B ρ st σ H xs as) : xs.length = as.length := by
 induction r with
 | nil => rfl
 | cons _ _ ih => simp [ih]
theorem RepKs.cat {B : BC} {ρ : List CellA} {st : DS} {σ : L2.St} {H : Hp} {xs ys : List V} {as bs : List (DV × Kd)} (r : RepKs B ρ st σ H xs as) (q : RepKs B ρ st σ H ys bs) : RepKs B ρ st σ H (xs ++ ys) (as ++ bs) := by
 induction r with
 | nil => exact q
 | cons h _ ih => exact .cons h ih
section
variable {B : BC} {W : WX} {σ : L2.St} {H : Hp} {π : List Nat} {n m : Nat} {dds : List DV} {dvs : List V} {ge gk : Ak}
theorem akArr_of {G : List (DV × Kd) → DS → List CellA → Hp → Prop} {ρ : List CellA} {st : DS} (rel : Rel B ρ st σ H) (hdr : RepAny B.C dvs dds) {R : List V → List V → Hp → Prop} (res : Res B W σ ρ st H (akArr π n m dds ge gk st) G)
 (h : ∀ as st' ρ' H' vs zs ys, Step B σ ρ st H ρ' st' H' → Res B W σ ρ' st' H' (.ok as st') G → vs.length = n → zs.length = m → permL π (vs ++ (zs ++ dvs)) = some ys → RepKs B ρ' st' σ H' ys as → R vs zs H') :
 RK B W ge σ H (fun vs H1 => RK B W gk σ H1 fun zs H2 => R vs zs H2) := by
 unfold akArr at res
 refine RK.go rel (Res.bind res) fun as st1 ρ1 H1 s1 r1 vs rv => ?_
 refine RK.go s1.rel (Res.bind r1) fun bs st2 ρ2 H2 s2 r2 zs rz => ?_
 split at r2
 case isFalse => exact r2.elim
 rename_i hl
 cases e : permL π (as ++ (bs ++ dds.map fun d => (d, Kd.fro))) with
 | none => rw [e] at r2; exact r2.elim
 | some cs =>
  rw [e] at r2
  have rv' := RepKs.step s2 rv
  obtain ⟨ys, e1, ry⟩ := permL_rep (rv'.cat (RepKs.app rz (hdr _ _ _))) e
  exact h cs st2 ρ2 H2 vs zs ys (s1.trans s2) (by
   exact r2) (by rw [rv.len]; exact hl.1) (by rw [rz.len]; exact hl.2) e1 ry
end
section
variable {X : Cx} {k : Nat} {f : Addr} {fd : FuncData} {ps ks : List Str} {π : List Nat} {sp : Sp} {dvs : List V} {ds : List Value} {E : L2.St → XK} {x : Str} {p pos : Pos} {es : List Expr} {kws : List Keyword} {t tk : TA} {n : Nat}
def tMkN (C : RC) (c : Nat) (n m : Nat) (π : List Nat) (sp : Sp) (dvs : List V) (E : L2.St → XK) (t tk : TA) : TE := fun σ H Q => t σ H fun vs H1 => tk σ H1 fun zs H2 => vs.length = n ∧ zs.length = m ∧ (∃ ys, permL π (vs ++ (zs ++ dvs)) = some ys) ∧ ∀ x dx, H2 x = none → H2 dx = none → dx ≠ x →
 sp (.ref x :: permD π (vs ++ (zs ++ dvs))) (mkH C H2 x dx c) (fun v H3 => v = .non ∧ Q (.ref x) H3) (E σ)
theorem permD_self {α : Type} {a : α} {as bs : List α} (h : permL π as = some bs) : permD (0 :: π.map (· + 1)) (a :: as) = a :: permD π as := by
 have e : ∀ π : List Nat, permL (π.map (· + 1)) (a :: as) = permL π as := fun π => by
  induction π with
  | nil => rfl
  | cons i π ih =>
   rw [List.map_cons]
   unfold permL
   rw [ih, List.getElem?_cons_succ]
 unfold permD
 have e2 : permL (0 :: π.map (· + 1)) (a :: as) = some (a :: bs) := by
  show (match (a :: as)[0]?, permL (π.map (· + 1)) (a :: as) with | some a, some r => some (a :: r) | _, _ => none) = _
  rw [e, h]
  rfl
 rw [e2, h]
 rfl
theorem run_mkN {pins : List (Addr × Obj)} {σ : L2.St} {H : Hp} {s : Shared} {Q : VK} {us ws : List Value} {vs zs : List V} {C : RC} {c : Nat} (M : Mk X.K (C.cls c) f) (F : FnG X.prog X.w X.K X.mg X.base k f fd ps sp) (hr : Room (k + 1) X.A) (hg : X.A.guards = some [])
 (hb : BindN X.K fd ps (n + 1) ks (0 :: π.map (· + 1)) ds) (hd : Vals dvs ds) (hx : PassesAt (L2.CX X.prog X.w) X σ (E σ)) (I : L2.Inv X pins σ H s) (r : Vals vs us) (rz : Vals zs ws) (l1 : vs.length = n) (l2 : zs.length = ks.length) (hπ : ∃ ys, permL π (vs ++ (zs ++ dvs)) = some ys)
 (h : ∀ x dx, H x = none → H dx = none → dx ≠ x → sp (.ref x :: permD π (vs ++ (zs ++ dvs))) (mkH C H x dx c) (fun v H2 => v = .non ∧ Q (.ref x) H2) (E σ)) :
 wpAny (model X.prog X.w) X.A (call (.ref (C.cls c)) us (ks.zip ws)) (EP X pins σ Q) X.xe s := by
 obtain ⟨ys, hys⟩ := hπ
 have hq := h (s.heap.objs.size + 1) s.heap.objs.size (I.hok.fresh (Nat.le_succ _)) (I.hok.fresh (Nat.le_refl _)) (Nat.ne_of_lt (Nat.lt_succ_self _))
 have I2 := Inv.made (C := C.cls c) I
 have r1 : Vals (V.ref (s.heap.objs.size + 1) :: vs) (Value.ref (s.heap.objs.size + 1) :: us) := .cons rfl r
 have r2 := vals_perm (π := 0 :: π.map (· + 1)) (r1.append (rz.append hd))
 rw [List.cons_append, permD_self hys] at r2
 have n1 : (Value.ref (s.heap.objs.size + 1) :: us).length = n + 1 := by
  rw [List.length_cons, ← r.length, l1]
 refine wpAny_call (make_map (f := f) I.kIn M.makes M.init (beq_iff_eq.mp M.fn) (codeAny_mono (F.run _ X.stack _ _ ⟨Value.ref (s.heap.objs.size + 1) :: us, ks.zip ws⟩ _ _ _ (E σ) (hr.make (C.cls c) us (ks.zip ws)) (by first | exact hg | simpa using hg)
  (I2.env0.make (C.cls c) us (ks.zip ws)) (hb.to _ (Value.ref (s.heap.objs.size + 1) :: us) ws I2.kIn n1 (rz.length.symm.trans l2)) r2 hq) fun r s' hq' => ?_))
 cases r with
 | error e => exact (by
  have := hx pins _ _ e s' I2 hq'
  exact this)
 | ok fl =>
  cases fl with
  | ret u =>
   obtain ⟨v, H', I3, rv, ev, q3⟩ := I2.after hq'
   subst ev
   exact ⟨rv, ⟨V.ref (s.heap.objs.size + 1), H', I3, rfl, q3⟩⟩
  | next => exact False.elim hq'
  | brk => exact False.elim hq'
  | cont => exact False.elim hq'
end
end D
namespace D
open PySem L2 PyProof.Rows
section
variable {X : Cx} {B : BC} {W : WX} {σ : L2.St} {H : Hp} {Q : VK} {F : Fn} {π : List Nat} {n m : Nat} {dds : List DV} {dvs : List V} {ge gk : Ak}
theorem tMkN_of {c : Nat} (hdr : RepAny B.C dvs dds) (h : RD B W (zqr F (akArr π n m dds ge gk)) σ H Q) : tMkN B.C c n m π (SpI B.C c F) dvs (WE W) (RK B W ge) (RK B W gk) σ H Q := by
 obtain ⟨ρ, st, rel, res⟩ := h
 unfold zqr at res
 refine akArr_of rel hdr (R := fun vs zs H2 => vs.length = n ∧ zs.length = m ∧ (∃ ys, permL π (vs ++ (zs ++ dvs)) = some ys) ∧ ∀ x dx, H2 x = none → H2 dx = none → dx ≠ x →
  SpI B.C c F (.ref x :: permD π (vs ++ (zs ++ dvs))) (mkH B.C H2 x dx c) (fun v H3 => v = .non ∧ Q (.ref x) H3) (WE W σ)) (Res.bind res) fun as st1 ρ1 H1 vs zs ys s1 r1 l1 l2 e ry => ?_
 have r2 := Res.now s1.rel r1
 refine ⟨l1, l2, ⟨ys, e⟩, fun x dx hx hdx hne => ?_⟩
 have e4 : permD π (vs ++ (zs ++ dvs)) = ys := by unfold permD; rw [e]; rfl
 rw [e4]
 exact ⟨x, dx, H1, ys, Q, rfl, hx, hdx, hne, rfl, spF_of s1.rel ry (r2.imp fun _ _ _ _ _ => GE.dm s1.dm _ _ _ _), fun H' q => ⟨rfl, q⟩⟩
end
section
variable {X : Cx} {k : Nat} {f : Addr} {fd : FuncData} {ps ks : List Str} {π : List Nat} {sp : Sp} {dvs : List V} {ds : List Value} {E : L2.St → XK} {x : Str} {p pos : Pos} {es : List Expr} {kws : List Keyword} {t tk : TA} {n : Nat}
theorem pe_mkN {C : RC} {c : Nat} (M : Mk X.K (C.cls c) f) (F : FnG X.prog X.w X.K X.mg X.base k f fd ps sp) (hr : Room (k + 1) X.A) (hgu : X.A.guards = some []) (hg : Gl X x) (hm : X.mg x = some (.ref (C.cls c))) (hb : BindN X.K fd ps (n + 1) ks (0 :: π.map (· + 1)) ds) (hd : Vals dvs ds)
 (hx : ∀ σ, PassesAt (L2.CX X.prog X.w) X σ (E σ)) (hw : CW X es kws pos ks t tk) (hdb : (x == ("__debug__" : Str)) = false) : PE X (.Call (.Name x p) es kws pos) (tMkN C c n ks.length π sp dvs E t tk) := by
 refine ⟨fun pins s σ H Q I h => ?_⟩
 refine wpAny_Call_Name_kw (ld_glob I hg hm ?_ hdb)
 exact hw (.ref (C.cls c)) [] pins s σ H (fun vs zs H2 => vs.length = n ∧ zs.length = ks.length ∧ (∃ ys, permL π (vs ++ (zs ++ dvs)) = some ys) ∧ ∀ x dx, H2 x = none → H2 dx = none → dx ≠ x → sp (.ref x :: permD π (vs ++ (zs ++ dvs))) (mkH C H2 x dx c) (fun v H3 => v = .non ∧ Q (.ref x) H3) (E σ)) _ M.kp I h
  fun us ws vs zs H2 s2 I2 r rz ⟨l1, l2, hπ, q⟩ => run_mkN M F hr hgu hb hd (hx σ) I2 r rz l1 l2 hπ q
end
def insOf (st : DS) : DV → Option (Nat × List Str)
 | .ins c ns _ => some (c, ns)
 | .cel k => match st.cs[k]? with
  | some (.obj (.ins c ns _)) => some (c, ns)
  | _ => none
 | _ => none
theorem insOf_rep {B : BC} {σ : L2.St} {ρ : List CellA} {st : DS} {H : Hp} {kd : Kd} {v : V} {d : DV} {c : Nat} {ns : List Str} (rel : Rel B ρ st σ H) (r : RepK B ρ st σ H kd v d) (h : insOf st d = some (c, ns)) : ∃ a dx xs, v = .ref a ∧ H a = some (.ins (B.C.cls c) dx (ns.zip xs)) := by
 cases d <;> try (cases h; done)
 · cases h
   obtain ⟨p, dx, xs, rfl, e1, _, _⟩ := r.ins
   exact ⟨p, dx, xs, rfl, e1⟩
 · rename_i k
   obtain ⟨cc, hc, rfl⟩ := rep_cel r
   unfold insOf at h
   dsimp only at h
   cases hk : st.cs[k]? with
   | none => rw [hk] at h; cases h
   | some y =>
    rw [hk] at h
    cases y with
    | draw => cases h
    | dead => cases h
    | obj d0 =>
     cases d0 <;> try (cases h; done)
     cases h
     obtain ⟨_, dx, xs, e1, _, _⟩ := rel.cel.ok k cc _ hc hk
     exact ⟨cc.main, dx, xs, rfl, e1⟩
abbrev MTab (α : Type) := Nat → Option (List Nat × List α × Fn)
def akArrO (a : DV × Kd) (π : List Nat) (n m : Nat) (dds : List DV) (ge gk : Ak) : Ak := fun st => (ge st).bind fun as st1 => (gk st1).bind fun bs st2 => if as.length = n ∧ bs.length = m then (match permL π ((a :: as) ++ (bs ++ dds.map fun d => (d, Kd.fro))) with
 | some cs => .ok cs st2
 | none => .stuck) else .stuck
def evMth (L : MTab DV) (mn : Str) (n m : Nat) (fo : Ev) (ge gk : Ak) : Ev := fun st => (fo st).bind fun a st1 => match insOf st1 a.1 with
 | some (c, ns) => if ns.contains mn = true then .stuck else (match L c with
  | some (π, dds, F) => (akArrO a π n m dds ge gk st1).bind fun as st2 => backTo' st2.sl as (F (as.map (·.1)) ⟨[], st2.cs⟩)
  | none => .stuck)
 | none => .stuck
section
variable {X : Cx} {C : RC} {k n : Nat} {ks : List Str} {E : L2.St → XK} {mn : Str} {apos pos : Pos} {o : Expr} {es : List Expr} {kws : List Keyword} {to : TE} {t tk : TA} {L : MTab DV}
end
section
variable {B : BC} {W : WX} {σ : L2.St} {H : Hp} {Q : VK} {n m : Nat} {ge gk : Ak} {fo : Ev} {L : MTab DV} {mn : Str}
end
abbrev PTab := Nat → Option Fn
def evPrp (L : PTab) (fo : Ev) : Ev := fun st => (fo st).bind fun a st1 => match insOf st1 a.1 with
 | some (c, ns) => (match L c with
  | some F => (match F [a.1] ⟨[], st1.cs⟩ with
   | .ok r st2 => backTo' st1.sl [a] (.ok r st2)
   | _ => .stuck)
  | none => .stuck)
 | none => .stuck
def PrpOk (X : Cx) (k : Nat) (Ca : Addr) (pn : Str) (sp : Sp) : Prop := ∃ p g fd ps, Cls X.K Ca ∧ PropOf X.K Ca pn p g ∧ FnG X.prog X.w X.K X.mg X.base k g fd ps sp ∧ Binds X.K fd ps []
def POk (X : Cx) (C : RC) (k : Nat) (pn : Str) (L : PTab) : Prop := ∀ c F, L c = some F → PrpOk X k (C.cls c) pn (SpF C F)
def tPrpN (C : RC) (L : PTab) (to : TE) : TE := fun σ H Q => to σ H fun x H1 => ∃ a c dx fs F, x = .ref a ∧ H1 a = some (.ins (C.cls c) dx fs) ∧ L c = some F ∧ SpF C F [x] H1 Q (WE WF σ)
section
variable {X : Cx} {C : RC} {k : Nat} {pn : Str} {pos : Pos} {o : Expr} {to : TE} {L : PTab}
theorem getpropG {Ca p g a dx : Addr} {fs : List (Str × V)} {fd : FuncData} {ps : List Str} {sp : Sp} {pins : List (Addr × Obj)} {σ : L2.St} {H : Hp} {s : Shared} {Q : VK} {b : Bool} {E' : Value → Shared → Prop} (I : L2.Inv X pins σ H s) (ea : H a = some (.ins Ca dx fs)) (c : Cls X.K Ca) (hp : PropOf X.K Ca pn p g)
 (F : FnG X.prog X.w X.K X.mg X.base k g fd ps sp) (hr : Room (k + 1) X.A) (hgu : X.A.guards = some []) (hb : Binds X.K fd ps []) (h : sp [.ref a] H Q (WE WF σ)) :
 wpAny (model X.prog X.w) X.A (getAttr (.ref a) pn b) (EP X pins σ Q) E' s := by
 obtain ⟨mA, O, _, _, _, _⟩ := ins_get I.hok ea
 obtain ⟨od, J, _⟩ := O.look
 obtain ⟨rest, hrec⟩ := hp.rec_
 have I1 := I.tok (s.toks + 1)
 have hl : ([Value.ref a] ++ []).length = ps.length := by
  rw [← F.len _ _ _ _ h]
  rfl
 have hc : (PySem.W.clsIn X.K Ca).isSome = true := by
  obtain ⟨cd, hc, _⟩ := PySem.W.any_some c.hd
  rw [hc]
  rfl
 refine PySem.W.get_bind I.kIn J (PySem.W.plainGet_of (c.get pn)).1 (PySem.W.findObj_data hc hp.at_ hp.get hp.tak) (PySem.W.plainGet_of (c.get pn)).2 (wpAny_call (PySem.W.prop_get (s := { s with toks := s.toks + 1 }) I.kIn hrec ?_))
 refine codeAny_mono (F.run X.A.in1 X.stack { s with toks := s.toks + 1 } H ⟨[.ref a], []⟩ [.ref a] [.ref a] Q (WE WF σ) hr.in1 (by first | exact hgu | simpa using hgu) I1.env0.in1 (hb _ [.ref a] I1.kIn hl) (.cons rfl .nil) h) fun r s' hq => ?_
 cases r with
 | error er => exact False.elim (passAt (X := X.nox) takesF σ pins H { s with toks := s.toks + 1 } er s' (I1.wish _) hq)
 | ok fl =>
  cases fl with
  | ret u =>
   obtain ⟨v, H', I3, rv, q3⟩ := I1.after hq
   show wpAny _ _ (handedOut u) _ _ _
   rw [PySem.W.handedOut_of (handed_of rv)]
   exact wpAny_pure ⟨v, H', I3, rv, q3⟩
  | next => exact False.elim hq
  | brk => exact False.elim hq
  | cont => exact False.elim hq
theorem pe_prpN (ho : PE X o to) (hL : POk X C k pn L) (hr : Room (k + 1) X.A) (hgu : X.A.guards = some []) (hab : attributeBase o pn X.env (eval o X.env) = eval o X.env) : PE X (.Attribute o pn pos) (tPrpN C L to) := by
 refine ⟨fun pins s σ H Q I h => ?_⟩
 refine attr_of hab (thn (ho.run pins s σ H _ I h) fun u s1 ⟨x, H1, I1, rx, a, c, dx, fs, F, ex, ea, eL, q⟩ => ?_)
 subst ex
 obtain rfl : u = Value.ref a := rx
 obtain ⟨p, g, fd, ps, hc, hp, Fk, hb⟩ := hL c F eL
 exact getpropG I1 ea hc hp Fk hr hgu hb q
variable {B : BC} {W : WX} {σ : L2.St} {H : Hp} {Q : VK} {fo : Ev}
theorem tPrpN_of (h : RD B W (evPrp L fo) σ H Q) : tPrpN B.C L (RD B W fo) σ H Q := by
 obtain ⟨ρ, st, rel, res⟩ := h
 unfold evPrp at res
 refine RD.go rel (Res.bind res) fun a st1 ρ1 H1 s1 r1 x rx fx => ?_
 cases hi : insOf st1 a.1 with
 | none => rw [hi] at r1; exact r1.elim
 | some p =>
  obtain ⟨c, ns⟩ := p
  rw [hi] at r1
  dsimp only at r1
  cases hl : L c with
  | none => rw [hl] at r1; exact r1.elim
  | some F =>
   rw [hl] at r1
   dsimp only at r1
   obtain ⟨p, dx, xs, rfl, ea⟩ := insOf_rep s1.rel rx hi
   refine ⟨p, c, dx, _, F, rfl, ea, hl, ?_⟩
   refine spF_of (W := WF) (as := [a]) s1.rel (.cons rx .nil) ?_
   show Res B WF σ ρ1 st1 H1 (backTo' st1.sl [a] (F [a.1] ⟨[], st1.cs⟩)) _
   cases e : F [a.1] ⟨[], st1.cs⟩ with
   | stuck => rw [e] at r1; exact r1.elim
   | exc x st2 => rw [e] at r1; exact r1.elim
   | ok r st2 =>
    rw [e] at r1
    have r1 : Res B W σ ρ1 st1 H1 (backTo' st1.sl [a] (.ok r st2)) _ := r1
    intro ρ' H' s2
    exact GE.dm s1.dm _ _ _ _ (r1 ρ' H' s2)
end
end D
namespace GNe
open PySem PySem.Spec PyProof.Rows PySem.SeqAt
section
variable {M : Model} {prog : Program} {w : World} {A : Around} {E : Value → Shared → Prop} {s : Shared} {K : PySem.W.Frag} {x C f h0 : Addr} {ox : Obj} {od : Option Obj} {b tb : Value}
end
end GNe
namespace D
open PySem L2 PyProof.Rows
structure Grow (T : List (Addr × Str)) (H H' : Hp) : Prop where
 fr : ∀ a o, H a = some o → NT o → H' a = some o
 dm : ∀ a, H a ≠ none → H' a ≠ none
 tabs : LamX.Tabs T H'
theorem Grow.refl {T : List (Addr × Str)} {H : Hp} (t : LamX.Tabs T H) : Grow T H H := ⟨fun _ _ e _ => e, fun _ z => z, t⟩
theorem Grow.trans {T : List (Addr × Str)} {H H1 H2 : Hp} (a : Grow T H H1) (b : Grow T H1 H2) : Grow T H H2 := ⟨fun x o e n => b.fr x o (a.fr x o e n) n, fun x z => b.dm x (a.dm x z), b.tabs⟩
theorem Rep.grow {C : RC} {ρ : List CellA} {A : Addr → Prop} {H H' : Hp} (g : Grow C.T H H') {v : V} {d : DV} (r : Rep C ρ A H v d) : Rep C ρ A H' v d := r.mv (List.prefix_refl _) (fun a o e _ n => g.fr a o e n) fun _ z => .inl z
section
variable {B : BC} {σ : L2.St} {ρ : List CellA} {st : DS} {H H' : Hp}
theorem Step.grow (rel : Rel B ρ st σ H) (g : Grow B.C.T H H') : Step B σ ρ st H ρ st H' := by
 refine Step.called rel (List.prefix_refl _) (fun a o e _ n => g.fr a o e n) (fun a z => .inl z) g.dm ⟨rel.cel.len, fun k c x h1 h2 => ?_, rel.cel.dis⟩ (fun a z => g.dm a (rel.cdom a z)) g.tabs
 have q := rel.cel.ok k c x h1 h2
 cases x with
 | draw d =>
  obtain ⟨gg, l, e1, n1, n2, n3, e3, e4, e5⟩ := q
  exact ⟨gg, l, e1, n1, n2, n3, g.fr _ _ e3 trivial, g.fr _ _ e4 trivial, g.fr _ _ e5 trivial⟩
 | obj d =>
  obtain ⟨o, eo, nt⟩ := q.2.nt
  exact ⟨q.1, q.2.mv (List.prefix_refl _) (fun a o e _ n => g.fr a o e n) (fun a z => .inl z) ((g.fr _ _ eo nt).trans eo.symm)⟩
 | dead => trivial
theorem Rel.bare (rel : Rel B ρ st σ H) : Rel ⟨B.C, Av ρ B.O st σ, H⟩ [] ⟨[], []⟩ [] H := by
 refine ⟨rfl, fun i d h => by simp at h, fun i d h => by simp at h, fun i j p h => by obtain ⟨d, h, _⟩ := h; simp at h, fun a z => z, fun a z => ?_, ⟨rfl, fun k c x h1 => by simp at h1, fun i j c c' h1 => by simp at h1⟩, fun a z => by obtain ⟨c, hc, _⟩ := z; simp at hc, rel.tabs⟩
 rcases z with z | z | ⟨i, d, h1, h2⟩
 · exact rel.odom a z
 · exact rel.cdom a z
 · obtain ⟨p, e, c, _⟩ := rel.own i d h1
   rw [h2] at e
   cases e
   exact c.some
theorem av_bare {O : Addr → Prop} {a : Addr} (z : Av [] O ⟨[], []⟩ [] a) : O a := by
 rcases z with z | z | ⟨i, d, h1, _⟩
 · exact z
 · obtain ⟨c, hc, _⟩ := z; simp at hc
 · simp at h1
theorem Rep.bare {C : RC} {A : Addr → Prop} {v : V} {d : DV} (h : noCel d = true) (r : Rep C ρ A H v d) : Rep C [] (Av [] A ⟨[], []⟩ []) H v d := r.nocel (fun _ _ e _ _ => e) (fun a z => .inl (av_bare z)) h
end
structure Two (C : RC) (O : Addr → Prop) (H : Hp) (x y : V) (a b : DV) : Prop where
 rel : Rel ⟨C, O, H⟩ [] ⟨[], []⟩ [] H
 rx : Rep C [] (Av [] O ⟨[], []⟩ []) H x a
 ry : Rep C [] (Av [] O ⟨[], []⟩ []) H y b
section
variable {X : Cx} {C : RC} {ct : CT} {k : Nat} {L : PTab}
theorem Two.ins {O : Addr → Prop} {H : Hp} {x y : V} {c : Nat} {ns : List Str} {ds : List DV} {b : DV} (t : Two C O H x y (.ins c ns ds) b) : ∃ p dx xs, x = .ref p ∧ H p = some (.ins (C.cls c) dx (ns.zip xs)) := by
 have r := t.rx
 cases r with
 | ins n e l q => exact ⟨_, _, _, rfl, e⟩
end
end D
namespace D
open PySem L2 PyProof.Rows
def putDK (k : Key) (a : DV) : List Key → List DV → List Key × List DV
 | j :: ks, d :: ds => if j = k then (j :: ks, a :: ds) else (j :: (putDK k a ks ds).1, d :: (putDK k a ks ds).2)
 | _, _ => ([k], [a])
section
variable {X : Cx} {B : BC} {W : WX} {i : Nat}
def svSetD (i : Nat) (fi fe : Ev) : Sv := fun st => match st.sl[i]? with
 | some (some (.dct _ _, true)) => (fe st).bind fun a st1 => (fi (st1.eat a.2)).bind fun j st2 => (match st2.sl[i]?, keyD j.1 with
  | some (some (.dct ks ds, true)), some k => if ks.Nodup ∧ ks.length < sizeLine then .ok .nx ⟨st2.sl.set i (some (.dct (putDK k a.1 ks ds).1 (putDK k a.1 ks ds).2, true)), st2.cs⟩ else .stuck
  | _, _ => .stuck)
 | _ => .stuck
end
section
variable {X : Cx} {C : RC} {W : WX} {O : Addr → Prop} {H0 : Hp} {x : Str} {pos p1 p2 : Pos} {e ie : Expr} {fe fi : Ev} {k : Nat}
end
section
variable {X : Cx} {C : RC} {W : WX} {O : Addr → Prop} {H0 : Hp} {pos p : Pos} {e : Expr} {gk : Ak} {k : Nat}
end
def svAppPop (i j : Nat) (fe : Ev) : Sv := fun st => match st.sl[i]?, st.sl[j]? with
 | some (some (.lst _, true)), some (some (.lst _, true)) => if i = j then .stuck else (fe st).bind fun a st1 => (match st1.sl[i]?, st1.sl[j]?, a.1 with
  | some (some (.lst ds, true)), some (some (.lst es, true)), .int z => if -(2 ^ 63) ≤ z ∧ z < 2 ^ 63 ∧ ds.length < sizeLine then (match seqIndex? z es.length with
   | some n => (match es[n]? with
    | some d => .ok .nx ⟨(st1.sl.set j (some (.lst (es.eraseIdx n), true))).set i (some (.lst (ds ++ [d]), true)), st1.cs⟩
    | none => .stuck)
   | none => .stuck) else .stuck
  | _, _, _ => .stuck)
 | _, _ => .stuck
section
variable {X : Cx} {B : BC} {W : WX} {i j : Nat}
end
section
variable {X : Cx} {C : RC} {W : WX} {O : Addr → Prop} {H0 : Hp} {x y : Str} {p1 p3 apos cpos apos2 cpos2 pos : Pos} {e : Expr} {fe : Ev} {k : Nat}
end
end D
namespace D
open PySem L2 PyProof.Rows
section
variable {C : RC} {ρ : List CellA} {A A' : Addr → Prop} {H : Hp}
end
section
variable {X : Cx} {B : BC} {W : WX} {e : Expr} {f : Ev}
end
end D
namespace D
open PySem L2 PyProof.Rows ClX
section
variable {X : Cx} {x : Str} {C : Addr} {mc : Value} {e : Expr} {es : List Expr} {ta : TA} {p1 p2 pos : Pos}
end
def SpX (K : PySem.W.Frag) (C : Addr) (fs : List Str) : Sp := fun vs H Q _ => ∃ a ws, vs = V.ref a :: ws ∧ ws.length = fs.length ∧ OexC K C ∧ H a = some (exo a C none) ∧
 ∀ H2 d, H d = none → d ≠ a → (∀ b, b ≠ a → b ≠ d → H2 b = H b) → H2 a = some (exo a C (some d)) → H2 d = some (exd d (fs.zip ws).reverse) → Q .non H2
def svRaiseX (c : Nat) (fs : List Str) (g : Ak) : Sv := fun st => (g st).bind fun as st1 => if as.length = fs.length then .exc ⟨c, fs.reverse, (as.map (·.1)).reverse⟩ (zqC st1 as) else .stuck
section
variable {X : Cx} {B : BC} {W : WX} {c k : Nat} {x : Str} {fI : Addr} {fd : FuncData} {ps : List Str} {ds : List Value} {fs : List Str} {e : Expr} {es : List Expr} {g : Ak} {p p2 pos : Pos}
end
section
variable {P : Program} {w : World} {K : PySem.W.Frag} {mg : Str → Option Value} {base : Heap} {k : Nat} {f : Addr} {qual name : Str} {params : Arguments} {body : List Stmt} {scope : Scope} {dV kV doc pm cdv ct oc : Value} {an od : Option Addr}
 {osl : Array (Option Value)} {N ps : List Str} {C : Addr} {m fa fb : Str}
theorem SpX.len {fs : List Str} {vs : List V} {H : Hp} {Q : VK} {E : XK} (h : SpX K C fs vs H Q E) : vs.length = fs.length + 1 := by
 obtain ⟨a, ws, rfl, h1, _⟩ := h
 rw [List.length_cons, h1]
end
structure XK1 (P : Program) (w : World) (K : PySem.W.Frag) (mg : Str → Option Value) (base : Heap) (k : Nat) (C : Addr) (fs : List Str) : Prop where
 T : OexC K C
 ex : ∃ fI fd ps, PySem.W.findIn K (.ref C) "__init__" = some (some (.ref fI)) ∧ PySem.W.typeIn K (.ref fI) = some (.type "function") ∧ FnOk P w K mg base (L2.CX P w) k fI fd ps (SpX K C fs) ∧ Binds K fd ps []
theorem XK1.mono {P : Program} {w : World} {K : PySem.W.Frag} {mg : Str → Option Value} {base : Heap} {j k : Nat} {C : Addr} {fs : List Str} (h : XK1 P w K mg base j C fs) (hj : j ≤ k) : XK1 P w K mg base k C fs := by
 obtain ⟨T, fI, fd, ps, h1, h2, F, hb⟩ := h
 exact ⟨T, fI, fd, ps, h1, h2, F.mono hj, hb⟩
end D
namespace D
open PySem L2 PyProof.Rows
section
variable {X : Cx} {B : BC} {W : WX} {e : Expr} {es : List Expr} {kws : List Keyword} {pos : Pos} {ks : List Str} {ge gk : Ak} {σ : L2.St} {H : Hp}
theorem RK.mono {g : Ak} {Q Q' : List V → Hp → Prop} (h : RK B W g σ H Q) (m : ∀ vs H, Q vs H → Q' vs H) : RK B W g σ H Q' := by
 obtain ⟨ρ, st, rel, r⟩ := h
 exact ⟨ρ, st, rel, r.imp fun _ _ _ _ _ g vs rv => m _ _ (g vs rv)⟩
theorem RK.nil {Q : List V → Hp → Prop} (h : RK B W zqh σ H Q) : Q [] H := by
 obtain ⟨ρ, st, rel, r⟩ := h
 exact Res.now rel r [] .nil
theorem cwd_ak (ha : PKD X B W (e :: es) ge) (hkw : PWKD X B W kws gk) (hall : (backToKw pos (keywordEach kws X.env)).all (·.1.isSome) = true := by rfl) (hks : (backToKw pos (keywordEach kws X.env)).filterMap (·.1) = ks := by rfl)
 (he : starEach (e :: es) X.env = (false, eval e X.env) :: starEach es X.env := by rfl) (hpl : ((backTo pos (starEach (e :: es) X.env)).any (·.1) || (backToKw pos (keywordEach kws X.env)).any (·.1.isNone)) = false := by rfl) :
 CW X (e :: es) kws pos ks (RK B W ge) (RK B W gk) := cw_ak ha hkw hall hks he hpl
end
def BnD (C : RC) (K : PySem.W.Frag) (fd : FuncData) (ps : List Str) (n : Nat) (ks : List Str) (π : List Nat) (dds : List DV) : Prop := ∃ dvs ds, RepAny C dvs dds ∧ Vals dvs ds ∧ BindN K fd ps n ks π ds
def POk' (P : Program) (w : World) (K : PySem.W.Frag) (mg : Str → Option Value) (base : Heap) (C : RC) (k : Nat) (pn : Str) (L : PTab) : Prop := ∀ c F, L c = some F →
 ∃ p g fd ps, Cls K (C.cls c) ∧ PropOf K (C.cls c) pn p g ∧ FnG P w K mg base k g fd ps (SpF C F) ∧ Binds K fd ps []
section
variable {X : Cx} {C : RC} {O : Addr → Prop} {H0 : Hp} {W : WX} {k l n : Nat} {o : Expr} {es : List Expr} {kws : List Keyword} {pos p apos : Pos} {x mn pn : Str} {ks : List Str} {ge gk : Ak} {fo : Ev} {F : Fn} {f : Addr} {fd : FuncData} {ps : List Str} {π : List Nat} {dds : List DV}
theorem w_mk (n : Nat) (ks : List Str) (π : List Nat) (dds : List DV) (c : Nat) (fx : Fx X C W k) (M : Mk X.K (C.cls c) f) (Fk : FnG X.prog X.w X.K X.mg X.base l f fd ps (SpI C c F)) (hm : X.mg x = some (.ref (C.cls c))) (hb : BnD C X.K fd ps (n + 1) ks (0 :: π.map (· + 1)) dds)
 (hw : CW X es kws pos ks (RK ⟨C, O, H0⟩ W ge) (RK ⟨C, O, H0⟩ W gk)) (hl : l + 1 ≤ k := by decide) (hg : Gl X x := by rfl) (hdb : (x == ("__debug__" : Str)) = false := by decide) :
 PD X ⟨C, O, H0⟩ W (.Call (.Name x p) es kws pos) (evN (zqr F (akArr π n ks.length dds ge gk))) := by
 obtain ⟨dvs, ds, hdr, hd, hb⟩ := hb
 exact pd_n (PE.mono (pe_mkN (E := WE W) M Fk (fx.room.mono hl) fx.gu hg hm hb hd (passAt fx.tk) hw hdb) fun _ _ _ h => tMkN_of (B := ⟨C, O, H0⟩) hdr h)
theorem w_prp (l : Nat) (L : PTab) (fx : Fx X C W k) (hL : POk' X.prog X.w X.K X.mg X.base C l pn L) (ho : PD X ⟨C, O, H0⟩ W o fo) (hl : l + 1 ≤ k := by decide) (hab : attributeBase o pn X.env (eval o X.env) = eval o X.env := by rfl) :
 PD X ⟨C, O, H0⟩ W (.Attribute o pn pos) (evN (evPrp L fo)) := by
 have hL2 : POk X C l pn L := fun c F h => by
  obtain ⟨p, g, fd, ps, h1, h2, h3, h4⟩ := hL c F h
  exact ⟨p, g, fd, ps, h1, h2, h3, h4⟩
 exact pd_n (PE.mono (pe_prpN ho hL2 (fx.room.mono hl) fx.gu hab) fun _ _ _ h => tPrpN_of (B := ⟨C, O, H0⟩) h)
end
def FunY (K : PySem.W.Frag) (x qual : Str) (st : Stmt) (f : Addr) (fd : FuncData) : Prop := ∃ dvs kws, FunX K x qual st dvs kws f fd
section
variable {P : Program} {w : World} {mg : Str → Option Value} {base : Heap} {C : RC} {x qual : Str} {st : Stmt} {f : Addr} {fd : FuncData} {N ps : List Str} {k c : Nat} {sv : Sv}
theorem FunY.kp {K : PySem.W.Frag} (F : FunY K x qual st f fd) : PySem.W.keepIn K (.ref f) = true := by
 obtain ⟨_, _, F⟩ := F
 exact F.kp
theorem FunY.okI (F : FunY C.K x qual st f fd) (S : FnScope N ps (defScope st))
 (hb : ∀ (cdv : Value) (A : Around) (outer : List Env) (s : Shared) (H : Hp) (E : XK), fd.code = cdv → Room k (A.deeper (envOfC qual (defScope st) s.heap.objs.size f cdv)) → (cxOf (L2.CX P w) P w C.K mg base N qual (defScope st) f cdv A outer s H E).A.guards = some [] →
  ∀ O H0, PSsD (cxOf (L2.CX P w) P w C.K mg base N qual (defScope st) f cdv A outer s H E) ⟨C, O, H0⟩ (fun cls d _ H' => E cls d H') (defBody st) sv) :
 FnG P w C.K mg base (k + 1) f fd ps (SpI C c (fnIni N.length ps.length c sv)) := by
 obtain ⟨_, _, F⟩ := F
 exact FunX.okI F S hb
theorem FunY.okG (F : FunY C.K x qual st f fd) (S : FnScope N ps (defScope st))
 (hb : ∀ (cdv : Value) (A : Around) (outer : List Env) (s : Shared) (H : Hp) (E : XK), fd.code = cdv → Room k (A.deeper (envOfC qual (defScope st) s.heap.objs.size f cdv)) → (cxOf (L2.CX P w) P w C.K mg base N qual (defScope st) f cdv A outer s H E).A.guards = some [] →
  ∀ O, PSsD (cxOf (L2.CX P w) P w C.K mg base N qual (defScope st) f cdv A outer s H E) ⟨C, O, H⟩ (fun cls d _ H' => E cls d H') (defBody st) sv) :
 FnG P w C.K mg base (k + 1) f fd ps (SpF C (fnSv N.length ps.length sv)) := by
 obtain ⟨_, _, F⟩ := F
 exact FunX.okG F S hb
theorem Fun.okI (F : Fun C.K x qual st f fd) (S : FnScope N ps (defScope st))
 (hb : ∀ (cdv : Value) (A : Around) (outer : List Env) (s : Shared) (H : Hp) (E : XK), fd.code = cdv → Room k (A.deeper (envOfC qual (defScope st) s.heap.objs.size f cdv)) → (cxOf (L2.CX P w) P w C.K mg base N qual (defScope st) f cdv A outer s H E).A.guards = some [] →
  ∀ O H0, PSsD (cxOf (L2.CX P w) P w C.K mg base N qual (defScope st) f cdv A outer s H E) ⟨C, O, H0⟩ (fun cls d _ H' => E cls d H') (defBody st) sv) :
 FnG P w C.K mg base (k + 1) f fd ps (SpI C c (fnIni N.length ps.length c sv)) := FunX.okI (FunX.of F) S hb
end
section
variable {X : Cx} {C : RC} {O : Addr → Prop} {H0 : Hp} {W : WX} {k : Nat} {a b : Expr} {fa fb : Ev} {pos : Pos} {ct : CT}
end
end D
namespace GIn
open PySem PySem.Spec PyProof.Rows PySem.SeqAt
section
variable {M : Model} {A : Around} {E : Value → Shared → Prop} {s : Shared} {K : PySem.W.Frag} {x C f : Addr} {ox : Obj} {od : Option Obj}
end
end GIn
namespace D
open PySem L2 PyProof.Rows
section
variable {X : Cx} {C : RC} {k : Nat} {L : PTab}
end
section
variable {X : Cx} {C : RC} {O : Addr → Prop} {H0 : Hp} {W : WX} {k : Nat} {a b : Expr} {fa fb : Ev} {pos : Pos}
end
end D
namespace D
open PySem L2 PyProof.Rows
def memK (ks : List Key) (k : Key) : Bool := ks.any fun j => decide (j = k)
def insK (ks : List Key) (k : Key) : List Key := if memK ks k = true then ks else ks ++ [k]
section
variable {X : Cx} {pins : List (Addr × Obj)} {σ : L2.St} {elt tg iter : Expr} {scope : Scope} {own : List (Str × Nat)} {pos : Pos} {g : TG} {te : TE}
end
end D
namespace D
open PySem L2 PyProof.Rows
def setL (ds : List DV) : List Key := (ds.filterMap keyD).foldl insK []
def evKey (fe : Ev) : Ev := fun st => (fe st).bind fun a st1 => if (keyD a.1).isSome = true then .ok a st1 else .stuck
def evLenSc (vs : List Nat) (fi : Iv) (g : Gv) (fe : Ev) : Ev := fun st => (fi st).bind fun ds st1 => if ds.length + 1 < scanBound then (match lcGo vs g tvYes (evKey fe) ds [] (st1.dropAll vs) with
 | some r => .ok (.int (setL r.1).length, .new) r.2
 | none => .stuck) else .stuck
section
variable {B : BC} {σ : L2.St} {ρ : List CellA} {st : DS} {H : Hp} {p : Addr}
end
section
variable {B : BC} {σ : L2.St} {W : WX} {H : Hp} {vs : List Nat} {P : Program} {w : World}
end
section
variable {X : Cx} {C : RC} {O : Addr → Prop} {H0 : Hp} {W : WX} {k : Nat} {elt tg iter : Expr} {scope : Scope} {pos lpos np : Pos}
end
end D
namespace D
open PySem L2 PyProof.Rows
section
variable {C : RC} {O : Addr → Prop} {H H' : Hp} {x y : V} {a b : DV}
theorem Two.grow (t : Two C O H x y a b) (g : Grow C.T H H') : ∃ O', Two C O' H' x y a b := by
 have s := Step.grow t.rel g
 refine ⟨Av [] O ⟨[], []⟩ [], ⟨s.rel.bare, ?_, ?_⟩⟩
 · exact t.rx.mv (List.prefix_refl _) (fun a o e _ n => g.fr a o e n) fun a z => .inl (av_bare z)
 · exact t.ry.mv (List.prefix_refl _) (fun a o e _ n => g.fr a o e n) fun a z => .inl (av_bare z)
end
section
variable {X : Cx} {C : RC} {ct : CT} {k : Nat} {L : PTab}
end
section
variable {X : Cx} {C : RC} {O : Addr → Prop} {H0 : Hp} {W : WX} {k : Nat} {a b : Expr} {fa fb : Ev} {pos : Pos} {ct : CT}
end
end D
namespace GGet
open PySem PySem.Spec PyProof.Rows PySem.SeqAt PySem.Calls Builtin
section
variable {prog : Program} {w : World} {A : Around} {E : Value → Shared → Prop} {s : Shared} {K : PySem.W.Frag} {x C f : Addr} {ox : Obj} {od : Option Obj}
end
end GGet
namespace D
open PySem L2 PyProof.Rows
def evGet (L : PTab) (fo fi : Ev) : Ev := fun st => (fo st).bind fun a st1 => (fi st1).bind fun b st2 => match insOf st2 a.1 with
 | some (c, ns) => (match L c with
  | some F => backTo' st2.sl [a, b] (F [a.1, b.1] ⟨[], st2.cs⟩)
  | none => .stuck)
 | none => .stuck
section
variable {X : Cx} {C : RC} {k : Nat} {L : PTab} {o i : Expr} {pos : Pos} {to ti : TE} {E : L2.St → XK}
variable {B : BC} {W : WX} {σ : L2.St} {H : Hp} {Q : VK} {fo fi : Ev}
end
section
variable {X : Cx} {C : RC} {O : Addr → Prop} {H0 : Hp} {W : WX} {k : Nat} {a b : Expr} {fa fb : Ev} {pos : Pos}
end
structure One (C : RC) (O : Addr → Prop) (H : Hp) (x : V) (a : DV) : Prop where
 rel : Rel ⟨C, O, H⟩ [] ⟨[], []⟩ [] H
 rx : Rep C [] (Av [] O ⟨[], []⟩ []) H x a
theorem One.ins {C : RC} {O : Addr → Prop} {H : Hp} {x : V} {c : Nat} {ns : List Str} {ds : List DV} (t : One C O H x (.ins c ns ds)) : ∃ p dx xs, x = .ref p ∧ H p = some (.ins (C.cls c) dx (ns.zip xs)) := by
 have r := t.rx
 cases r with
 | ins n e l q => exact ⟨_, _, _, rfl, e⟩
section
variable {X : Cx} {C : RC} {k : Nat} {L : PTab}
end
section
variable {X : Cx} {C : RC} {O : Addr → Prop} {H0 : Hp} {W : WX} {k : Nat} {e : Expr} {gk : Ak} {pos p : Pos}
end
end D
namespace D
open PySem L2 PyProof.Rows
def fdOf {K : PySem.W.Frag} {x qual : Str} {st : Stmt} {f : Addr} {fd : FuncData} (_ : Fun K x qual st f fd) : FuncData := fd
def fdOfX {K : PySem.W.Frag} {x qual : Str} {st : Stmt} {dvs : List V} {kws : List (Str × V)} {f : Addr} {fd : FuncData} (_ : FunX K x qual st dvs kws f fd) : FuncData := fd
def ixA : List Addr → Nat → Addr
 | [], _ => 0
 | a :: _, 0 => a
 | _ :: l, n + 1 => ixA l n
def ixF (z : FuncData) : List FuncData → Nat → FuncData
 | [], _ => z
 | a :: _, 0 => a
 | _ :: l, n + 1 => ixF z l n
structure Dt where
 cls : Nat → Addr
 T : List (Addr × Str)
 a : Nat → Addr
 f : Nat → FuncData
end D
namespace D
open PySem L2 PyProof.Rows
section
variable {C : RC} {ρ : List CellA} {A : Addr → Prop} {H : Hp}
end
section
variable {X : Cx} {C : RC} {W : WX} {O : Addr → Prop} {H0 : Hp} {pos p : Pos} {e : Expr} {gk : Ak} {k : Nat}
end
section
variable {X : Cx} {C : RC} {W : WX} {O : Addr → Prop} {H0 : Hp} {pos p : Pos} {e : Expr} {gk : Ak} {k : Nat}
end
section
variable {X : Cx} {B : BC} {W : WX}
end
section
variable {X : Cx} {C : RC} {O : Addr → Prop} {H0 : Hp} {W : WX} {k : Nat} {a b c : Expr} {fa fb fc : Ev} {x y z : Str} {pos px py pz pt pt2 : Pos} {kt k2 : Nat}
end
section
variable {X : Cx} {B : BC} {W : WX}
end
section
variable {X : Cx} {C : RC} {O : Addr → Prop} {H0 : Hp} {W : WX} {k : Nat} {a b c e : Expr} {fa fb fc fe : Ev} {x y z u : Str} {pos px py pz pu pt pt2 : Pos} {kt k2 : Nat}
end
end D
namespace D
open PySem L2 PyProof.Rows
section
variable {C : RC} {ρ : List CellA} {H : Hp}
end
section
variable {C : RC} {X : Cx} {B : BC} {W : WX} {F : Fn} {g : Ak}
end
section
variable {X : Cx} {k : Nat} {f : Addr} {fd : FuncData} {ps : List Str} {sp : Sp} {dvs : List V} {ds : List Value} {x : Str} {p pos : Pos} {e : Expr} {es : List Expr} {B : BC} {W : WX} {F : Fn} {g : Ak}
end
section
variable {X : Cx} {C : RC} {O : Addr → Prop} {H0 : Hp} {W : WX} {k : Nat} {e : Expr} {es : List Expr} {gk : Ak} {pos p : Pos} {x : Str}
end
section
variable {X : Cx} {C : RC}
end
section
variable {X : Cx} {C : RC} {O : Addr → Prop} {H0 : Hp} {W : WX} {k : Nat} {a b : Expr} {fa fb : Ev} {pos : Pos}
end
end D
namespace D
open PySem L2 PyProof.Rows
section
variable {X : Cx} {B : BC} {W : WX} {σ : L2.St} {ρ ρ1 : List CellA} {st st1 : DS} {H H1 : Hp} {o e : Expr} {fo fe : Ev} {p : Addr}
variable {C : RC} {O : Addr → Prop} {H0 : Hp} {k : Nat} {apos cpos pos : Pos}
end
end D
namespace D
open PySem L2 PyProof.Rows
section
variable {X : Cx} {B : BC} {W : WX} {σ : L2.St} {ρ ρ1 : List CellA} {st st1 : DS} {H H1 : Hp} {o e : Expr} {fo fe : Ev} {p : Addr} {i : Nat}
variable {C : RC} {O : Addr → Prop} {H0 : Hp} {k : Nat} {apos cpos pos : Pos}
end
end D
namespace GGet
open PySem PySem.Spec PyProof.Rows PySem.SeqAt PySem.Calls Builtin
section
variable {prog : Program} {w : World} {A : Around} {E : Value → Shared → Prop} {s : Shared} {K : PySem.W.Frag} {x C f : Addr} {ox : Obj} {od : Option Obj}
end
end GGet
namespace D
open PySem L2 PyProof.Rows
section
variable {X : Cx} {C : RC} {k : Nat} {L : PTab}
end
section
variable {X : Cx} {C : RC} {O : Addr → Prop} {H0 : Hp} {W : WX} {k : Nat} {e : Expr} {gk : Ak} {pos p : Pos}
end
end D
namespace GQ
open PySem PySem.SeqAt PySem.Spec
open AutoSeq1 (wpAny_loadPart')
open MeetsSeq MeetsSeq2 MeetsSeq3 SeqRoads2
section
variable {prog : Program} {w : World} {A : Around} {R : Result → Shared → Prop} {E : Value → Shared → Prop}
end
end GQ
namespace D
open PySem L2 PyProof.Rows
mutual
def sure (ct : CT) : DV → Bool
 | .non => true
 | .bl _ => true
 | .int _ => true
 | .str _ => true
 | .lst ds => sures ct ds
 | .tup ds => sures ct ds
 | .ins c _ ds => ct.ins.contains c && sures ct ds
 | _ => false
def sures (ct : CT) : List DV → Bool
 | [] => true
 | d :: ds => sure ct d && sures ct ds
end
section
variable {C : RC} {ρ : List CellA} {A : Addr → Prop} {H : Hp}
theorem vals_uniq : ∀ {xs ys : List V} {us : List Value}, Vals xs us → Vals ys us → xs = ys
 | _, _, _, .nil, .nil => rfl
 | _, _, _, .cons r1 h1, .cons r2 h2 => by rw [r1.inj r2, vals_uniq h1 h2]
theorem zip_inj {α β : Type} : ∀ {as bs : List α} {xs ys : List β}, as.length = xs.length → bs.length = ys.length → as.zip xs = bs.zip ys → as = bs ∧ xs = ys
 | [], [], [], [], _, _, _ => ⟨rfl, rfl⟩
 | a :: as, b :: bs, x :: xs, y :: ys, h1, h2, h => by
  rw [List.zip_cons_cons, List.zip_cons_cons] at h
  injection h with h3 h4
  injection h3 with h5 h6
  obtain ⟨h7, h8⟩ := zip_inj (by simpa using h1) (by simpa using h2) h4
  exact ⟨by rw [h5, h7], by rw [h6, h8]⟩
 | [], _ :: _, [], _ :: _, _, _, h => by simp at h
 | _ :: _, [], _ :: _, [], _, _, h => by simp at h
 | [], _, _ :: _, _, h, _, _ => by simp at h
 | _ :: _, _, [], _, h, _, _ => by simp at h
 | _, [], _, _ :: _, _, h, _ => by simp at h
 | _, _ :: _, _, [], _, h, _ => by simp at h
theorem KT.uniq {a : Addr} {xs ys : List V} (h1 : KT C a xs) (h2 : KT C a ys) : xs = ys := by
 obtain ⟨o, its, n, e1, _, e2, _, v1⟩ := h1
 obtain ⟨o', its', n', e1', _, e2', _, v2⟩ := h2
 rw [e1] at e1'
 cases e1'
 rw [e2] at e2'
 cases e2'
 exact vals_uniq v1 v2
def OneT (C : RC) (H : Hp) : Prop := ∀ a o ys, H a = some o → KT C a ys → (∀ xs, o = .tup xs → xs = ys) ∧ (∀ xs, o ≠ .lst xs) ∧ (∀ c dx fs, o ≠ .ins c dx fs)
mutual
theorem Rep.uniq {ct : CT} (kc : KitC C ct) (ot : OneT C H) : ∀ {v : V} {d e : DV}, sure ct d = true → sure ct e = true → Rep C ρ A H v d → Rep C ρ A H v e → d = e
 | _, _, _, _, h2, .non, q => by cases q; rfl
 | _, _, _, _, h2, .bl _, q => by cases q; rfl
 | _, _, _, _, h2, .int _, q => by cases q; rfl
 | _, _, _, _, h2, .str _, q => by cases q; rfl
 | _, _, _, h1, _, .ty _, _ => by cases h1
 | _, _, _, h1, _, .cls _, _ => by cases h1
 | _, _, _, h1, _, .dct _ _ _ _, _ => by cases h1
 | _, _, _, h1, _, .scr _ _, _ => by cases h1
 | _, _, _, h1, _, .kscr _, _ => by cases h1
 | _, _, _, h1, _, .bor _ _ _, _ => by cases h1
 | _, _, _, h1, _, .fdc _ _ _ _, _ => by cases h1
 | _, _, _, h1, _, .cel _, _ => by cases h1
 | _, _, _, h1, _, .opq _, _ => by cases h1
 | _, _, _, h1, _, .exc _ _ _ _ _ _, _ => by cases h1
 | _, _, _, h1, _, .exc0 _ _, _ => by cases h1
 | _, _, _, h1, h2, .lst n e r, q => by
  cases q with
  | lst n' e' r' =>
   rw [e] at e'
   cases e'
   rw [RepL.uniq kc ot (by simpa only [sure] using h1) (by simpa only [sure] using h2) r r']
  | tup n' e' r' => rw [e] at e'; cases e'
  | ktup k r' => exact absurd rfl ((ot _ _ _ e k).2.1 _)
  | ins n' e' l' r' => rw [e] at e'; cases e'
  | _ => cases h2
 | _, _, _, h1, h2, .tup n e r, q => by
  cases q with
  | tup n' e' r' =>
   rw [e] at e'
   cases e'
   rw [RepL.uniq kc ot (by simpa only [sure] using h1) (by simpa only [sure] using h2) r r']
  | ktup k r' =>
   cases (ot _ _ _ e k).1 _ rfl
   rw [RepL.uniq kc ot (by simpa only [sure] using h1) (by simpa only [sure] using h2) r r']
  | lst n' e' r' => rw [e] at e'; cases e'
  | ins n' e' l' r' => rw [e] at e'; cases e'
  | _ => cases h2
 | _, _, _, h1, h2, .ktup k r, q => by
  cases q with
  | tup n' e' r' =>
   cases (ot _ _ _ e' k).1 _ rfl
   rw [RepL.uniq kc ot (by simpa only [sure] using h1) (by simpa only [sure] using h2) r r']
  | ktup k' r' =>
   cases k.uniq k'
   rw [RepL.uniq kc ot (by simpa only [sure] using h1) (by simpa only [sure] using h2) r r']
  | lst n' e' r' => exact absurd rfl ((ot _ _ _ e' k).2.1 _)
  | ins n' e' l' r' => exact absurd rfl ((ot _ _ _ e' k).2.2 _ _ _)
  | _ => cases h2
 | _, _, _, h1, h2, .ins n e l r, q => by
  cases q with
  | ins n' e' l' r' =>
   rw [e] at e'
   injection e' with e'
   injection e' with e1 e2 e3
   obtain ⟨h3, h4⟩ := zip_inj l l' e3
   subst h3 h4
   simp only [sure, Bool.and_eq_true, List.contains_iff_mem] at h1 h2
   have k1 := kc.cc _ h1.1 _ h2.1
   have k2 := kc.cc _ h1.1 _ h1.1
   rw [← e1, k2] at k1
   have k3 := of_decide_eq_true ((Option.some.inj k1).symm.trans (decide_eq_true rfl))
   subst k3
   rw [RepL.uniq kc ot h1.2 h2.2 r r']
  | lst n' e' r' => rw [e] at e'; cases e'
  | tup n' e' r' => rw [e] at e'; cases e'
  | ktup k r' => exact absurd rfl ((ot _ _ _ e k).2.2 _ _ _)
  | _ => cases h2
theorem RepL.uniq {ct : CT} (kc : KitC C ct) (ot : OneT C H) : ∀ {vs : List V} {ds es : List DV}, sures ct ds = true → sures ct es = true → RepL C ρ A H vs ds → RepL C ρ A H vs es → ds = es
 | _, _, _, _, _, .nil, .nil => rfl
 | _, _, _, h1, h2, .cons r1 t1, .cons r2 t2 => by
  simp only [sures, Bool.and_eq_true] at h1 h2
  rw [Rep.uniq kc ot h1.1 h2.1 r1 r2, RepL.uniq kc ot h1.2 h2.2 t1 t2]
end
end
section
variable {X : Cx} {C : RC} {ct : CT} {k : Nat} {L : PTab}
end
section
variable {X : Cx} {C : RC} {O : Addr → Prop} {H0 : Hp} {W : WX} {k : Nat} {a b : Expr} {fa fb : Ev} {pos : Pos} {ct : CT}
end
end D
namespace D
open PySem L2 PyProof.Rows ClX
section
variable {X : Cx} {pins : List (Addr × Obj)} {σ : L2.St} {H : Hp} {s : Shared} {a : Addr} {o : HO} {φ : Heap → Prop}
end
section
variable {X : Cx} {k : Nat} {x : Str} {C fI : Addr} {fd : FuncData} {ps : List Str} {fs : List Str} {e : Expr} {es : List Expr} {ta : TA} {p pos : Pos}
end
section
variable {X : Cx} {B : BC} {W : WX} {σ : L2.St} {H : Hp} {Q : VK} {f : Ev} {g : Ak} {c : Nat} {fs : List Str}
end
section
variable {X : Cx} {C : RC} {O : Addr → Prop} {H0 : Hp} {W : WX} {k : Nat} {x : Str} {fs : List Str} {e : Expr} {es : List Expr} {f : Ev} {g : Ak} {p pos : Pos} {ct : CT}
end
end D
namespace D
open PySem L2 PyProof.Rows
def tagH (os : Addr → Obj) (L : List Addr) (H : Hp) : Hp := fun a => if a ∈ L then (H a).map fun u => .frz (os a) u else H a
def untagH (L : List Addr) (H H' : Hp) : Hp := fun a => if a ∈ L then H a else H' a
def SpB (sp : Sp) : Sp := fun vs H Q E => ∃ L : List Addr, (∀ p ∈ L, ∃ xs, H p = some (.lst xs)) ∧ ∀ os, sp vs (tagH os L H) (fun v H' => Q v (untagH L H H')) (fun c d H' => E c d (untagH L H H'))
section
variable {os : Addr → Obj} {L : List Addr} {H H' : Hp}
theorem tag_out {a : Addr} (h : a ∉ L) : tagH os L H a = H a := if_neg h
theorem tag_in {a : Addr} {u : HO} (h : a ∈ L) (e : H a = some u) : tagH os L H a = some (.frz (os a) u) := by unfold tagH; rw [if_pos h, e]; rfl
theorem tag_none {a : Addr} : tagH os L H a = none ↔ H a = none := by
 unfold tagH
 split
 · cases H a <;> simp
 · exact Iff.rfl
theorem unt_out {a : Addr} (h : a ∉ L) : untagH L H H' a = H' a := if_neg h
theorem unt_in {a : Addr} (h : a ∈ L) : untagH L H H' a = H a := if_pos h
variable (hL : ∀ p ∈ L, ∃ xs, H p = some (.lst xs))
include hL
theorem notL {a : Addr} {u : HO} (e : H a = some u) (h : ∀ xs, u ≠ .lst xs) : a ∉ L := fun z => by
 obtain ⟨xs, e2⟩ := hL a z
 rw [e] at e2
 exact h xs (Option.some.inj e2)
theorem notL_none {a : Addr} (e : H a = none) : a ∉ L := fun z => by
 obtain ⟨xs, e2⟩ := hL a z
 rw [e] at e2
 cases e2
theorem hok_tag {P : Program} {w : World} {h : Heap} (ok : HOk P w H h) : HOk P w (tagH (fun a => (h.get? a).getD { cls := .none, data := .fields #[] }) L H) h := fun a o e => by
 by_cases ha : a ∈ L
 · obtain ⟨xs, e2⟩ := hL a ha
   rw [tag_in ha e2] at e
   cases e
   have q := ok a _ e2
   obtain ⟨z, its, n, r, eo⟩ := q
   refine ⟨?_, z, its, n, r, eo⟩
   show h.get? a = some ((h.get? a).getD _)
   rw [eo]
   rfl
 · rw [tag_out ha] at e
   exact (ok a o e).stay (fun _ _ _ q => q) (fun b q => by rw [tag_out (notL hL q fun _ z => nomatch z)]; exact q) fun b xs q => by rw [tag_out (notL hL q fun _ z => nomatch z)]; exact q
theorem hok_unt {P : Program} {w : World} {h : Heap} (hf : ∀ b o u, tagH os L H b = some (.frz o u) → H' b = some (.frz o u)) (ok : HOk P w H' h) : HOk P w (untagH L H H') h := fun a o e => by
 have key : ∀ {b : Addr} {u : HO}, H' b = some u → (∀ o u', u ≠ .frz o u') → b ∉ L := fun {b u} q hn z => by
  obtain ⟨xs, e2⟩ := hL b z
  rw [hf b _ _ (tag_in z e2)] at q
  exact hn _ _ (Option.some.inj q).symm
 by_cases ha : a ∈ L
 · rw [unt_in ha] at e
   obtain ⟨xs, e2⟩ := hL a ha
   rw [e2] at e
   cases e
   obtain ⟨_, z, its, n, r, eo⟩ := ok a _ (hf a _ _ (tag_in ha e2))
   exact ⟨z, its, n, r, eo⟩
 · rw [unt_out ha] at e
   exact (ok a o e).stay (fun _ _ _ q => q) (fun b q => by rw [unt_out (key q fun _ _ z => nomatch z)]; exact q) fun b xs q => by rw [unt_out (key q fun _ _ z => nomatch z)]; exact q
end
theorem FnG.bor {P : Program} {w : World} {K : PySem.W.Frag} {mg : Str → Option Value} {base : Heap} {k : Nat} {f : Addr} {fd : FuncData} {ps : List Str} {sp : Sp} (F : FnG P w K mg base k f fd ps sp) : FnG P w K mg base k f fd ps (SpB sp) := by
 refine ⟨fun vs H Q E ⟨L, _, h⟩ => F.len _ _ _ _ (h fun _ => { cls := .none, data := .fields #[] }), fun A outer s H args us vs Q E hr hg e0 hb hv ⟨L, hL, hs⟩ => ?_⟩
 generalize eos : (fun a => (s.heap.get? a).getD { cls := .none, data := .fields #[] }) = os
 have e1 : Env0 P w K mg base A outer s (tagH os L H) := ⟨e0.frames, e0.mod, fun b o q => ⟨(e0.bs b o q).1, tag_none.mpr (e0.bs b o q).2⟩, e0.bsz, e0.funs, fun b q => tag_none.mpr (e0.frf b q), by rw [← eos]; exact hok_tag hL e0.hok, e0.bare⟩
 refine codeAny_mono (F.run A outer s _ args us vs _ _ hr hg e1 hb hv (hs os)) fun r s' hq => ?_
 have inL : ∀ {b : Addr} {u : HO}, H b = some u → (∀ xs, u ≠ .lst xs) → ∀ {H' : Hp}, untagH L H H' b = H' b := fun {b u} e h {H'} => unt_out (notL hL e h)
 cases r with
 | error e =>
  obtain ⟨a, B, H', cls, d, h1, h2, h3, ub, h5, h6, h7, h8⟩ := (hq : L2.CX P w outer (tagH os L H) s _ e s')
  refine (⟨a, B, untagH L H H', cls, d, h1, h2, hok_unt (os := os) hL ub.frzs h3, ⟨fun b o q n => ub.keep b o q (tag_none.mpr n), ub.slot, fun b o q n => ?_, ub.there, fun b xs q => ?_, fun b o xs q => ?_, fun b ps q => ?_⟩, ?_, h6, h7, h8⟩ : L2.CX P w outer H s E e s')
  · rw [unt_out (notL_none hL n)]
    exact ub.free b o q (tag_none.mpr n)
  · rw [inL q fun _ z => nomatch z]
    exact ub.tups b xs (by rw [tag_out (notL hL q fun _ z => nomatch z)]; exact q)
  · rw [inL q fun _ z => nomatch z]
    exact ub.frzs b o xs (by rw [tag_out (notL hL q fun _ z => nomatch z)]; exact q)
  · rw [inL q fun _ z => nomatch z]
    exact ub.tbls b ps (by rw [tag_out (notL hL q fun _ z => nomatch z)]; exact q)
  · by_cases ha : a ∈ L
    · obtain ⟨xs, e2⟩ := hL a ha
      rw [ub.frzs a _ _ (tag_in ha e2)] at h5
      cases h5
    · rw [unt_out ha]
      exact h5
 | ok fl =>
  cases fl with
  | ret u =>
   obtain ⟨v, H', h1, h2, un, h4, h5, h6⟩ := (hq : CE outer P w (tagH os L H) s _ u s')
   refine (⟨v, untagH L H H', h1, h2, ⟨fun b o q n => un.keep b o q (tag_none.mpr n), fun b o q n => un.slot b o q (tag_none.mpr n), fun b o q n hx => ?_, un.there, fun b xs q => ?_, fun b o xs q => ?_, fun b ps q => ?_⟩, hok_unt (os := os) hL un.frzs h4, h5, h6⟩ : CE outer P w H s Q u s')
   · rw [unt_out (notL_none hL n)]
     exact un.free b o q (tag_none.mpr n) hx
   · rw [inL q fun _ z => nomatch z]
     exact un.tups b xs (by rw [tag_out (notL hL q fun _ z => nomatch z)]; exact q)
   · rw [inL q fun _ z => nomatch z]
     exact un.frzs b o xs (by rw [tag_out (notL hL q fun _ z => nomatch z)]; exact q)
   · rw [inL q fun _ z => nomatch z]
     exact un.tbls b ps (by rw [tag_out (notL hL q fun _ z => nomatch z)]; exact q)
  | next => exact hq
  | brk => exact hq
  | cont => exact hq
section
variable {C : RC} {ρ : List CellA} {A A' : Addr → Prop} {L : List Addr} {H H' : Hp}
end
section
variable {B : BC} {σ : L2.St} {ρ : List CellA} {st : DS} {H : Hp} {vs : List V} {as : List (DV × Kd)}
theorem RepKs.filter {p : DV × Kd → Bool} (rk : RepKs B ρ st σ H vs as) : ∃ ws, RepKs B ρ st σ H ws (as.filter p) := by
 induction rk with
 | nil => exact ⟨[], .nil⟩
 | @cons v vs x as r t ih =>
  obtain ⟨ws, h⟩ := ih
  by_cases hp : p x = true
  · exact ⟨v :: ws, by rw [List.filter_cons_of_pos hp]; exact .cons r h⟩
  · exact ⟨ws, by rw [List.filter_cons_of_neg hp]; exact h⟩
variable {W : WX} {F : Fn}
theorem RepKs.mem (rk : RepKs B ρ st σ H vs as) {x : DV × Kd} (hx : x ∈ as) : ∃ v, RepK B ρ st σ H x.2 v x.1 := by
 induction rk with
 | nil => cases hx
 | @cons v vs y as r t ih =>
  rcases List.mem_cons.mp hx with rfl | hx
  · exact ⟨v, r⟩
  · exact ih hx
end
section
variable {X : Cx} {B : BC} {W : WX} {σ : L2.St} {H : Hp} {Q : VK} {F : Fn} {π : List Nat} {n m : Nat} {dds : List DV} {dvs : List V} {ge gk : Ak}
end
section
variable {X : Cx} {C : RC} {O : Addr → Prop} {H0 : Hp} {W : WX} {k l : Nat} {x : Str} {f : Addr} {fd : FuncData} {ps : List Str} {F : Fn} {es : List Expr} {kws : List Keyword} {ge gk : Ak} {p pos : Pos}
end
end D
namespace D
open PySem L2 PyProof.Rows
section
variable {X : Cx}
end
section
variable {C : RC} {B : BC} {ρ : List CellA} {st : DS} {σ : L2.St} {H H' : Hp}
theorem Step.ext (rel : Rel B ρ st σ H) (g : ∀ b o, H b = some o → H' b = some o) : Step B σ ρ st H ρ st H' := by
 have dm : ∀ a, H a ≠ none → H' a ≠ none := fun a z => by
  obtain ⟨u, eu⟩ := Option.ne_none_iff_exists'.mp z
  rw [g a u eu]
  exact fun z => nomatch z
 refine Step.called (cs' := st.cs) rel (List.prefix_refl _) (fun a o e _ _ => g a o e) (fun _ z => .inl z) dm ⟨rel.cel.len, fun k c x h1 h2 => ?_, rel.cel.dis⟩ (fun a z => dm a (rel.cdom a z)) (LamX.Tabs.ext rel.tabs g)
 have q := rel.cel.ok k c x h1 h2
 cases x with
 | draw d =>
  obtain ⟨a, l, e1, n1, n2, n3, e2, e3, e4⟩ := q
  exact ⟨a, l, e1, n1, n2, n3, g _ _ e2, g _ _ e3, g _ _ e4⟩
 | dead => trivial
 | obj d =>
  refine ⟨q.1, q.2.mv (List.prefix_refl _) (fun a o e _ _ => g a o e) (fun a z => .inl z) ?_⟩
  obtain ⟨o, eo, _⟩ := q.2.nt
  rw [eo]
  exact g _ _ eo
end
section
variable {X : Cx} {C : RC} {O : Addr → Prop} {H0 : Hp} {W : WX} {k : Nat} {o : Expr} {fe : Ev} {p pos apos cpos : Pos}
end
section
variable {X : Cx}
end
section
variable {X : Cx} {C : RC} {O : Addr → Prop} {H0 : Hp} {W : WX} {k : Nat} {o : Expr} {fe : Ev} {p pos apos cpos : Pos}
end
end D
namespace D
open PySem L2 PyProof.Rows
section
variable {X : Cx}
end
section
variable {C : RC} {ρ : List CellA} {A : Addr → Prop} {H : Hp}
end
section
variable {X : Cx} {C : RC} {O : Addr → Prop} {H0 : Hp} {W : WX} {k : Nat} {e : Expr} {fe : Ev} {p pos : Pos}
end
end D
namespace D
open PySem L2 PyProof.Rows
abbrev EK := DX → List CellC → Prop
abbrev QE := DV → Kd → DS → Prop
def noX : EK := fun _ _ => False
def W {α : Type} (o : Out α) (q : α → DS → Prop) (E : EK) : Prop := match o with | .ok a st => q a st | .exc x st => E x st.cs | .stuck => False
theorem W.bind {α β : Type} {o : Out α} {k : α → DS → Out β} {q : β → DS → Prop} {E : EK} (h : W o (fun a st => W (k a st) q E) E) : W (o.bind k) q E := by cases o <;> exact h
theorem W.imp {α : Type} {o : Out α} {q q' : α → DS → Prop} {E : EK} (h : W o q E) (hq : ∀ a st, q a st → q' a st) : W o q' E := by
 cases o with
 | ok a st => exact hq _ _ h
 | exc x st => exact h
 | stuck => exact h
theorem W.impE {α : Type} {o : Out α} {q : α → DS → Prop} {E E' : EK} (h : W o q E) (hE : ∀ x cs, E x cs → E' x cs) : W o q E' := by
 cases o with
 | ok a st => exact h
 | exc x st => exact hE _ _ h
 | stuck => exact h
def WE' (o : Out (DV × Kd)) (q : QE) (E : EK) : Prop := W o (fun a st => q a.1 a.2 st) E
def WT (o : Out Bool) (q : Bool → DS → Prop) (E : EK) : Prop := W o q E
def WA (o : Out (List (DV × Kd))) (q : List (DV × Kd) → DS → Prop) (E : EK) : Prop := W o q E
def WV (o : Out (List DV)) (q : List DV → DS → Prop) (E : EK) : Prop := W o q E
def WP (o : Out (Option Int)) (q : Option Int → DS → Prop) (E : EK) : Prop := W o q E
def WDp (o : Out (List Key × List DV)) (q : List Key → List DV → DS → Prop) (E : EK) : Prop := W o (fun a st => q a.1 a.2 st) E
structure KS where
 nx : DS → Prop
 bk : DS → Prop
 ct : DS → Prop
 rt : QE
def KS.of (k : KS) : Fl → DS → Prop
 | .nx, st => k.nx st
 | .bk, st => k.bk st
 | .ct, st => k.ct st
 | .rt d kd, st => k.rt d kd st
def WS (o : Out Fl) (k : KS) (E : EK) : Prop := W o k.of E
def WO (o : Option (DV × Kd)) (q : DV → Kd → Prop) : Prop := match o with | some c => q c.1 c.2 | none => False
theorem W.opt {o : Option (DV × Kd)} {st : DS} {q : QE} {E : EK} (h : WO o fun c kd => q c kd st) : W (match o with | some c => Out.ok c st | none => Out.stuck) (fun a st => q a.1 a.2 st) E := by cases o <;> exact h
def WF' (F : Fn) (ds : List DV) (cs : List CellC) (q : DV → Kd → List CellC → Prop) (E : EK) : Prop := W (F ds ⟨[], cs⟩) (fun a st => q a.1 a.2 st.cs) E
def WG (o : Option DS) (q : DS → Prop) : Prop := match o with | some st => q st | none => False
def IfK (k : Bool) (A B : Prop) : Prop := match k with | true => A | false => B
theorem IfK.imp {k : Bool} {A B A' B' : Prop} (h : IfK k A B) (h1 : A → A') (h2 : B → B') : IfK k A' B' := by cases k; exact h2 h; exact h1 h
def nk (d : DV) (kd : Kd) : Kd := if flat d = true then .new else kd
def kdO : Kd → Kd
 | .new => .new
 | _ => .fro
theorem IfK.yes {A B : Prop} (h : A) : IfK true A B := h
theorem IfK.no {A B : Prop} (h : B) : IfK false A B := h
theorem IfK.dec {A B P : Prop} [Decidable P] (h1 : P → A) (h2 : ¬ P → B) : IfK (decide P) A B := by
 by_cases hP : P
 · rw [decide_eq_true hP]; exact h1 hP
 · rw [decide_eq_false hP]; exact h2 hP
theorem IfK.bool {A B : Prop} {c : Bool} (h1 : c = true → A) (h2 : c = false → B) : IfK c A B := by
 cases c
 · exact h2 rfl
 · exact h1 rfl
theorem IfK.to {A B : Prop} {c : Bool} (h : c = true) (h1 : A) : IfK c A B := by rw [h]; exact h1
theorem IfK.fo {A B : Prop} {c : Bool} (h : c = false) (h1 : B) : IfK c A B := by rw [h]; exact h1
section
variable {q : QE} {qb : Bool → DS → Prop} {qa : List (DV × Kd) → DS → Prop} {qv : List DV → DS → Prop} {qp : Option Int → DS → Prop} {qd : List Key → List DV → DS → Prop} {E : EK} {k : KS} {st st1 : DS} {sl : List Slot} {cs : List CellC} {fa fb fc fe : Ev} {f g : Sv} {ta tb t : Tv} {ga gb : Ak} {ge : Av'} {d a b : DV} {kd : Kd} {i j : Nat} {o : Option (DV × Kd)} {p : DV → Kd → Prop} {A B : Prop}
theorem WE'.mono {o : Out (DV × Kd)} {q' : QE} {E' : EK} (h : WE' o q E) (hq : ∀ a kd st, q a kd st → q' a kd st) (hE : ∀ x cs, E x cs → E' x cs) : WE' o q' E' :=
 W.impE (W.imp h fun a st h => hq _ _ _ h) hE
theorem WS.mono {o : Out Fl} {k' : KS} {E' : EK} (h : WS o k E) (h1 : ∀ st, k.nx st → k'.nx st) (h2 : ∀ st, k.bk st → k'.bk st) (h3 : ∀ st, k.ct st → k'.ct st) (h4 : ∀ a kd st, k.rt a kd st → k'.rt a kd st) (hE : ∀ x cs, E x cs → E' x cs) : WS o k' E' := by
 cases o with
 | ok a st =>
  cases a with
  | nx => exact h1 _ h
  | bk => exact h2 _ h
  | ct => exact h3 _ h
  | rt d kd => exact h4 _ _ _ h
 | exc x st => exact hE _ _ h
 | stuck => exact h
theorem WF'.mono {F : Fn} {ds : List DV} {q q' : DV → Kd → List CellC → Prop} {E' : EK} (h : WF' F ds cs q E) (hq : ∀ a kd cs, q a kd cs → q' a kd cs) (hE : ∀ x cs, E x cs → E' x cs) : WF' F ds cs q' E' :=
 W.impE (W.imp h fun a st h => hq _ _ _ h) hE
abbrev QF := DV → Kd → List CellC → Prop
theorem WF'.eq {F : Fn} {ds : List DV} {q : QF} {cs' : List CellC} {sl' : List Slot} (e : F ds ⟨[], cs⟩ = .ok (a, kd) ⟨sl', cs'⟩) (h : q a kd cs') : WF' F ds cs q E :=
 by unfold WF'; rw [e]; exact h
theorem WF'.ex {F : Fn} {ds : List DV} {q : QF} {x : DX} {cs' : List CellC} {sl' : List Slot} (e : F ds ⟨[], cs⟩ = .exc x ⟨sl', cs'⟩) (h : E x cs') : WF' F ds cs q E :=
 by unfold WF'; rw [e]; exact h
theorem we_c (h : q d .new st) : WE' (evC d st) q E := h
theorem we_var (e : sl[i]? = some (some (d, false))) (h : q d .fro ⟨sl, cs⟩) : WE' (zqc i ⟨sl, cs⟩) q E := by unfold zqc; rw [show (⟨sl, cs⟩ : DS).sl[i]? = _ from e]; exact h
theorem we_varO (e : sl[i]? = some (some (d, true))) (h : q d (.view i) ⟨sl, cs⟩) : WE' (zqc i ⟨sl, cs⟩) q E := by unfold zqc; rw [show (⟨sl, cs⟩ : DS).sl[i]? = _ from e]; exact h
theorem we_g (h : q d .fro st) : WE' (evG d st) q E := h
theorem we_n (h : WE' (fe st) (fun a kd st1 => q a (nk a kd) st1) E) : WE' (evN fe st) q E :=
 W.bind h
theorem we_op {g : Op2} (h : WE' (fa st) (fun a _ st1 => WE' (fb st1) (fun b _ st2 => WO (g a b) fun c kd => q c kd st2) E) E) : WE' (zqk g fa fb st) q E :=
 W.bind (W.imp h fun a st1 h => W.bind (W.imp h fun b st2 h => W.opt h))
theorem we_call {g : OpN} (h : WA (ga st) (fun as st1 => WO (g (as.map (·.1))) fun c kd => q c kd st1) E) : WE' (zqp g ga st) q E :=
 W.bind (W.imp h fun a st1 h => W.opt h)
theorem we_meth {isT : DV → Bool} {g : OpN} (h : WE' (fa st) (fun a _ st1 => isT a = true ∧ WA (ga st1) (fun as st2 => WO (g (a :: as.map (·.1))) fun c kd => q c kd st2) E) E) : WE' (evMeth isT g fa ga st) q E :=
 W.bind (W.imp h fun a st1 h => by
  obtain ⟨h1, h2⟩ := h
  rw [if_pos h1]
  exact W.bind (W.imp h2 fun a st1 h => W.opt h))
theorem we_not (h : WE' (fa st) (fun a _ st1 => ∃ k, truD a = some k ∧ q (.bl (!k)) .new st1) E) : WE' (evNot fa st) q E :=
 W.bind (W.imp h fun a st1 h => by obtain ⟨k, h1, h2⟩ := h; rw [h1]; exact h2)
theorem we_and (h : WE' (fa st) (fun a kd st1 => ∃ k, truD a = some k ∧ IfK k (WE' (fb st1) q E) (q a kd st1)) E) : WE' (evAnd fa fb st) q E :=
 W.bind (W.imp h fun a st1 h => by obtain ⟨k, h1, h2⟩ := h; rw [h1]; cases k <;> exact h2)
theorem we_or (h : WE' (fa st) (fun a kd st1 => ∃ k, truD a = some k ∧ IfK k (q a kd st1) (WE' (fb st1) q E)) E) : WE' (evOr fa fb st) q E :=
 W.bind (W.imp h fun a st1 h => by obtain ⟨k, h1, h2⟩ := h; rw [h1]; cases k <;> exact h2)
theorem we_if (h : WT (t st) (fun k st1 => IfK k (WE' (fa st1) q E) (WE' (fb st1) q E)) E) : WE' (evIf t fa fb st) q E :=
 W.bind (W.imp h fun a st1 h => by cases a <;> exact h)
theorem we_neg (h : WE' (fa st) (fun a _ st1 => ∃ i, a = .int i ∧ q (.int (-i)) .new st1) E) : WE' (evNeg fa st) q E :=
 W.bind (W.imp h fun a st1 h => by obtain ⟨i, h1, h2⟩ := h; rw [h1]; exact h2)
theorem we_chain {g g' : Op2} (h : WE' (fa st) (fun a _ st1 => WE' (fb st1) (fun b _ st2 => ∃ r, g a b = some (.bl r, .new) ∧ IfK r (WE' (fc st2) (fun c _ st3 => WO (g' b c) fun z kd => q z kd st3) E) (q (.bl false) .new st2)) E) E) : WE' (evChain g g' fa fb fc st) q E :=
 W.bind (W.imp h fun a st1 h => W.bind (W.imp h fun b st2 h => by
  obtain ⟨r, h1, h2⟩ := h
  rw [h1]
  cases r with
  | false => exact h2
  | true => exact W.bind (W.imp h2 fun c st3 h => W.opt h)))
theorem we_fld {ct : CT} {n : Str} (h : WE' (fa st) (fun a _ st1 => ∃ d, fldD ct n a = some d ∧ q d (nk d .fro) st1) E) : WE' (evFld ct n fa st) q E :=
 W.bind (W.imp h fun a st1 h => by obtain ⟨d, h1, h2⟩ := h; rw [h1]; exact h2)
theorem wp_none (h : qp none st) : WP (pvNone st) qp E := h
theorem wp_some (h : WE' (fa st) (fun a _ st1 => ∃ i, a = .int i ∧ qp (some i) st1) E) : WP (pvSome fa st) qp E :=
 W.bind (W.imp h fun a st1 h => by obtain ⟨i, h1, h2⟩ := h; rw [h1]; exact h2)
theorem we_sl {lo hi : Pv} (h : WE' (fa st) (fun a _ st1 => WP (lo st1) (fun l st2 => WP (hi st2) (fun u st3 => WO (dSl a l u) fun c kd => q c kd st3) E) E) E) : WE' (evSl fa lo hi st) q E :=
 W.bind (W.imp h fun a st1 h => W.bind (W.imp h fun l st2 h => W.bind (W.imp h fun u st3 h => W.opt h)))
theorem wv_nil (h : qv [] st) : WV (zqz st) qv E := h
theorem wv_cons (h : WE' (fe st) (fun a kd st1 => WV (ge (st1.eat kd)) (fun ds st2 => qv (a :: ds) st2) E) E) : WV (zqg fe ge st) qv E :=
 W.bind (W.imp h fun a st1 h => W.bind h)
theorem we_lst (h : WV (ge st) (fun ds st1 => ds.length ≤ sizeLine ∧ q (.lst ds) .new st1) E) : WE' (zqF ge st) q E :=
 W.bind (W.imp h fun ds st1 h => by rw [if_pos h.1]; exact h.2)
theorem we_tup (h : WV (ge st) (fun ds st1 => ds.length ≤ sizeLine ∧ q (.tup ds) .new st1) E) : WE' (evTup ge st) q E :=
 W.bind (W.imp h fun ds st1 h => by rw [if_pos h.1]; exact h.2)
theorem wd_nil (h : qd [] [] st) : WDp (dvNil st) qd E := h
theorem we_dct {r : Dv'} (h : WDp (r st) (fun ks vs st1 => ks.length ≤ 15 ∧ q (.dct ks vs) .new st1) E) : WE' (evDct r st) q E :=
 W.bind (W.imp h fun p st1 h => by rw [if_pos h.1]; exact h.2)
theorem wa_nil (h : qa [] st) : WA (zqh st) qa E := h
theorem wa_cons (h : WE' (fe st) (fun a kd st1 => WA (ga st1) (fun as st2 => qa ((a, kd) :: as) st2) E) E) : WA (zqa fe ga st) qa E :=
 W.bind (W.imp h fun a st1 h => W.bind h)
def BkT (sl : List Slot) (as : List (DV × Kd)) (a : DV) (kd : Kd) (cs : List CellC) (q : QE) : Prop := q a (kdO kd) (if safeR (a, kd) && cs.all isDraw then ⟨sl, cs⟩ else zqC ⟨sl, cs⟩ as)
theorem we_fn {F : Fn} (h : WA (ga st) (fun as st1 => WF' F (as.map (·.1)) st1.cs (fun a kd cs' => BkT st1.sl as a kd cs' q) E) E) : WE' (zqr F ga st) q E :=
 W.bind (W.imp h fun as st1 h => by
  unfold WF' at h
  revert h
  generalize F (as.map (·.1)) ⟨[], st1.cs⟩ = o
  intro h
  cases o with
  | stuck => exact h
  | exc x st2 => exact (show E x (zqC ⟨st1.sl, st2.cs⟩ as).cs from by rw [eatAll_cs]; exact h)
  | ok a st2 => obtain ⟨a, kd⟩ := a; cases kd <;> exact h)
def noView : List (DV × Kd) → Bool
 | [] => true
 | (_, .view _) :: _ => false
 | _ :: as => noView as
theorem zqH : ∀ {as : List (DV × Kd)} {st : DS}, noView as = true → zqC st as = st
 | [], _, _ => rfl
 | (d, .fro) :: as, st, h => zqH (as := as) (st := st) h
 | (d, .new) :: as, st, h => zqH (as := as) (st := st) h
 | (d, .view _) :: as, st, h => by cases h
theorem bk_plain {as : List (DV × Kd)} (hv : noView as = true) (h : q a (kdO kd) ⟨sl, cs⟩) : BkT sl as a kd cs q := by
 unfold BkT
 rw [zqH hv, ite_self]
 exact h
theorem bk_safe {as : List (DV × Kd)} (hs : safeR (a, kd) = true) (hd : cs.all isDraw = true) (h : q a (kdO kd) ⟨sl, cs⟩) : BkT sl as a kd cs q := by
 unfold BkT
 rw [hs, hd]
 exact h
theorem wt_b (h : WE' (fe st) (fun a _ st1 => ∃ k, a = .bl k ∧ qb k st1) E) : WT (tvB fe st) qb E :=
 W.bind (W.imp h fun a st1 h => by obtain ⟨k, h1, h2⟩ := h; rw [h1]; exact h2)
theorem wt_e' (h : WE' (fe st) (fun a _ st1 => ∃ k, truD a = some k ∧ qb k st1) E) : WT (tvE fe st) qb E :=
 W.bind (W.imp h fun a st1 h => by obtain ⟨k, h1, h2⟩ := h; rw [h1]; exact h2)
theorem wt_or (h : WT (ta st) (fun k st1 => IfK k (qb true st1) (WT (tb st1) qb E)) E) : WT (tvOr ta tb st) qb E :=
 W.bind (W.imp h fun a st1 h => by cases a <;> exact h)
theorem wt_not (h : WT (ta st) (fun k st1 => qb (!k) st1) E) : WT (tvNot ta st) qb E :=
 W.bind h
theorem wt_yes (h : qb true st) : WT (tvYes st) qb E := h
theorem ws_seq (h : WS (f st) ⟨fun st1 => WS (g st1) k E, k.bk, k.ct, k.rt⟩ E) : WS (zqm f g st) k E :=
 W.bind (W.imp h fun fl st1 h => by cases fl <;> exact h)
theorem ws_expr' (h : WE' (fe st) (fun _ _ st1 => k.nx st1) E) : WS (svExpr fe st) k E :=
 W.bind h
theorem ws_ret' (h : WE' (fe st) k.rt E) : WS (zqw fe st) k E :=
 W.bind h
theorem ws_if' (h : WT (t st) (fun c st1 => IfK c (WS (f st1) k E) (WS (g st1) k E)) E) : WS (svIf t f g st) k E :=
 W.bind (W.imp h fun a st1 h => by cases a <;> exact h)
def PutT (i : Nat) (a : DV) (kd : Kd) (st : DS) (n : DS → Prop) : Prop := n (st.put i (a, kd))
theorem ws_set' (h : WE' (fe st) (fun a kd st1 => PutT i a kd st1 k.nx) E) : WS (zqs i fe st) k E :=
 W.bind h
theorem putT_flat {n : DS → Prop} (hc : isCont a = false) (h : n ⟨sl.set i (some (a, false)), cs⟩) : PutT i a .new ⟨sl, cs⟩ n := by
 unfold PutT DS.put
 rw [hc]
 exact h
theorem putT_own {n : DS → Prop} (hc : isCont a = true) (hd : cs.all isDraw = true) (h : n ⟨sl.set i (some (a, true)), cs⟩) : PutT i a .new ⟨sl, cs⟩ n := by
 unfold PutT DS.put
 dsimp only
 rw [hc, hd]
 exact h
theorem putT_nk {n : DS → Prop} (h : n ⟨sl.set i (some (a, false)), cs⟩) : PutT i a (nk a .fro) ⟨sl, cs⟩ n := by
 unfold nk
 by_cases hf : flat a = true
 · rw [if_pos hf]
   exact putT_flat (by cases a <;> first | rfl | cases hf) h
 · rw [if_neg hf]
   exact h
theorem ws_then (h : WS (f st) ⟨k.nx, k.nx, k.nx, fun _ _ st1 => k.nx st1⟩ E) : WS (svThen f st) k E :=
 W.bind (W.imp h fun fl st1 h => by cases fl <;> exact h)
def ParT (i : Nat) (a : DV) (kd : Kd) (st : DS) (g : Sv) (n : DS → Prop) (E : EK) : Prop := match kd with
 | .new => WS (g st) ⟨fun st2 => n ⟨st2.sl.set i (some (a, isCont a && st.cs.all isDraw)), st2.cs⟩, fun st2 => n ⟨st2.sl.set i (some (a, isCont a && st.cs.all isDraw)), st2.cs⟩, fun st2 => n ⟨st2.sl.set i (some (a, isCont a && st.cs.all isDraw)), st2.cs⟩, fun _ _ st2 => n ⟨st2.sl.set i (some (a, isCont a && st.cs.all isDraw)), st2.cs⟩⟩ E
 | kd => WS (g (st.eat kd)) ⟨fun st2 => n ⟨st2.sl.set i (some (a, false)), st2.cs⟩, fun st2 => n ⟨st2.sl.set i (some (a, false)), st2.cs⟩, fun st2 => n ⟨st2.sl.set i (some (a, false)), st2.cs⟩, fun _ _ st2 => n ⟨st2.sl.set i (some (a, false)), st2.cs⟩⟩ E
theorem ws_par' (h : WE' (fe st) (fun a kd st1 => ParT i a kd st1 g k.nx E) E) : WS (svPar i fe g st) k E :=
 W.bind (W.imp h fun a st1 h => by
  obtain ⟨d, kd⟩ := a
  have fin : ∀ {o : Out Fl} {bb : Bool}, WS o ⟨fun st2 => k.nx ⟨st2.sl.set i (some (d, bb)), st2.cs⟩, fun st2 => k.nx ⟨st2.sl.set i (some (d, bb)), st2.cs⟩, fun st2 => k.nx ⟨st2.sl.set i (some (d, bb)), st2.cs⟩, fun _ _ st2 => k.nx ⟨st2.sl.set i (some (d, bb)), st2.cs⟩⟩ E → W (o.bind fun _ st2 => .ok .nx ⟨st2.sl.set i (some (d, bb)), st2.cs⟩) k.of E := fun h => W.bind (W.imp h fun fl st2 h => by cases fl <;> exact h)
  cases kd with
  | new =>
   unfold ParT at h
   dsimp only at h ⊢
   cases hb : isCont d && st1.cs.all isDraw <;> (rw [hb] at h; exact fin h)
  | fro => exact fin h
  | view j => exact fin h)
theorem par_new {n : DS → Prop} {b : Bool} (hb : (isCont a && cs.all isDraw) = b) (h : WS (g ⟨sl, cs⟩) ⟨fun st2 => n ⟨st2.sl.set i (some (a, b)), st2.cs⟩, fun st2 => n ⟨st2.sl.set i (some (a, b)), st2.cs⟩, fun st2 => n ⟨st2.sl.set i (some (a, b)), st2.cs⟩, fun _ _ st2 => n ⟨st2.sl.set i (some (a, b)), st2.cs⟩⟩ E) : ParT i a .new ⟨sl, cs⟩ g n E := by
 unfold ParT
 dsimp only
 rw [hb]
 exact h
theorem par_fro {n : DS → Prop} (h : WS (g ⟨sl, cs⟩) ⟨fun st2 => n ⟨st2.sl.set i (some (a, false)), st2.cs⟩, fun st2 => n ⟨st2.sl.set i (some (a, false)), st2.cs⟩, fun st2 => n ⟨st2.sl.set i (some (a, false)), st2.cs⟩, fun _ _ st2 => n ⟨st2.sl.set i (some (a, false)), st2.cs⟩⟩ E) : ParT i a .fro ⟨sl, cs⟩ g n E := h
theorem ws_asg' {gv : Gv} (h : WE' (fe st) (fun a kd st1 => WG (gv a (st1.eat kd)) k.nx) E) : WS (svAsg fe gv st) k E :=
 W.bind (W.imp h fun a st1 h => by
  dsimp only at h
  cases e2 : gv a.1 (st1.eat a.2) with
  | none => rw [e2] at h; exact h
  | some s => rw [e2] at h; exact h)
theorem ws_app {ds0 : List DV} (e : sl[i]? = some (some (.lst ds0, true))) (h : WE' (fe ⟨sl, cs⟩) (fun a kd st1 => ∃ ds, (st1.eat kd).sl[i]? = some (some (.lst ds, true)) ∧ ds.length < sizeLine ∧ k.nx ⟨(st1.eat kd).sl.set i (some (.lst (ds ++ [a]), true)), (st1.eat kd).cs⟩) E) : WS (svApp i fe ⟨sl, cs⟩) k E := by
 unfold svApp
 rw [show (⟨sl, cs⟩ : DS).sl[i]? = _ from e]
 dsimp only
 cases e2 : fe ⟨sl, cs⟩ with
 | stuck => rw [e2] at h; exact h
 | exc x st1 => rw [e2] at h; exact h
 | ok a st1 =>
  rw [e2] at h
  obtain ⟨ds, h1, h2, h3⟩ := (h : ∃ ds, (st1.eat a.2).sl[i]? = some (some (.lst ds, true)) ∧ _)
  show WS (match (st1.eat a.2).sl[i]? with | some (some (.lst ds, true)) => _ | _ => _) k E
  rw [h1]
  dsimp only
  rw [if_pos h2]
  exact h3
theorem wg_name' {n : DS → Prop} (h : n ⟨sl.set i (some (d, false)), cs⟩) : WG (zqq i d ⟨sl, cs⟩) n := h
theorem wg_tup' {n : DS → Prop} {m : Nat} {gg : List DV → DS → Option DS} {ds : List DV} (hl : ds.length = m) (h : WG (gg ds st) n) : WG (gvTup m gg (.tup ds) st) n := by
 unfold gvTup
 dsimp only
 rw [if_pos hl]
 exact h
theorem wg_nil {n : DS → Prop} (h : n st) : WG (gvNil [] st) n := h
theorem wg_cons {n : DS → Prop} {g1 : Gv} {gg : List DV → DS → Option DS} {ds : List DV} (h : WG (g1 d st) fun st1 => WG (gg ds st1) n) : WG (zqD g1 gg (d :: ds) st) n := by
 unfold zqD
 dsimp only
 cases e : g1 d st with
 | none => rw [e] at h; exact h
 | some s => rw [e] at h; exact h
theorem wi_e' (h : WE' (fe st) (fun a kd st1 => ∃ ds, itemsD a = some ds ∧ qv ds (st1.eat kd)) E) : WV (ivE fe st) qv E :=
 W.bind (W.imp h fun a st1 h => by obtain ⟨ds, h1, h2⟩ := h; rw [h1]; exact h2)
theorem wi_r1' (h : WA (ga st) (fun as st1 => ∃ j, as.map (·.1) = [DV.int j] ∧ (-(2 ^ 62) ≤ j ∧ j < 2 ^ 62) ∧ qv (rangeL 0 j.toNat) st1) E) : WV (ivR1 ga st) qv E :=
 W.bind (W.imp h fun as st1 h => by
  obtain ⟨j, h1, h2, h3⟩ := h
  rw [h1]
  dsimp only
  rw [if_pos h2]
  exact h3)
theorem wfor {gv : Gv} (I : List DV → DS → Prop) : ∀ (ds : List DV) (st : DS), I ds st → (∀ d r st, I (d :: r) st → WG (gv d st) fun st1 => WS (f st1) ⟨I r, k.nx, I r, k.rt⟩ E) → (∀ st, I [] st → k.nx st) → WS (forGo gv f ds st) k E
 | [], st, hi, _, he => he st hi
 | d :: r, st, hi, hb, he => by
  have h := hb d r st hi
  unfold forGo
  cases e : gv d st with
  | none => rw [e] at h; exact h
  | some st1 =>
   rw [e] at h
   have h : WS (f st1) _ E := h
   show WS ((f st1).bind _) k E
   cases e2 : f st1 with
   | stuck => rw [e2] at h; exact h
   | exc x st2 => rw [e2] at h; exact h
   | ok fl st2 =>
    rw [e2] at h
    cases fl with
    | nx => exact wfor I r st2 h hb he
    | ct => exact wfor I r st2 h hb he
    | bk => exact h
    | rt d kd => exact h
theorem ws_for' {fi : Iv} {gv : Gv} (h : WV (fi st) (fun ds st1 => WS (forGo gv f ds st1) k E) E) : WS (svFor fi gv f st) k E :=
 W.bind h
def WL (o : Option (List DV × DS)) (q : List DV → DS → Prop) : Prop := match o with | some r => q r.1 r.2 | none => False
theorem we_lc {vs : List Nat} {fi : Iv} {gv : Gv} (h : WV (fi st) (fun ds st1 => ds.length ≤ sizeLine ∧ WL (lcGo vs gv t fe ds [] (st1.dropAll vs)) fun ys st2 => q (.lst ys) .new st2) E) : WE' (evLc vs fi gv t fe st) q E :=
 W.bind (W.imp h fun ds st1 h => by
  rw [if_pos h.1]
  have h := h.2
  revert h
  generalize lcGo vs gv t fe ds [] (st1.dropAll vs) = o
  intro h
  cases o <;> exact h)
theorem wlc {vs : List Nat} {gv : Gv} (I : List DV → List DV → DS → Prop) : ∀ (ds acc : List DV) (st : DS), I ds acc st →
 (∀ d r acc st, I (d :: r) acc st → WG (gv d (st.wipe vs)) fun st1 => WT (t st1) (fun c st2 => IfK c (WE' (fe st2) (fun a kd st3 => I r (acc ++ [a]) (st.back (st3.eat kd) vs)) noX) (I r acc (st.back st2 vs))) noX) →
 ∀ {q : List DV → DS → Prop}, (∀ acc st, I [] acc st → q acc st) → WL (lcGo vs gv t fe ds acc st) q
 | [], acc, st, hi, _, q, he => he acc st hi
 | d :: r, acc, st, hi, hb, q, he => by
  have h := hb d r acc st hi
  unfold lcGo
  cases e : gv d (st.wipe vs) with
  | none => rw [e] at h; exact h
  | some st1 =>
   rw [e] at h
   have h : WT (t st1) _ noX := h
   dsimp only
   cases e2 : t st1 with
   | stuck => rw [e2] at h; exact h
   | exc x st2 => rw [e2] at h; exact h
   | ok c st2 =>
    rw [e2] at h
    cases c with
    | false => exact wlc I r acc _ h hb he
    | true =>
     have h : WE' (fe st2) (fun a kd st3 => I r (acc ++ [a]) (st.back (st3.eat kd) vs)) noX := h
     dsimp only
     cases e3 : fe st2 with
     | stuck => rw [e3] at h; exact h
     | exc x st3 => rw [e3] at h; exact h
     | ok a st3 => rw [e3] at h; exact wlc I r (acc ++ [a.1]) _ h hb he
def RetT (k : Kd) (st : DS) : Kd := match k with | .fro => .fro | .new => .new | .view i => (match st.sl[i]? with | some (some (_, true)) => .new | _ => .fro)
theorem wf_sv {n p : Nat} {sv : Sv} {ds : List DV} {q : QF} (hl : ds.length = p) (h : WS (sv ⟨zql n ds, cs⟩) ⟨fun st => q .non .new st.cs, fun _ => False, fun _ => False, fun a kd st => q a (RetT kd st) st.cs⟩ E) : WF' (fnSv n p sv) ds cs q E := by
 unfold WF' fnSv
 rw [if_pos hl]
 show W (outRet (sv ⟨zql n ds, cs⟩)) (fun a st => q a.1 a.2 st.cs) E
 cases e : sv ⟨zql n ds, cs⟩ with
 | stuck => rw [e] at h; exact h
 | exc x st1 => rw [e] at h; exact h
 | ok fl st1 => rw [e] at h; cases fl <;> exact h
end
end D
namespace D
open PySem L2 PyProof.Rows
mutual
def dOk : DV → Bool
 | .non => true
 | .bl _ => true
 | .int i => decide (i.natAbs < 10 ^ 36)
 | .str s => s.cps.all (· < 0x110000)
 | .lst ds => dOks ds
 | .tup ds => dOks ds
 | _ => false
def dOks : List DV → Bool
 | [] => true
 | d :: ds => dOk d && dOks ds
end
mutual
def dW : DV → Nat
 | .int _ => 128
 | .str s => s.cps.size
 | .lst ds => dWs ds
 | .tup ds => dWs ds
 | _ => 0
def dWs : List DV → Nat
 | [] => 0
 | d :: ds => dW d + 1 + dWs ds
end
mutual
def dDp : DV → Nat
 | .lst ds => dDps ds + 1
 | .tup ds => dDps ds + 1
 | _ => 0
def dDps : List DV → Nat
 | [] => 0
 | d :: ds => max (dDp d) (dDps ds)
end
structure PData (d : DV) (p : PyData) : Prop where
 eq : toP d = some p
 lay : p.canLay0 = true
 shrt : p.leavesShort 40 = true
 sho : p.showable = true
 wt : p.weight ≤ dW d
 dp : p.depth = dDp d
structure PDatas (ds : List DV) (ps : List PyData) : Prop where
 eq : toPs ds = some ps
 lay : PyData.canLayAll0 ps = true
 shrt : PyData.leavesShortAll 40 ps = true
 sho : PyData.showableAll ps = true
 wt : PyData.weightAll ps ≤ dWs ds
 dp : PyData.depthAll ps = dDps ds
theorem log2_lt {n : Nat} (h : n < 10 ^ 36) : n.log2 + 1 ≤ 128 ∧ n.log2 < 1920 := by
 by_cases h0 : n = 0
 · subst h0; decide
 · have : n.log2 < 127 := (Nat.log2_lt h0).mpr (Nat.lt_trans h (by decide))
   omega
mutual
theorem toP_ok : ∀ (d : DV), dOk d = true → ∃ p, PData d p
 | .non, _ => ⟨_, rfl, rfl, rfl, rfl, Nat.le_refl _, rfl⟩
 | .bl b, _ => ⟨_, rfl, rfl, rfl, rfl, Nat.le_refl _, rfl⟩
 | .int i, h => by
  have h' : i.natAbs < 10 ^ 36 := of_decide_eq_true h
  obtain ⟨h1, h2⟩ := log2_lt h'
  refine ⟨.int i, rfl, rfl, ?_, decide_eq_true h2, ?_, rfl⟩
  · have e := int_text_length_le10 (k := 36) (by decide) h'
    refine decide_eq_true ?_
    show (Str.ofString (toString i)).length ≤ 40
    rw [PySem.ofString_length]; omega
  · show (if i == 0 then 0 else i.natAbs.log2 + 1) ≤ 128
    split <;> omega
 | .str s, h => by
  have h' : s.cps.all (· < 0x110000) = true := h
  refine ⟨.str s, rfl, h', ?_, rfl, Nat.le_refl _, rfl⟩
  simp only [PyData.leavesShort, List.all_eq_true, decide_eq_true_eq]
  intro c hc
  have := (Array.all_eq_true_iff_forall_mem.mp h') c (Array.mem_toList_iff.mp hc)
  have h3 : c < 0x110000 := by simpa using this
  exact Nat.lt_trans h3 (by decide)
 | .lst ds, h => by
  obtain ⟨ps, q⟩ := toPs_ok ds h
  exact ⟨.list ps, by simp only [toP, q.eq]; rfl, q.lay, by simpa only [PyData.leavesShort] using q.shrt, by simpa only [PyData.showable] using q.sho, by simpa only [PyData.weight, dW] using q.wt, by simp only [PyData.depth, dDp, q.dp]⟩
 | .tup ds, h => by
  obtain ⟨ps, q⟩ := toPs_ok ds h
  exact ⟨.tuple ps, by simp only [toP, q.eq]; rfl, q.lay, by simpa only [PyData.leavesShort] using q.shrt, by simpa only [PyData.showable] using q.sho, by simpa only [PyData.weight, dW] using q.wt, by simp only [PyData.depth, dDp, q.dp]⟩
theorem toPs_ok : ∀ (ds : List DV), dOks ds = true → ∃ ps, PDatas ds ps
 | [], _ => ⟨[], rfl, rfl, rfl, rfl, Nat.le_refl _, rfl⟩
 | d :: ds, h => by
  have h' : dOk d = true ∧ dOks ds = true := by simpa only [dOks, Bool.and_eq_true] using h
  obtain ⟨p, q⟩ := toP_ok d h'.1
  obtain ⟨ps, r⟩ := toPs_ok ds h'.2
  refine ⟨p :: ps, by simp only [toPs, q.eq, r.eq], ?_, ?_, ?_, ?_, ?_⟩
  · simp only [PyData.canLayAll0, q.lay, r.lay, Bool.and_self]
  · simp only [PyData.leavesShortAll, q.shrt, r.shrt, Bool.and_self]
  · simp only [PyData.showableAll, q.sho, r.sho, Bool.and_self]
  · have h1 := q.wt
    have h2 := r.wt
    simp only [PyData.weightAll, dWs]
    omega
  · simp only [PyData.depthAll, dDps, q.dp, r.dp]
end
@[irreducible] def reprS (d : DV) : Str := match toP d with | some p => p.shown | none => ""
theorem eqD_refl {a : DV} (ha : dOk a = true) (da : dDp a ≤ 64) : eqD a a = some true := by
 obtain ⟨p, q⟩ := toP_ok a ha
 have s1 : SeqAt.shaped p = true := by
  show (p.canLay0 && decide (p.depth ≤ 64)) = true
  rw [q.lay, q.dp, decide_eq_true da]; rfl
 have e1 : dEqv a a = some true := by
  unfold dEqv
  rw [q.eq]
  simp only [s1, Bool.and_self, if_true]
  rw [SeqAt.eqv_refl p q.lay]
 cases a <;> first
  | exact e1
  | (simp [eqD]; done)
abbrev iL (xs : List Int) : DV := .lst (xs.map .int)
theorem dOks_ints : ∀ {xs : List Int}, (∀ x ∈ xs, x.natAbs < 10 ^ 36) → dOks (xs.map .int) = true
 | [], _ => rfl
 | x :: xs, h => by
  simp only [List.map_cons, dOks, dOk, Bool.and_eq_true, decide_eq_true_eq]
  exact ⟨h x (by simp), dOks_ints fun y hy => h y (by simp [hy])⟩
theorem dDps_ints : ∀ {xs : List Int}, dDps (xs.map .int) = 0
 | [] => rfl
 | x :: xs => by simp only [List.map_cons, dDps, dDp, dDps_ints, Nat.max_self]
theorem dWs_ints : ∀ {xs : List Int}, dWs (xs.map .int) = 129 * xs.length
 | [] => rfl
 | x :: xs => by simp only [List.map_cons, dWs, dW, dWs_ints, List.length_cons]; omega
section
variable {p : DV → Kd → Prop} {a : DV} {kd : Kd} {o : Option (DV × Kd)} {i j : Int} {xs ys : List DV} {x y : Str} {ct : CT}
theorem wo (h : o = some (a, kd)) (hp : p a kd) : WO o p := by rw [h]; exact hp
theorem wo_mul (h : (fits64 i || fits64 j) = true) (hp : p (.int (i * j)) .new) : WO (dBin .Mult (.int i) (.int j)) p := wo (by show dMul (.int i) (.int j) = _; simp only [dMul, h, if_true]) hp
theorem wo_div (h : 0 < j ∧ j < 2 ^ 64) (hp : p (.int (i / j)) .new) : WO (dBin .FloorDiv (.int i) (.int j)) p := wo (by show dDiv (.int i) (.int j) = _; simp only [dDiv, h, and_self, if_true]) hp
theorem wo_mod (h : 0 < j) (hp : p (.int (i % j)) .new) : WO (dBin .Mod (.int i) (.int j)) p := wo (by show dMod (.int i) (.int j) = _; simp only [dMod, h, if_true]) hp
theorem wo_pow (h : powOk i j = true) (hp : p (.int (i ^ j.toNat)) .new) : WO (dBin .Pow (.int i) (.int j)) p := wo (by show dPow (.int i) (.int j) = _; simp only [dPow, h, if_true]) hp
theorem wo_addL (h : xs.length + ys.length ≤ sizeLine) (hp : p (.lst (xs ++ ys)) .new) : WO (dBin .Add (.lst xs) (.lst ys)) p := wo (by show dAdd (.lst xs) (.lst ys) = _; simp only [dAdd, h, if_true]) hp
theorem wo_addT (h : xs.length + ys.length ≤ sizeLine) (hp : p (.tup (xs ++ ys)) .fro) : WO (dBin .Add (.tup xs) (.tup ys)) p := wo (by show dAdd (.tup xs) (.tup ys) = _; simp only [dAdd, h, if_true]) hp
theorem wo_addS (h : x.length + y.length ≤ sizeLine) (hp : p (.str (x ++ y)) .new) : WO (dBin .Add (.str x) (.str y)) p := wo (by show dAdd (.str x) (.str y) = _; simp only [dAdd, h, if_true]) hp
theorem wo_mulL (h : -(2 ^ 63) ≤ i ∧ i < 2 ^ 63 ∧ xs.length * i.toNat ≤ sizeLine) (hp : p (.lst (List.replicate i.toNat xs).flatten) .new) : WO (dBin .Mult (.lst xs) (.int i)) p := wo (by show dMul (.lst xs) (.int i) = _; simp only [dMul]; rw [if_pos h]) hp
theorem wo_neR {d : DV} (hd : dOk d = true) (pd : dDp d ≤ 64) (hp : p (.bl false) .new) : WO (dCmp .NotEq d d) p := wo (by show (eqD d d).map _ = _; rw [eqD_refl hd pd]; rfl) hp
theorem wo_all {bs : List Bool} (h : xs = bs.map .bl) (hp : p (.bl (bs.all id)) .new) : WO (Blt.run ct .all [.lst xs]) p := wo (by subst h; show allD (.lst _) = _; unfold allD; dsimp only; rw [boolsD_map]; rfl) hp
theorem atI_in {α : Type} {xs : List α} {j : Int} (h0 : 0 ≤ j) (h1 : j < xs.length) : ∃ x, atI xs j = some x ∧ xs[j.toNat]? = some x ∧ x ∈ xs := by
 have hj : j.toNat < xs.length := by omega
 refine ⟨xs[j.toNat], ?_, by simp [hj], List.getElem_mem hj⟩
 have := atI_nat (xs := xs) (j := j.toNat) (List.getElem?_eq_getElem hj)
 rw [Int.toNat_of_nonneg h0] at this
 exact this
theorem wo_ix (h0 : 0 ≤ i) (h1 : i < xs.length) (hp : ∀ d, xs[i.toNat]? = some d → d ∈ xs → p d .fro) : WO (dIx (.lst xs) (.int i)) p := by
 obtain ⟨d, e1, e2, e3⟩ := atI_in h0 h1
 exact wo (by show (ixD (.lst xs) (.int i)).map _ = _; simp only [ixD, e1, Option.map_some]) (hp d e2 e3)
end
end D
namespace D
open PySem L2 PyProof.Rows
theorem zqy : sizeLine = 16777216 := rfl
def EatT (kd : Kd) (st : DS) (n : DS → Prop) : Prop := n (st.eat kd)
section
variable {q : QE} {qb : Bool → DS → Prop} {qa : List (DV × Kd) → DS → Prop} {qv : List DV → DS → Prop} {qp : Option Int → DS → Prop} {qd : List Key → List DV → DS → Prop} {E : EK} {nx bk ct : DS → Prop} {rt : QE} {st st1 : DS} {sl : List Slot} {cs : List CellC} {fa fb fc fe : Ev} {f g : Sv} {ta tb t : Tv} {ga gb : Ak} {ge : Av'} {d a b : DV} {kd : Kd} {i j : Nat} {o : Option (DV × Kd)} {p : DV → Kd → Prop} {A B : Prop} {n : DS → Prop}
theorem eat_new (h : n st) : EatT .new st n := h
theorem eat_fro (h : n st) : EatT .fro st n := h
theorem eat_view (h : n ⟨dropSl sl j, cs⟩) : EatT (.view j) ⟨sl, cs⟩ n := h
theorem eat_nk (h : n st) : EatT (nk a .fro) st n := by
 unfold EatT nk
 split <;> exact h
theorem r_seq (h : WS (f st) ⟨fun st1 => WS (g st1) ⟨nx, bk, ct, rt⟩ E, bk, ct, rt⟩ E) : WS (zqm f g st) ⟨nx, bk, ct, rt⟩ E := ws_seq h
theorem r_nx (h : nx st) : WS (svNx st) ⟨nx, bk, ct, rt⟩ E := h
theorem r_expr (h : WE' (fe st) (fun _ _ st1 => nx st1) E) : WS (svExpr fe st) ⟨nx, bk, ct, rt⟩ E := ws_expr' h
theorem r_ret (h : WE' (fe st) rt E) : WS (zqw fe st) ⟨nx, bk, ct, rt⟩ E := ws_ret' h
theorem r_raise (h : E ⟨i, [], []⟩ cs) : WS (zqI i ⟨sl, cs⟩) ⟨nx, bk, ct, rt⟩ E := h
theorem r_if (h : WT (t st) (fun c st1 => IfK c (WS (f st1) ⟨nx, bk, ct, rt⟩ E) (WS (g st1) ⟨nx, bk, ct, rt⟩ E)) E) : WS (svIf t f g st) ⟨nx, bk, ct, rt⟩ E := ws_if' h
theorem r_set (h : WE' (fe st) (fun a kd st1 => PutT i a kd st1 nx) E) : WS (zqs i fe st) ⟨nx, bk, ct, rt⟩ E := ws_set' h
theorem r_then (h : WS (f st) ⟨nx, nx, nx, fun _ _ st1 => nx st1⟩ E) : WS (svThen f st) ⟨nx, bk, ct, rt⟩ E := ws_then h
theorem r_par (h : WE' (fe st) (fun a kd st1 => ParT i a kd st1 g nx E) E) : WS (svPar i fe g st) ⟨nx, bk, ct, rt⟩ E := ws_par' h
theorem r_parN {bb : Bool} (hb : (isCont a && cs.all isDraw) = bb) (h : WS (g ⟨sl, cs⟩) ⟨fun st2 => n ⟨st2.sl.set i (some (a, bb)), st2.cs⟩, fun st2 => n ⟨st2.sl.set i (some (a, bb)), st2.cs⟩, fun st2 => n ⟨st2.sl.set i (some (a, bb)), st2.cs⟩, fun _ _ st2 => n ⟨st2.sl.set i (some (a, bb)), st2.cs⟩⟩ E) : ParT i a .new ⟨sl, cs⟩ g n E := par_new hb h
theorem r_parNk (hf : flat a = true) (h : WS (g ⟨sl, cs⟩) ⟨fun st2 => n ⟨st2.sl.set i (some (a, false)), st2.cs⟩, fun st2 => n ⟨st2.sl.set i (some (a, false)), st2.cs⟩, fun st2 => n ⟨st2.sl.set i (some (a, false)), st2.cs⟩, fun _ _ st2 => n ⟨st2.sl.set i (some (a, false)), st2.cs⟩⟩ E) : ParT i a (nk a kd) ⟨sl, cs⟩ g n E := by
 unfold nk
 rw [if_pos hf]
 refine par_new ?_ h
 cases a <;> first | rfl | cases hf
theorem r_parNf (h : WS (g ⟨sl, cs⟩) ⟨fun st2 => n ⟨st2.sl.set i (some (a, false)), st2.cs⟩, fun st2 => n ⟨st2.sl.set i (some (a, false)), st2.cs⟩, fun st2 => n ⟨st2.sl.set i (some (a, false)), st2.cs⟩, fun _ _ st2 => n ⟨st2.sl.set i (some (a, false)), st2.cs⟩⟩ E) : ParT i a (nk a .fro) ⟨sl, cs⟩ g n E := by
 by_cases hf : flat a = true
 · exact r_parNk hf h
 · unfold nk
   rw [if_neg hf]
   exact h
theorem r_asg {gv : Gv} (h : WE' (fe st) (fun a kd st1 => EatT kd st1 fun st2 => WG (gv a st2) nx) E) : WS (svAsg fe gv st) ⟨nx, bk, ct, rt⟩ E := ws_asg' h
theorem r_app {ds0 : List DV} (e : sl[i]? = some (some (.lst ds0, true))) (h : WE' (fe ⟨sl, cs⟩) (fun a kd st1 => EatT kd st1 fun st2 => ∃ ds, st2.sl[i]? = some (some (.lst ds, true)) ∧ ds.length < sizeLine ∧ nx ⟨st2.sl.set i (some (.lst (ds ++ [a]), true)), st2.cs⟩) E) : WS (svApp i fe ⟨sl, cs⟩) ⟨nx, bk, ct, rt⟩ E := ws_app e h
theorem r_for {fi : Iv} {gv : Gv} (h : WV (fi st) (fun ds st1 => WS (forGo gv f ds st1) ⟨nx, bk, ct, rt⟩ E) E) : WS (svFor fi gv f st) ⟨nx, bk, ct, rt⟩ E := ws_for' h
theorem rv_cons (h : WE' (fe st) (fun a kd st1 => EatT kd st1 fun st2 => WV (ge st2) (fun ds st3 => qv (a :: ds) st3) E) E) : WV (zqg fe ge st) qv E := wv_cons h
theorem ri_e (h : WE' (fe st) (fun a kd st1 => EatT kd st1 fun st2 => ∃ ds, itemsD a = some ds ∧ qv ds st2) E) : WV (ivE fe st) qv E := wi_e' h
theorem bk_p {as : List (DV × Kd)} (hv : noView as = true) (h : q a (kdO kd) ⟨sl, cs⟩) : BkT sl as a kd cs q := bk_plain hv h
theorem wf' {m l : Nat} {sv : Sv} {ds : List DV} {q : QF} (hl : ds.length = l) (h : WS (sv ⟨zql m ds, cs⟩) ⟨fun st => q .non .new st.cs, fun _ => False, fun _ => False, fun a kd st => q a (RetT kd st) st.cs⟩ E) : WF' (fnSv m l sv) ds cs q E := wf_sv hl h
end
end D
namespace D
open PySem L2 PyProof.Rows
theorem ifk_not {A B : Prop} {a : Bool} (h : IfK a B A) : IfK (!a) A B := by
 cases a <;> exact h
theorem kdF {i : Nat} : cond false (Kd.view i) Kd.fro = Kd.fro := rfl
theorem kdT {i : Nat} : cond true (Kd.view i) Kd.fro = Kd.view i := rfl
theorem we_varK {q : QE} {E : EK} {sl : List Slot} {cs : List CellC} {i : Nat} {d : DV} {b : Bool} {kd : Kd} (e : sl[i]? = some (some (d, b))) (hk : cond b (Kd.view i) Kd.fro = kd) (h : q d kd ⟨sl, cs⟩) : WE' (zqc i ⟨sl, cs⟩) q E := by
 subst hk
 cases b
 · exact we_var e h
 · exact we_varO e h
theorem wl_fm {vs : List Nat} {gv : Gv} {t : Tv} {fe : Ev} {q : List DV → DS → Prop} (g : DV → Option DV) (st : DS) : ∀ (ds acc : List DV), (∀ d ∈ ds, WG (gv d (st.wipe vs)) fun st1 => WT (t st1) (fun c st2 => IfK c (WE' (fe st2) (fun a kd st3 => g d = some a ∧ st.back (st3.eat kd) vs = st) noX) (g d = none ∧ st.back st2 vs = st)) noX) → q (acc ++ ds.filterMap g) st → WL (lcGo vs gv t fe ds acc st) q := fun ds acc hb hq =>
 wlc (fun r acc' st' => st' = st ∧ (∀ d ∈ r, WG (gv d (st.wipe vs)) fun st1 => WT (t st1) (fun c st2 => IfK c (WE' (fe st2) (fun a kd st3 => g d = some a ∧ st.back (st3.eat kd) vs = st) noX) (g d = none ∧ st.back st2 vs = st)) noX) ∧ acc' ++ r.filterMap g = acc ++ ds.filterMap g) ds acc st ⟨rfl, hb, rfl⟩
  (fun d r acc' st' ⟨e1, e2, e3⟩ => by
   subst e1
   have hd := e2 d (by simp)
   revert hd
   generalize gv d (st'.wipe vs) = o
   intro hd
   cases o with
   | none => exact hd
   | some st1 =>
    have hd : WT (t st1) _ noX := hd
    show WT (t st1) _ noX
    refine W.imp hd fun c st2 h => ?_
    cases c with
    | false =>
     obtain ⟨h1, h2⟩ := (h : g d = none ∧ _)
     refine ⟨h2, fun x hx => e2 x (by simp [hx]), ?_⟩
     rw [← e3, List.filterMap_cons, h1]
    | true =>
     have h : WE' (fe st2) (fun a kd st3 => g d = some a ∧ st'.back (st3.eat kd) vs = st') noX := h
     refine W.imp h fun a st3 h => ?_
     obtain ⟨h1, h2⟩ := h
     refine ⟨h2, fun x hx => e2 x (by simp [hx]), ?_⟩
     rw [← e3, List.filterMap_cons, h1]
     simp)
  (fun acc' st' ⟨e1, _, e3⟩ => by subst e1; rw [← e3] at hq; simpa using hq)
theorem wl_map {β : Type} {vs : List Nat} {gv : Gv} {t : Tv} {fe : Ev} {q : List DV → DS → Prop} (f g : β → DV) (st : DS) (es : List β) (acc : List DV) (hb : ∀ e ∈ es, WG (gv (f e) (st.wipe vs)) fun st1 => WT (t st1) (fun c st2 => IfK c (WE' (fe st2) (fun a kd st3 => a = g e ∧ st.back (st3.eat kd) vs = st) noX) False) noX) (hq : q (acc ++ es.map g) st) : WL (lcGo vs gv t fe (es.map f) acc st) q :=
 wlc (fun r acc' st' => st' = st ∧ ∃ es' : List β, r = es'.map f ∧ (∀ e ∈ es', WG (gv (f e) (st.wipe vs)) fun st1 => WT (t st1) (fun c st2 => IfK c (WE' (fe st2) (fun a kd st3 => a = g e ∧ st.back (st3.eat kd) vs = st) noX) False) noX) ∧ acc' ++ es'.map g = acc ++ es.map g) (es.map f) acc st ⟨rfl, es, rfl, hb, rfl⟩
  (fun d r acc' st' ⟨e1, es', e2, e3, e4⟩ => by
   subst e1
   cases es' with
   | nil => cases e2
   | cons z es' =>
    injection e2 with e5 e6
    subst e5
    have hd := e3 z (by simp)
    revert hd
    generalize gv (f z) (st'.wipe vs) = o
    intro hd
    cases o with
    | none => exact hd
    | some st1 =>
     have hd : WT (t st1) _ noX := hd
     show WT (t st1) _ noX
     refine W.imp hd fun c st2 h => ?_
     cases c with
     | false => exact (h : False).elim
     | true =>
      have h : WE' (fe st2) (fun a kd st3 => a = g z ∧ st'.back (st3.eat kd) vs = st') noX := h
      refine W.imp h fun a st3 h => ?_
      obtain ⟨h1, h2⟩ := h
      refine ⟨h2, es', e6, fun x hx => e3 x (by simp [hx]), ?_⟩
      rw [← e4, h1]
      simp)
  (fun acc' st' ⟨e1, es', e2, e3, e4⟩ => by
   subst e1
   cases es' with
   | nil => rw [← e4] at hq; simpa using hq
   | cons z es' => cases e2)
theorem wl_inv {vs : List Nat} {gv : Gv} {t : Tv} {fe : Ev} {q : List DV → DS → Prop} (J : Nat → DS → Prop) (Q : DV → Prop) (ds : List DV) (st : DS) (h0 : J ds.length st)
 (hb : ∀ d m st, d ∈ ds → J (m + 1) st → WG (gv d (st.wipe vs)) fun st1 => WT (t st1) (fun c st2 => c = true ∧ WE' (fe st2) (fun a kd st3 => EatT kd st3 fun st4 => Q a ∧ J m (st.back st4 vs)) noX) noX)
 (he : ∀ ys st, ys.length = ds.length → (∀ y ∈ ys, Q y) → J 0 st → q ys st) : WL (lcGo vs gv t fe ds [] st) q :=
 wlc (fun r acc st' => J r.length st' ∧ (∀ d ∈ r, d ∈ ds) ∧ (∀ y ∈ acc, Q y) ∧ acc.length + r.length = ds.length) ds [] st ⟨h0, fun _ h => h, fun _ h => by simp at h, by simp⟩
  (fun d r acc st' ⟨e1, e2, e3, e4⟩ => by
   have hd := hb d r.length st' (e2 d (by simp)) e1
   revert hd
   generalize gv d (st'.wipe vs) = o
   intro hd
   cases o with
   | none => exact hd
   | some st1 =>
    have hd : WT (t st1) _ noX := hd
    show WT (t st1) _ noX
    refine W.imp hd fun c st2 h => ?_
    obtain ⟨h1, h2⟩ := h
    subst h1
    refine W.imp h2 fun a st3 h => ?_
    obtain ⟨h1, h2⟩ := h
    refine ⟨h2, fun x hx => e2 x (by simp [hx]), fun y hy => ?_, by simp at e4 ⊢; omega⟩
    rcases List.mem_append.mp hy with hy | hy
    · exact e3 y hy
    · simp at hy; subst hy; exact h1)
  (fun acc st' ⟨e1, _, e3, e4⟩ => he acc st' (by simpa using e4) e3 e1)
theorem we_lamF {C : CT} {L : LamD} {F : Fn} {ga : Ak} {st : DS} {q : QE} {E : EK} (h : WA (ga st.frz) (fun as st1 => noView as = true ∧ WF' F (as.map (·.1)) st1.cs (fun _ _ cs' => WS (L.rest ⟨L.sl1, cs'⟩) ⟨fun st2 => q .non .new ⟨st1.sl, st2.cs⟩, fun _ => False, fun _ => False, fun a _ st2 => q a (nk a .fro) ⟨st1.sl, st2.cs⟩⟩ noX)
 (fun x cs' => catchN C L.kx x.c = some true ∧ WS (L.rest ⟨L.slX x, cs'⟩) ⟨fun st2 => q .non .new ⟨st1.sl, st2.cs⟩, fun _ => False, fun _ => False, fun a _ st2 => q a (nk a .fro) ⟨st1.sl, st2.cs⟩⟩ noX)) noX) : WE' (evLam C L (evN (zqr F ga)) st) q E := by
 have fin : ∀ {o : Out Fl} {sl' : List Slot}, WS o ⟨fun st2 => q .non .new ⟨sl', st2.cs⟩, fun _ => False, fun _ => False, fun a _ st2 => q a (nk a .fro) ⟨sl', st2.cs⟩⟩ noX → WE' (lamBack sl' (outRet o)) q E := fun {o sl'} h => by
  cases o with
  | stuck => exact h
  | exc x st2 => exact (show False from h).elim
  | ok fl st2 => cases fl <;> exact h
 unfold evLam evN zqr
 cases e : ga st.frz with
 | stuck => rw [e] at h; exact h
 | exc x st1 => rw [e] at h; exact (h : False).elim
 | ok as st1 =>
  rw [e] at h
  obtain ⟨h1, h⟩ := (h : noView as = true ∧ _)
  unfold WF' at h
  simp only [Out.bind]
  revert h
  generalize F (as.map (·.1)) ⟨[], st1.cs⟩ = o
  intro h
  cases o with
  | stuck => exact h
  | exc x st2 =>
   obtain ⟨h2, h3⟩ := (h : catchN C L.kx x.c = some true ∧ _)
   show WE' (match catchN C L.kx x.c with | some true => lamBack (zqC ⟨st1.sl, st2.cs⟩ as).sl (outRet (L.rest ⟨L.slX x, (zqC ⟨st1.sl, st2.cs⟩ as).cs⟩)) | _ => .stuck) q E
   rw [h2, zqH h1]
   exact fin h3
  | ok a st2 =>
   obtain ⟨a, kd⟩ := a
   have h : WS _ _ noX := h
   cases kd <;> (simp only [backTo', Out.bind]; first | exact fin h | (rw [zqH h1, ite_self]; exact fin h) | (rw [zqH h1]; simp only [ite_self]; exact fin h))
theorem next_eqD {d : DrawSt} {n : Nat} {many : Int} {q : QF} {E : EK} (ok : zqo d (n + 1)) (hm : 0 < many) (hm2 : many < 2 ^ 64) (h : ∀ r d' kd, 0 ≤ r → r < many → zqo d' n → q (.int r) kd [.draw d']) : WF' F_15 [.cel 0, .int many] [.draw d] q E := by
 obtain ⟨r, d', kd, e, r0, r1, ok'⟩ := next_run (k := 0) (cs := [.draw d]) ok rfl hm hm2
 exact WF'.eq e (h r d' kd r0 r1 ok')
theorem fits_r {i j : Int} (h : fits64 j = true) : (fits64 i || fits64 j) = true := by rw [h, Bool.or_true]
theorem fits_l {i j : Int} (h : fits64 i = true) : (fits64 i || fits64 j) = true := by rw [h, Bool.true_or]
theorem and_tt {b : Bool} {B : Prop} (h : b = true) (hB : B) : b = true ∧ B := ⟨h, hB⟩
theorem wo_neS {s s' : Str} {p : DV → Kd → Prop} (h : p (.bl (!decide (s = s'))) .new) : WO (dCmp .NotEq (.str s) (.str s')) p := wo (a := .bl (!decide (s = s'))) (kd := .new) (by show dNe (.str s) (.str s') = _; simp only [dNe, eqD, Option.map_some]) h
theorem and_ff {b : Bool} {B : Prop} (h : b = false) (hB : B) : b = false ∧ B := ⟨h, hB⟩
theorem and_15 {n : Nat} {B : Prop} (h : n ≤ 15) (hB : B) : n ≤ 15 ∧ B := ⟨h, hB⟩
theorem wo_a1 {g : OpN} {p : DV → Kd → Prop} {a0 : DV} {k0 : Kd} (h : WO (g [a0]) p) : WO (g (List.map (fun x => x.1) [(a0, k0)])) p := h
theorem wo_m1 {g : OpN} {p : DV → Kd → Prop} {a : DV} {a0 : DV} {k0 : Kd} (h : WO (g (a :: [a0])) p) : WO (g (a :: List.map (fun x => x.1) [(a0, k0)])) p := h
theorem wo_a2 {g : OpN} {p : DV → Kd → Prop} {a0 a1 : DV} {k0 k1 : Kd} (h : WO (g [a0, a1]) p) : WO (g (List.map (fun x => x.1) [(a0, k0), (a1, k1)])) p := h
structure RepOk (d : DV) : Prop where
 o : dOk d = true
 w : dW d ≤ 300000
 p : dDp d ≤ 64
theorem RepOk.ints {xs : List Int} (hl : xs.length ≤ 2000) (h : ∀ x ∈ xs, x.natAbs < 10 ^ 36) : RepOk (iL xs) := ⟨dOks_ints h, by show dWs _ ≤ _; rw [dWs_ints]; omega, by show dDps _ + 1 ≤ 64; rw [dDps_ints]; decide⟩
theorem RepOk.bl {b : Bool} : RepOk (.bl b) := ⟨rfl, Nat.zero_le _, Nat.zero_le _⟩
theorem RepOk.int {x : Int} (h : x.natAbs < 10 ^ 36) : RepOk (.int x) := ⟨by simp [dOk, h], by show (128 : Nat) ≤ 300000; decide, by show (0 : Nat) ≤ 64; decide⟩
def FnT (F : Fn) (as : List (DV × Kd)) (st : DS) (q : QE) (E : EK) : Prop := WF' F (as.map (·.1)) st.cs (fun a kd cs' => BkT st.sl as a kd cs' q) E
theorem we_fnT {F : Fn} {ga : Ak} {st : DS} {q : QE} {E : EK} (h : WA (ga st) (fun as st1 => FnT F as st1 q E) E) : WE' (zqr F ga st) q E := we_fn h
theorem fnT0 {F : Fn} {sl : List Slot} {cs : List CellC} {q : QE} {E : EK} (h : WF' F [] cs (fun a kd cs' => BkT sl [] a kd cs' q) E) : FnT F [] ⟨sl, cs⟩ q E := h
theorem fnT1 {F : Fn} {sl : List Slot} {cs : List CellC} {q : QE} {E : EK} {a0 : DV} {k0 : Kd} (h : WF' F [a0] cs (fun a kd cs' => BkT sl [(a0, k0)] a kd cs' q) E) : FnT F [(a0, k0)] ⟨sl, cs⟩ q E := h
theorem fnT2 {F : Fn} {sl : List Slot} {cs : List CellC} {q : QE} {E : EK} {a0 a1 : DV} {k0 k1 : Kd} (h : WF' F [a0, a1] cs (fun a kd cs' => BkT sl [(a0, k0), (a1, k1)] a kd cs' q) E) : FnT F [(a0, k0), (a1, k1)] ⟨sl, cs⟩ q E := h
theorem fnT3 {F : Fn} {sl : List Slot} {cs : List CellC} {q : QE} {E : EK} {a0 a1 a2 : DV} {k0 k1 k2 : Kd} (h : WF' F [a0, a1, a2] cs (fun a kd cs' => BkT sl [(a0, k0), (a1, k1), (a2, k2)] a kd cs' q) E) : FnT F [(a0, k0), (a1, k1), (a2, k2)] ⟨sl, cs⟩ q E := h
theorem fnT4 {F : Fn} {sl : List Slot} {cs : List CellC} {q : QE} {E : EK} {a0 a1 a2 a3 : DV} {k0 k1 k2 k3 : Kd} (h : WF' F [a0, a1, a2, a3] cs (fun a kd cs' => BkT sl [(a0, k0), (a1, k1), (a2, k2), (a3, k3)] a kd cs' q) E) : FnT F [(a0, k0), (a1, k1), (a2, k2), (a3, k3)] ⟨sl, cs⟩ q E := h
def NkT (a : DV) (kd : Kd) (st : DS) (q : QE) : Prop := q a (nk a kd) st
section
variable {sl : List Slot} {cs : List CellC} {as : List (DV × Kd)} {a : DV} {q : QE}
theorem bk_pn (hv : noView as = true) (h : q a .new ⟨sl, cs⟩) : BkT sl as a .new cs q := bk_plain hv h
theorem bk_pf (hv : noView as = true) (h : q a .fro ⟨sl, cs⟩) : BkT sl as a .fro cs q := bk_plain hv h
theorem bk_pk (hv : noView as = true) (h : q a (nk a .fro) ⟨sl, cs⟩) : BkT sl as a (nk a .fro) cs q := bk_plain hv (by rw [show kdO (nk a .fro) = nk a .fro from by unfold nk; by_cases hf : flat a = true <;> simp [hf, kdO]]; exact h)
theorem bk_sn (hs : safeR (a, .new) = true) (hd : cs.all isDraw = true) (h : q a .new ⟨sl, cs⟩) : BkT sl as a .new cs q := bk_safe hs hd h
theorem nk_nk {kd : Kd} : nk a (nk a kd) = nk a kd := by unfold nk; split <;> rfl
theorem nk_new : nk a .new = .new := by unfold nk; split <;> rfl
theorem we_nN {fe : Ev} {st : DS} {E : EK} (h : WE' (fe st) (fun a kd st1 => NkT a kd st1 q) E) : WE' (evN fe st) q E := we_n (h.mono (fun a kd st1 h => by unfold NkT at h; exact h) fun _ _ h => h)
theorem nkT_n {st : DS} (h : q a .new st) : NkT a .new st q := by unfold NkT; rw [nk_new]; exact h
theorem nkT_k {st : DS} {kd : Kd} (h : q a (nk a kd) st) : NkT a (nk a kd) st q := by unfold NkT; rw [nk_nk]; exact h
theorem nkT_f {st : DS} {kd : Kd} (hf : flat a = true) (h : q a .new st) : NkT a kd st q := by unfold NkT nk; rw [if_pos hf]; exact h
theorem nkT {st : DS} {kd : Kd} (h : q a (nk a kd) st) : NkT a kd st q := h
end
theorem retT_k {x : DV} {st : DS} : RetT (nk x .fro) st = nk x .fro := by unfold nk; by_cases hf : flat x = true <;> simp [hf, RetT]
def frzL (sl : List Slot) : List Slot := sl.map (Option.map fun (p : DV × Bool) => (p.1, false))
def LamT (C : CT) (L : LamD) (F : Fn) (as : List (DV × Kd)) (st1 : DS) (q : QE) : Prop := noView as = true ∧ WF' F (as.map (·.1)) st1.cs (fun _ _ cs' => WS (L.rest ⟨L.sl1, cs'⟩) ⟨fun st2 => q .non .new ⟨st1.sl, st2.cs⟩, fun _ => False, fun _ => False, fun a _ st2 => q a (nk a .fro) ⟨st1.sl, st2.cs⟩⟩ noX)
 (fun x cs' => catchN C L.kx x.c = some true ∧ WS (L.rest ⟨L.slX x, cs'⟩) ⟨fun st2 => q .non .new ⟨st1.sl, st2.cs⟩, fun _ => False, fun _ => False, fun a _ st2 => q a (nk a .fro) ⟨st1.sl, st2.cs⟩⟩ noX)
theorem lamT_of {C : CT} {L : LamD} {F : Fn} {as : List (DV × Kd)} {st1 : DS} {q : QE} (hv : noView as = true) (h : WF' F (as.map (·.1)) st1.cs (fun _ _ cs' => WS (L.rest ⟨L.sl1, cs'⟩) ⟨fun st2 => q .non .new ⟨st1.sl, st2.cs⟩, fun _ => False, fun _ => False, fun a _ st2 => q a (nk a .fro) ⟨st1.sl, st2.cs⟩⟩ noX)
 (fun x cs' => catchN C L.kx x.c = some true ∧ WS (L.rest ⟨L.slX x, cs'⟩) ⟨fun st2 => q .non .new ⟨st1.sl, st2.cs⟩, fun _ => False, fun _ => False, fun a _ st2 => q a (nk a .fro) ⟨st1.sl, st2.cs⟩⟩ noX)) : LamT C L F as st1 q := ⟨hv, h⟩
theorem we_lamT {C : CT} {L : LamD} {F : Fn} {ga : Ak} {sl sl' : List Slot} {cs : List CellC} {q : QE} {E : EK} (e : frzL sl = sl') (h : WA (ga ⟨sl', cs⟩) (fun as st1 => LamT C L F as st1 q) noX) : WE' (evLam C L (evN (zqr F ga)) ⟨sl, cs⟩) q E :=
 we_lamF (by show WA (ga ⟨frzL sl, cs⟩) _ noX; rw [e]; exact h)
theorem begun_eqD {ns : List Int} {q : QF} {E : EK} (hl : ns.length ≤ 63) (h : ∀ d, zqo d (2 ^ 40) → q (.cel 0) .fro [.draw d]) : WF' F_0z [.scr ns] [] q E := by
 have hs : ns.length ≤ sizeLine := Nat.le_trans hl (by decide)
 exact WF'.eq (sl' := []) (by simp [F_0z, hs]) (h _ (begun_ok hl))
theorem kept_of {F : Fn} (h : ∀ ns : List Int, ns.length ≤ 63 → WF' F [.scr ns] [] (fun a _ _ => a = .bl true) noX) : KeptBy F 63 := by
 intro ns hl _
 have := h ns hl
 unfold WF' at this
 revert this
 generalize F [.scr ns] ⟨[], []⟩ = o
 intro this
 cases o with
 | ok a st => obtain ⟨a, kd⟩ := a; cases (this : a = .bl true); exact ⟨kd, st, rfl⟩
 | exc x st => exact (show False from this).elim
 | stuck => exact (show False from this).elim
end D
namespace D
open PySem L2 PyProof.Rows
section
variable {q : QE} {qa : List (DV × Kd) → DS → Prop} {qv : List DV → DS → Prop} {E : EK} {st : DS} {fa fb : Ev} {ga : Ak}
theorem wa_perm {π : List Nat} (h : WA (ga st) (fun as st1 => ∃ bs, permK π as = some bs ∧ qa bs st1) E) : WA (akPerm π ga st) qa E :=
 W.bind (W.imp h fun as st1 h => by obtain ⟨bs, h1, h2⟩ := h; rw [h1]; exact h2)
end
end D
namespace D
open PySem L2 PyProof.Rows
section
variable {q : QE} {qa : List (DV × Kd) → DS → Prop} {E : EK} {nx bk ct : DS → Prop} {rt : QE} {st : DS} {sl : List Slot} {cs : List CellC} {fa fb fe fi fo : Ev} {ge gk : Ak} {i j n m : Nat} {mn : Str} {C : CT}
def InsT (st : DS) (a : DV) (k : Nat → List Str → Prop) : Prop := ∃ c ns, insOf st a = some (c, ns) ∧ k c ns
theorem insT {st : DS} {a : DV} {k : Nat → List Str → Prop} {c : Nat} {ns : List Str} (h : insOf st a = some (c, ns)) (hk : k c ns) : InsT st a k := ⟨c, ns, h, hk⟩
def MtT (L : MTab DV) (c : Nat) (k : List Nat → List DV → Fn → Prop) : Prop := ∃ π dds F, L c = some (π, dds, F) ∧ k π dds F
def PtT (L : PTab) (c : Nat) (k : Fn → Prop) : Prop := ∃ F, L c = some F ∧ k F
theorem ptT {L : PTab} {c : Nat} {k : Fn → Prop} {F : Fn} (h : L c = some F) (hk : k F) : PtT L c k := ⟨F, h, hk⟩
def PermT (π : List Nat) (as : List (DV × Kd)) (k : List (DV × Kd) → Prop) : Prop := ∃ zs, permL π as = some zs ∧ k zs
theorem permT {π : List Nat} {as zs : List (DV × Kd)} {k : List (DV × Kd) → Prop} (h : permL π as = some zs) (hk : k zs) : PermT π as k := ⟨zs, h, hk⟩
def LenT (n m : Nat) (as bs : List (DV × Kd)) (P : Prop) : Prop := (as.length = n ∧ bs.length = m) ∧ P
theorem lenT {n m : Nat} {as bs : List (DV × Kd)} {P : Prop} (h1 : as.length = n) (h2 : bs.length = m) (hP : P) : LenT n m as bs P := ⟨⟨h1, h2⟩, hP⟩
def CelT (C : CT) (st : DS) (o : DV) (f : Str) (a : DV) (nx : DS → Prop) : Prop := ∃ k, o = .cel k ∧ ∃ c ns vs, st.cs[k]? = some (.obj (.ins c ns vs)) ∧ ((c, f) ∈ C.fi ∧ ns.length < 1000) ∧ nx ⟨st.sl, st.cs.set k (.obj (.ins c (putFD f a ns vs).1 (putFD f a ns vs).2))⟩
theorem celT {C : CT} {sl : List Slot} {cs cs' : List CellC} {k c : Nat} {f : Str} {a : DV} {nx : DS → Prop} {ns ns' : List Str} {vs vs' : List DV} (h : cs[k]? = some (.obj (.ins c ns vs))) (h1 : (c, f) ∈ C.fi) (h2 : ns.length < 1000) (h3 : putFD f a ns vs = (ns', vs')) (h4 : cs.set k (.obj (.ins c ns' vs')) = cs') (hk : nx ⟨sl, cs'⟩) : CelT C ⟨sl, cs⟩ (.cel k) f a nx := ⟨k, rfl, c, ns, vs, h, ⟨h1, h2⟩, by rw [h3, h4]; exact hk⟩
def DctT (st : DS) (i : Nat) (z a : DV) (nx : DS → Prop) : Prop := ∃ ks ds k, st.sl[i]? = some (some (.dct ks ds, true)) ∧ keyD z = some k ∧ (ks.Nodup ∧ ks.length < sizeLine) ∧ nx ⟨st.sl.set i (some (.dct (putDK k a ks ds).1 (putDK k a ks ds).2, true)), st.cs⟩
def PopT (st : DS) (i j : Nat) (a : DV) (nx : DS → Prop) : Prop := ∃ ds es z k d, st.sl[i]? = some (some (.lst ds, true)) ∧ st.sl[j]? = some (some (.lst es, true)) ∧ a = .int z ∧ (-(2 ^ 63) ≤ z ∧ z < 2 ^ 63 ∧ ds.length < sizeLine) ∧ seqIndex? z es.length = some k ∧ es[k]? = some d ∧ nx ⟨(st.sl.set j (some (.lst (es.eraseIdx k), true))).set i (some (.lst (ds ++ [d]), true)), st.cs⟩
theorem wa_arr {π : List Nat} {dds : List DV} (h : WA (ge st) (fun as st1 => WA (gk st1) (fun bs st2 => LenT n m as bs (PermT π (as ++ (bs ++ dds.map fun d => (d, Kd.fro))) fun zs => qa zs st2)) E) E) : WA (akArr π n m dds ge gk st) qa E :=
 W.bind (W.imp h fun as st1 h => W.bind (W.imp h fun bs st2 h => by
  obtain ⟨h1, zs, h2, h3⟩ := h
  rw [if_pos h1, h2]
  exact h3))
theorem w_back {F : Fn} {as : List (DV × Kd)} (h : WF' F (as.map (·.1)) cs (fun a kd cs' => BkT sl as a kd cs' q) E) : WE' (backTo' sl as (F (as.map (·.1)) ⟨[], cs⟩)) q E := by
 unfold WF' at h
 revert h
 generalize F (as.map (·.1)) ⟨[], cs⟩ = o
 intro h
 cases o with
 | stuck => exact h
 | exc x st2 => exact (show E x (zqC ⟨sl, st2.cs⟩ as).cs from by rw [eatAll_cs]; exact h)
 | ok a st2 => obtain ⟨a, kd⟩ := a; cases kd <;> exact h
theorem we_prp {L : PTab} (h : WE' (fo st) (fun a kd st1 => InsT st1 a fun c ns => PtT L c fun F => FnT F [(a, kd)] st1 q noX) E) : WE' (evPrp L fo st) q E :=
 W.bind (W.imp h fun a st1 h => by
  obtain ⟨a, kd⟩ := a
  obtain ⟨c, ns, h1, F, h3, h4⟩ := h
  rw [h1]
  dsimp only
  rw [h3]
  dsimp only
  have h5 := w_back (as := [(a, kd)]) h4
  revert h5
  show WE' (backTo' st1.sl [(a, kd)] (F [a] ⟨[], st1.cs⟩)) q noX → _
  cases F [a] ⟨[], st1.cs⟩ with
  | ok r st2 => exact id
  | exc x st2 => exact fun h => h.elim
  | stuck => exact fun h => h.elim)
theorem we_fldC {f : Str} (h : WE' (fa st) (fun a _ st1 => ∃ d, fldC C f st1 a = some d ∧ q d (nk d .fro) st1) E) : WE' (evFldC C f fa st) q E :=
 W.bind (W.imp h fun a st1 h => by
  obtain ⟨d, h1, h2⟩ := h
  rw [h1]
  exact h2)
theorem r_setF {f : Str} (h : WE' (fe st) (fun a kd st1 => EatT kd st1 fun st2 => WE' (fo st2) (fun o _ st3 => CelT C st3 o f a nx) E) E) :
 WS (svSetF C f fo fe st) ⟨nx, bk, ct, rt⟩ E :=
 W.bind (W.imp h fun a st1 h => W.bind (W.imp h fun o st3 h => by
  obtain ⟨k, h1, c, ns, vs, h2, h3, h4⟩ := h
  rw [h1]
  dsimp only
  rw [h2]
  dsimp only
  rw [if_pos h3]
  exact h4))
theorem wf_ini {p c : Nat} {sv : Sv} {ds : List DV} {q : QF} (hl : ds.length + 1 = p) (hd : cs.all isDraw = true)
 (h : WS (sv ⟨zql n (.cel cs.length :: ds), cs ++ [.obj (.ins c [] [])]⟩) ⟨fun st => ∃ d cs', st.cs = cs' ++ [.obj d] ∧ cs'.length = cs.length ∧ cs'.all isDraw = true ∧ noCel d = true ∧ q d .new cs', fun _ => False, fun _ => False, fun a _ st => a = .non ∧ ∃ d cs', st.cs = cs' ++ [.obj d] ∧ cs'.length = cs.length ∧ cs'.all isDraw = true ∧ noCel d = true ∧ q d .new cs'⟩
  (fun x cs1 => ∃ d cs', cs1 = cs' ++ [d] ∧ cs'.length = cs.length ∧ cs'.all isDraw = true ∧ noCels x.vs = true ∧ E x cs')) : WF' (fnIni n p c sv) ds cs q E := by
 unfold WF' fnIni
 rw [if_pos hl]
 dsimp only
 have key : ∀ {st : DS}, (∃ d cs', st.cs = cs' ++ [.obj d] ∧ cs'.length = cs.length ∧ cs'.all isDraw = true ∧ noCel d = true ∧ q d .new cs') → W (iniBack cs.length st) (fun a st => q a.1 a.2 st.cs) E := fun {st} ⟨d, cs', e, l, dd, nc, hq⟩ => by
  unfold iniBack
  rw [e, ← l]
  rw [if_pos ⟨by simp, by rw [List.take_left' rfl]; exact dd⟩]
  rw [List.getElem?_append_right (Nat.le_refl _), Nat.sub_self]
  show W (if noCel d = true then _ else _) _ _
  rw [if_pos nc, List.take_left' rfl]
  exact hq
 revert h
 generalize sv ⟨zql n (.cel cs.length :: ds), cs ++ [.obj (.ins c [] [])]⟩ = o
 intro h
 cases o with
 | stuck => exact h
 | exc x st =>
  obtain ⟨d, cs', e, l, dd, nc, hq⟩ := (h : ∃ d cs', st.cs = cs' ++ [d] ∧ _)
  show W (if st.cs.length = cs.length + 1 ∧ (st.cs.take cs.length).all isDraw = true ∧ noCels x.vs = true then .exc x ⟨[], st.cs.take cs.length⟩ else .stuck) _ _
  rw [e, ← l]
  rw [if_pos ⟨by simp, by rw [List.take_left' rfl]; exact dd, nc⟩]
  rw [List.take_left' rfl]
  exact hq
 | ok fl st =>
  cases fl with
  | nx => exact key h
  | bk => exact (h : False).elim
  | ct => exact (h : False).elim
  | rt d kd =>
   obtain ⟨rfl, h⟩ := (h : d = .non ∧ _)
   exact key h
end
end D
namespace D
open PySem L2 PyProof.Rows
@[irreducible] def XE (o : Out (DV × Kd)) (q : QE) (E : EK) : Prop := WE' o q E
@[irreducible] def XT (o : Out Bool) (q : Bool → DS → Prop) (E : EK) : Prop := WT o q E
@[irreducible] def XA (o : Out (List (DV × Kd))) (q : List (DV × Kd) → DS → Prop) (E : EK) : Prop := WA o q E
@[irreducible] def XV (o : Out (List DV)) (q : List DV → DS → Prop) (E : EK) : Prop := WV o q E
@[irreducible] def XP (o : Out (Option Int)) (q : Option Int → DS → Prop) (E : EK) : Prop := WP o q E
@[irreducible] def XD (o : Out (List Key × List DV)) (q : List Key → List DV → DS → Prop) (E : EK) : Prop := WDp o q E
@[irreducible] def XS (o : Out Fl) (k : KS) (E : EK) : Prop := WS o k E
@[irreducible] def XOp (o : Option (DV × Kd)) (q : DV → Kd → Prop) : Prop := WO o q
@[irreducible] def XF (F : Fn) (ds : List DV) (cs : List CellC) (q : DV → Kd → List CellC → Prop) (E : EK) : Prop := WF' F ds cs q E
@[irreducible] def XG (o : Option DS) (q : DS → Prop) : Prop := WG o q
section
variable {q : QE} {qb : Bool → DS → Prop} {qa : List (DV × Kd) → DS → Prop} {qv : List DV → DS → Prop} {qp : Option Int → DS → Prop} {qd : List Key → List DV → DS → Prop} {E : EK} {k : KS} {st st1 : DS} {sl : List Slot} {cs : List CellC} {fa fb fc fe : Ev} {f g : Sv} {ta tb t : Tv} {ga gb : Ak} {ge : Av'} {d a b : DV} {kd : Kd} {i j : Nat} {o : Option (DV × Kd)} {p : DV → Kd → Prop} {A B : Prop}
theorem XE.mono {o : Out (DV × Kd)} {q' : QE} {E' : EK} (h : XE o q E) (hq : ∀ a kd st, q a kd st → q' a kd st) (hE : ∀ x cs, E x cs → E' x cs) : XE o q' E' := by with_unfolding_all exact WE'.mono h hq hE
theorem XS.mono {o : Out Fl} {k' : KS} {E' : EK} (h : XS o k E) (h1 : ∀ st, k.nx st → k'.nx st) (h2 : ∀ st, k.bk st → k'.bk st) (h3 : ∀ st, k.ct st → k'.ct st) (h4 : ∀ a kd st, k.rt a kd st → k'.rt a kd st) (hE : ∀ x cs, E x cs → E' x cs) : XS o k' E' := by with_unfolding_all exact WS.mono h h1 h2 h3 h4 hE
theorem XF.mono {F : Fn} {ds : List DV} {q q' : DV → Kd → List CellC → Prop} {E' : EK} (h : XF F ds cs q E) (hq : ∀ a kd cs, q a kd cs → q' a kd cs) (hE : ∀ x cs, E x cs → E' x cs) : XF F ds cs q' E' := by with_unfolding_all exact WF'.mono h hq hE
theorem XF.eq {F : Fn} {ds : List DV} {q : QF} {cs' : List CellC} {sl' : List Slot} (e : F ds ⟨[], cs⟩ = .ok (a, kd) ⟨sl', cs'⟩) (h : q a kd cs') : XF F ds cs q E := by with_unfolding_all exact WF'.eq e h
theorem XF.ex {F : Fn} {ds : List DV} {q : QF} {x : DX} {cs' : List CellC} {sl' : List Slot} (e : F ds ⟨[], cs⟩ = .exc x ⟨sl', cs'⟩) (h : E x cs') : XF F ds cs q E := by with_unfolding_all exact WF'.ex e h
theorem x_we_c (h : q d .new st) : XE (evC d st) q E := by with_unfolding_all exact we_c h
theorem x_we_g (h : q d .fro st) : XE (evG d st) q E := by with_unfolding_all exact we_g h
theorem x_we_op {g : Op2} (h : XE (fa st) (fun a _ st1 => XE (fb st1) (fun b _ st2 => XOp (g a b) fun c kd => q c kd st2) E) E) : XE (zqk g fa fb st) q E := by with_unfolding_all exact we_op h
theorem x_we_call {g : OpN} (h : XA (ga st) (fun as st1 => XOp (g (as.map (·.1))) fun c kd => q c kd st1) E) : XE (zqp g ga st) q E := by with_unfolding_all exact we_call h
theorem x_we_meth {isT : DV → Bool} {g : OpN} (h : XE (fa st) (fun a _ st1 => isT a = true ∧ XA (ga st1) (fun as st2 => XOp (g (a :: as.map (·.1))) fun c kd => q c kd st2) E) E) : XE (evMeth isT g fa ga st) q E := by with_unfolding_all exact we_meth h
theorem x_we_not (h : XE (fa st) (fun a _ st1 => ∃ k, truD a = some k ∧ q (.bl (!k)) .new st1) E) : XE (evNot fa st) q E := by with_unfolding_all exact we_not h
theorem x_we_and (h : XE (fa st) (fun a kd st1 => ∃ k, truD a = some k ∧ IfK k (XE (fb st1) q E) (q a kd st1)) E) : XE (evAnd fa fb st) q E := by with_unfolding_all exact we_and h
theorem x_we_or (h : XE (fa st) (fun a kd st1 => ∃ k, truD a = some k ∧ IfK k (q a kd st1) (XE (fb st1) q E)) E) : XE (evOr fa fb st) q E := by with_unfolding_all exact we_or h
theorem x_we_if (h : XT (t st) (fun k st1 => IfK k (XE (fa st1) q E) (XE (fb st1) q E)) E) : XE (evIf t fa fb st) q E := by with_unfolding_all exact we_if h
theorem x_we_neg (h : XE (fa st) (fun a _ st1 => ∃ i, a = .int i ∧ q (.int (-i)) .new st1) E) : XE (evNeg fa st) q E := by with_unfolding_all exact we_neg h
theorem x_we_chain {g g' : Op2} (h : XE (fa st) (fun a _ st1 => XE (fb st1) (fun b _ st2 => ∃ r, g a b = some (.bl r, .new) ∧ IfK r (XE (fc st2) (fun c _ st3 => XOp (g' b c) fun z kd => q z kd st3) E) (q (.bl false) .new st2)) E) E) : XE (evChain g g' fa fb fc st) q E := by with_unfolding_all exact we_chain h
theorem x_we_fld {ct : CT} {n : Str} (h : XE (fa st) (fun a _ st1 => ∃ d, fldD ct n a = some d ∧ q d (nk d .fro) st1) E) : XE (evFld ct n fa st) q E := by with_unfolding_all exact we_fld h
theorem x_wp_none (h : qp none st) : XP (pvNone st) qp E := by with_unfolding_all exact wp_none h
theorem x_wp_some (h : XE (fa st) (fun a _ st1 => ∃ i, a = .int i ∧ qp (some i) st1) E) : XP (pvSome fa st) qp E := by with_unfolding_all exact wp_some h
theorem x_we_sl {lo hi : Pv} (h : XE (fa st) (fun a _ st1 => XP (lo st1) (fun l st2 => XP (hi st2) (fun u st3 => XOp (dSl a l u) fun c kd => q c kd st3) E) E) E) : XE (evSl fa lo hi st) q E := by with_unfolding_all exact we_sl h
theorem x_wv_nil (h : qv [] st) : XV (zqz st) qv E := by with_unfolding_all exact wv_nil h
theorem x_we_lst (h : XV (ge st) (fun ds st1 => ds.length ≤ sizeLine ∧ q (.lst ds) .new st1) E) : XE (zqF ge st) q E := by with_unfolding_all exact we_lst h
theorem x_we_tup (h : XV (ge st) (fun ds st1 => ds.length ≤ sizeLine ∧ q (.tup ds) .new st1) E) : XE (evTup ge st) q E := by with_unfolding_all exact we_tup h
theorem x_wd_nil (h : qd [] [] st) : XD (dvNil st) qd E := by with_unfolding_all exact wd_nil h
theorem x_we_dct {r : Dv'} (h : XD (r st) (fun ks vs st1 => ks.length ≤ 15 ∧ q (.dct ks vs) .new st1) E) : XE (evDct r st) q E := by with_unfolding_all exact we_dct h
theorem x_wa_nil (h : qa [] st) : XA (zqh st) qa E := by with_unfolding_all exact wa_nil h
theorem x_wa_cons (h : XE (fe st) (fun a kd st1 => XA (ga st1) (fun as st2 => qa ((a, kd) :: as) st2) E) E) : XA (zqa fe ga st) qa E := by with_unfolding_all exact wa_cons h
theorem x_wt_b (h : XE (fe st) (fun a _ st1 => ∃ k, a = .bl k ∧ qb k st1) E) : XT (tvB fe st) qb E := by with_unfolding_all exact wt_b h
theorem x_wt_e' (h : XE (fe st) (fun a _ st1 => ∃ k, truD a = some k ∧ qb k st1) E) : XT (tvE fe st) qb E := by with_unfolding_all exact wt_e' h
theorem x_wt_or (h : XT (ta st) (fun k st1 => IfK k (qb true st1) (XT (tb st1) qb E)) E) : XT (tvOr ta tb st) qb E := by with_unfolding_all exact wt_or h
theorem x_wt_not (h : XT (ta st) (fun k st1 => qb (!k) st1) E) : XT (tvNot ta st) qb E := by with_unfolding_all exact wt_not h
theorem x_wt_yes (h : qb true st) : XT (tvYes st) qb E := by with_unfolding_all exact wt_yes h
@[irreducible] def XPar (i : Nat) (a : DV) (kd : Kd) (st : DS) (g : Sv) (n : DS → Prop) (E : EK) : Prop := ParT i a kd st g n E
theorem x_par_fro {n : DS → Prop} (h : XS (g ⟨sl, cs⟩) ⟨fun st2 => n ⟨st2.sl.set i (some (a, false)), st2.cs⟩, fun st2 => n ⟨st2.sl.set i (some (a, false)), st2.cs⟩, fun st2 => n ⟨st2.sl.set i (some (a, false)), st2.cs⟩, fun _ _ st2 => n ⟨st2.sl.set i (some (a, false)), st2.cs⟩⟩ E) : XPar i a .fro ⟨sl, cs⟩ g n E := by with_unfolding_all exact par_fro h
theorem x_wg_name' {n : DS → Prop} (h : n ⟨sl.set i (some (d, false)), cs⟩) : XG (zqq i d ⟨sl, cs⟩) n := by with_unfolding_all exact wg_name' h
theorem x_wg_tup' {n : DS → Prop} {m : Nat} {gg : List DV → DS → Option DS} {ds : List DV} (hl : ds.length = m) (h : XG (gg ds st) n) : XG (gvTup m gg (.tup ds) st) n := by with_unfolding_all exact wg_tup' hl h
theorem x_wg_nil {n : DS → Prop} (h : n st) : XG (gvNil [] st) n := by with_unfolding_all exact wg_nil h
theorem x_wg_cons {n : DS → Prop} {g1 : Gv} {gg : List DV → DS → Option DS} {ds : List DV} (h : XG (g1 d st) fun st1 => XG (gg ds st1) n) : XG (zqD g1 gg (d :: ds) st) n := by with_unfolding_all exact wg_cons h
theorem x_wi_r1' (h : XA (ga st) (fun as st1 => ∃ j, as.map (·.1) = [DV.int j] ∧ (-(2 ^ 62) ≤ j ∧ j < 2 ^ 62) ∧ qv (rangeL 0 j.toNat) st1) E) : XV (ivR1 ga st) qv E := by with_unfolding_all exact wi_r1' h
theorem x_wfor {gv : Gv} (I : List DV → DS → Prop) : ∀ (ds : List DV) (st : DS), I ds st → (∀ d r st, I (d :: r) st → XG (gv d st) fun st1 => XS (f st1) ⟨I r, k.nx, I r, k.rt⟩ E) → (∀ st, I [] st → k.nx st) → XS (forGo gv f ds st) k E := by with_unfolding_all exact wfor I
@[irreducible] def XL (o : Option (List DV × DS)) (q : List DV → DS → Prop) : Prop := WL o q
theorem x_we_lc {vs : List Nat} {fi : Iv} {gv : Gv} (h : XV (fi st) (fun ds st1 => ds.length ≤ sizeLine ∧ XL (lcGo vs gv t fe ds [] (st1.dropAll vs)) fun ys st2 => q (.lst ys) .new st2) E) : XE (evLc vs fi gv t fe st) q E := by with_unfolding_all exact we_lc h
end
section
variable {p : DV → Kd → Prop} {a : DV} {kd : Kd} {o : Option (DV × Kd)} {i j : Int} {xs ys : List DV} {x y : Str} {ct : CT}
theorem x_wo (h : o = some (a, kd)) (hp : p a kd) : XOp o p := by with_unfolding_all exact wo h hp
theorem x_wo_mul (h : (fits64 i || fits64 j) = true) (hp : p (.int (i * j)) .new) : XOp (dBin .Mult (.int i) (.int j)) p := by with_unfolding_all exact wo_mul h hp
theorem x_wo_div (h : 0 < j ∧ j < 2 ^ 64) (hp : p (.int (i / j)) .new) : XOp (dBin .FloorDiv (.int i) (.int j)) p := by with_unfolding_all exact wo_div h hp
theorem x_wo_mod (h : 0 < j) (hp : p (.int (i % j)) .new) : XOp (dBin .Mod (.int i) (.int j)) p := by with_unfolding_all exact wo_mod h hp
theorem x_wo_pow (h : powOk i j = true) (hp : p (.int (i ^ j.toNat)) .new) : XOp (dBin .Pow (.int i) (.int j)) p := by with_unfolding_all exact wo_pow h hp
theorem x_wo_addL (h : xs.length + ys.length ≤ sizeLine) (hp : p (.lst (xs ++ ys)) .new) : XOp (dBin .Add (.lst xs) (.lst ys)) p := by with_unfolding_all exact wo_addL h hp
theorem x_wo_addT (h : xs.length + ys.length ≤ sizeLine) (hp : p (.tup (xs ++ ys)) .fro) : XOp (dBin .Add (.tup xs) (.tup ys)) p := by with_unfolding_all exact wo_addT h hp
theorem x_wo_addS (h : x.length + y.length ≤ sizeLine) (hp : p (.str (x ++ y)) .new) : XOp (dBin .Add (.str x) (.str y)) p := by with_unfolding_all exact wo_addS h hp
theorem x_wo_mulL (h : -(2 ^ 63) ≤ i ∧ i < 2 ^ 63 ∧ xs.length * i.toNat ≤ sizeLine) (hp : p (.lst (List.replicate i.toNat xs).flatten) .new) : XOp (dBin .Mult (.lst xs) (.int i)) p := by with_unfolding_all exact wo_mulL h hp
theorem x_wo_neR {d : DV} (hd : dOk d = true) (pd : dDp d ≤ 64) (hp : p (.bl false) .new) : XOp (dCmp .NotEq d d) p := by with_unfolding_all exact wo_neR hd pd hp
theorem x_wo_all {bs : List Bool} (h : xs = bs.map .bl) (hp : p (.bl (bs.all id)) .new) : XOp (Blt.run ct .all [.lst xs]) p := by with_unfolding_all exact wo_all h hp
theorem x_wo_ix (h0 : 0 ≤ i) (h1 : i < xs.length) (hp : ∀ d, xs[i.toNat]? = some d → d ∈ xs → p d .fro) : XOp (dIx (.lst xs) (.int i)) p := by with_unfolding_all exact wo_ix h0 h1 hp
end
section
variable {q : QE} {qb : Bool → DS → Prop} {qa : List (DV × Kd) → DS → Prop} {qv : List DV → DS → Prop} {qp : Option Int → DS → Prop} {qd : List Key → List DV → DS → Prop} {E : EK} {nx bk ct : DS → Prop} {rt : QE} {st st1 : DS} {sl : List Slot} {cs : List CellC} {fa fb fc fe : Ev} {f g : Sv} {ta tb t : Tv} {ga gb : Ak} {ge : Av'} {d a b : DV} {kd : Kd} {i j : Nat} {o : Option (DV × Kd)} {p : DV → Kd → Prop} {A B : Prop} {n : DS → Prop}
theorem x_r_seq (h : XS (f st) ⟨fun st1 => XS (g st1) ⟨nx, bk, ct, rt⟩ E, bk, ct, rt⟩ E) : XS (zqm f g st) ⟨nx, bk, ct, rt⟩ E := by with_unfolding_all exact r_seq h
theorem x_r_nx (h : nx st) : XS (svNx st) ⟨nx, bk, ct, rt⟩ E := by with_unfolding_all exact r_nx h
theorem x_r_expr (h : XE (fe st) (fun _ _ st1 => nx st1) E) : XS (svExpr fe st) ⟨nx, bk, ct, rt⟩ E := by with_unfolding_all exact r_expr h
theorem x_r_ret (h : XE (fe st) rt E) : XS (zqw fe st) ⟨nx, bk, ct, rt⟩ E := by with_unfolding_all exact r_ret h
theorem x_r_raise (h : E ⟨i, [], []⟩ cs) : XS (zqI i ⟨sl, cs⟩) ⟨nx, bk, ct, rt⟩ E := by with_unfolding_all exact r_raise h
theorem x_r_if (h : XT (t st) (fun c st1 => IfK c (XS (f st1) ⟨nx, bk, ct, rt⟩ E) (XS (g st1) ⟨nx, bk, ct, rt⟩ E)) E) : XS (svIf t f g st) ⟨nx, bk, ct, rt⟩ E := by with_unfolding_all exact r_if h
theorem x_r_set (h : XE (fe st) (fun a kd st1 => PutT i a kd st1 nx) E) : XS (zqs i fe st) ⟨nx, bk, ct, rt⟩ E := by with_unfolding_all exact r_set h
theorem x_r_then (h : XS (f st) ⟨nx, nx, nx, fun _ _ st1 => nx st1⟩ E) : XS (svThen f st) ⟨nx, bk, ct, rt⟩ E := by with_unfolding_all exact r_then h
theorem x_r_par (h : XE (fe st) (fun a kd st1 => XPar i a kd st1 g nx E) E) : XS (svPar i fe g st) ⟨nx, bk, ct, rt⟩ E := by with_unfolding_all exact r_par h
theorem x_r_parN {bb : Bool} (hb : (isCont a && cs.all isDraw) = bb) (h : XS (g ⟨sl, cs⟩) ⟨fun st2 => n ⟨st2.sl.set i (some (a, bb)), st2.cs⟩, fun st2 => n ⟨st2.sl.set i (some (a, bb)), st2.cs⟩, fun st2 => n ⟨st2.sl.set i (some (a, bb)), st2.cs⟩, fun _ _ st2 => n ⟨st2.sl.set i (some (a, bb)), st2.cs⟩⟩ E) : XPar i a .new ⟨sl, cs⟩ g n E := by with_unfolding_all exact r_parN hb h
theorem x_r_parNf (h : XS (g ⟨sl, cs⟩) ⟨fun st2 => n ⟨st2.sl.set i (some (a, false)), st2.cs⟩, fun st2 => n ⟨st2.sl.set i (some (a, false)), st2.cs⟩, fun st2 => n ⟨st2.sl.set i (some (a, false)), st2.cs⟩, fun _ _ st2 => n ⟨st2.sl.set i (some (a, false)), st2.cs⟩⟩ E) : XPar i a (nk a .fro) ⟨sl, cs⟩ g n E := by with_unfolding_all exact r_parNf h
theorem x_r_asg {gv : Gv} (h : XE (fe st) (fun a kd st1 => EatT kd st1 fun st2 => XG (gv a st2) nx) E) : XS (svAsg fe gv st) ⟨nx, bk, ct, rt⟩ E := by with_unfolding_all exact r_asg h
theorem x_r_app {ds0 : List DV} (e : sl[i]? = some (some (.lst ds0, true))) (h : XE (fe ⟨sl, cs⟩) (fun a kd st1 => EatT kd st1 fun st2 => ∃ ds, st2.sl[i]? = some (some (.lst ds, true)) ∧ ds.length < sizeLine ∧ nx ⟨st2.sl.set i (some (.lst (ds ++ [a]), true)), st2.cs⟩) E) : XS (svApp i fe ⟨sl, cs⟩) ⟨nx, bk, ct, rt⟩ E := by with_unfolding_all exact r_app e h
theorem x_r_for {fi : Iv} {gv : Gv} (h : XV (fi st) (fun ds st1 => XS (forGo gv f ds st1) ⟨nx, bk, ct, rt⟩ E) E) : XS (svFor fi gv f st) ⟨nx, bk, ct, rt⟩ E := by with_unfolding_all exact r_for h
theorem x_rv_cons (h : XE (fe st) (fun a kd st1 => EatT kd st1 fun st2 => XV (ge st2) (fun ds st3 => qv (a :: ds) st3) E) E) : XV (zqg fe ge st) qv E := by with_unfolding_all exact rv_cons h
theorem x_ri_e (h : XE (fe st) (fun a kd st1 => EatT kd st1 fun st2 => ∃ ds, itemsD a = some ds ∧ qv ds st2) E) : XV (ivE fe st) qv E := by with_unfolding_all exact ri_e h
theorem zqB {m l : Nat} {sv : Sv} {ds : List DV} {q : QF} (hl : ds.length = l) (h : XS (sv ⟨zql m ds, cs⟩) ⟨fun st => q .non .new st.cs, fun _ => False, fun _ => False, fun a kd st => q a (RetT kd st) st.cs⟩ E) : XF (fnSv m l sv) ds cs q E := by with_unfolding_all exact wf' hl h
end
theorem x_we_varK {q : QE} {E : EK} {sl : List Slot} {cs : List CellC} {i : Nat} {d : DV} {b : Bool} {kd : Kd} (e : sl[i]? = some (some (d, b))) (hk : cond b (Kd.view i) Kd.fro = kd) (h : q d kd ⟨sl, cs⟩) : XE (zqc i ⟨sl, cs⟩) q E := by with_unfolding_all exact we_varK e hk h
theorem x_wl_fm {vs : List Nat} {gv : Gv} {t : Tv} {fe : Ev} {q : List DV → DS → Prop} (g : DV → Option DV) (st : DS) : ∀ (ds acc : List DV), (∀ d ∈ ds, XG (gv d (st.wipe vs)) fun st1 => XT (t st1) (fun c st2 => IfK c (XE (fe st2) (fun a kd st3 => g d = some a ∧ st.back (st3.eat kd) vs = st) noX) (g d = none ∧ st.back st2 vs = st)) noX) → q (acc ++ ds.filterMap g) st → XL (lcGo vs gv t fe ds acc st) q := by with_unfolding_all exact wl_fm g st
theorem x_wl_map {β : Type} {vs : List Nat} {gv : Gv} {t : Tv} {fe : Ev} {q : List DV → DS → Prop} (f g : β → DV) (st : DS) (es : List β) (acc : List DV) (hb : ∀ e ∈ es, XG (gv (f e) (st.wipe vs)) fun st1 => XT (t st1) (fun c st2 => IfK c (XE (fe st2) (fun a kd st3 => a = g e ∧ st.back (st3.eat kd) vs = st) noX) False) noX) (hq : q (acc ++ es.map g) st) : XL (lcGo vs gv t fe (es.map f) acc st) q := by with_unfolding_all exact wl_map f g st es acc hb hq
theorem x_wl_inv {vs : List Nat} {gv : Gv} {t : Tv} {fe : Ev} {q : List DV → DS → Prop} (J : Nat → DS → Prop) (Q : DV → Prop) (ds : List DV) (st : DS) (h0 : J ds.length st)
 (hb : ∀ d m st, d ∈ ds → J (m + 1) st → XG (gv d (st.wipe vs)) fun st1 => XT (t st1) (fun c st2 => c = true ∧ XE (fe st2) (fun a kd st3 => EatT kd st3 fun st4 => Q a ∧ J m (st.back st4 vs)) noX) noX)
 (he : ∀ ys st, ys.length = ds.length → (∀ y ∈ ys, Q y) → J 0 st → q ys st) : XL (lcGo vs gv t fe ds [] st) q := by with_unfolding_all exact wl_inv J Q ds st h0 hb he
theorem x_next_eqD {d : DrawSt} {n : Nat} {many : Int} {q : QF} {E : EK} (ok : zqo d (n + 1)) (hm : 0 < many) (hm2 : many < 2 ^ 64) (h : ∀ r d' kd, 0 ≤ r → r < many → zqo d' n → q (.int r) kd [.draw d']) : XF F_15 [.cel 0, .int many] [.draw d] q E := by with_unfolding_all exact next_eqD ok hm hm2 h
theorem x_wo_neS {s s' : Str} {p : DV → Kd → Prop} (h : p (.bl (!decide (s = s'))) .new) : XOp (dCmp .NotEq (.str s) (.str s')) p := by with_unfolding_all exact wo_neS h
theorem x_wo_a1 {g : OpN} {p : DV → Kd → Prop} {a0 : DV} {k0 : Kd} (h : XOp (g [a0]) p) : XOp (g (List.map (fun x => x.1) [(a0, k0)])) p := by with_unfolding_all exact wo_a1 h
theorem x_wo_m1 {g : OpN} {p : DV → Kd → Prop} {a : DV} {a0 : DV} {k0 : Kd} (h : XOp (g (a :: [a0])) p) : XOp (g (a :: List.map (fun x => x.1) [(a0, k0)])) p := by with_unfolding_all exact wo_m1 h
theorem x_wo_a2 {g : OpN} {p : DV → Kd → Prop} {a0 a1 : DV} {k0 k1 : Kd} (h : XOp (g [a0, a1]) p) : XOp (g (List.map (fun x => x.1) [(a0, k0), (a1, k1)])) p := by with_unfolding_all exact wo_a2 h
@[irreducible] def XFn (F : Fn) (as : List (DV × Kd)) (st : DS) (q : QE) (E : EK) : Prop := FnT F as st q E
theorem x_we_fnT {F : Fn} {ga : Ak} {st : DS} {q : QE} {E : EK} (h : XA (ga st) (fun as st1 => XFn F as st1 q E) E) : XE (zqr F ga st) q E := by with_unfolding_all exact we_fnT h
theorem x_fnT0 {F : Fn} {sl : List Slot} {cs : List CellC} {q : QE} {E : EK} (h : XF F [] cs (fun a kd cs' => BkT sl [] a kd cs' q) E) : XFn F [] ⟨sl, cs⟩ q E := by with_unfolding_all exact fnT0 h
theorem x_fnT1 {F : Fn} {sl : List Slot} {cs : List CellC} {q : QE} {E : EK} {a0 : DV} {k0 : Kd} (h : XF F [a0] cs (fun a kd cs' => BkT sl [(a0, k0)] a kd cs' q) E) : XFn F [(a0, k0)] ⟨sl, cs⟩ q E := by with_unfolding_all exact fnT1 h
theorem x_fnT2 {F : Fn} {sl : List Slot} {cs : List CellC} {q : QE} {E : EK} {a0 a1 : DV} {k0 k1 : Kd} (h : XF F [a0, a1] cs (fun a kd cs' => BkT sl [(a0, k0), (a1, k1)] a kd cs' q) E) : XFn F [(a0, k0), (a1, k1)] ⟨sl, cs⟩ q E := by with_unfolding_all exact fnT2 h
theorem x_fnT3 {F : Fn} {sl : List Slot} {cs : List CellC} {q : QE} {E : EK} {a0 a1 a2 : DV} {k0 k1 k2 : Kd} (h : XF F [a0, a1, a2] cs (fun a kd cs' => BkT sl [(a0, k0), (a1, k1), (a2, k2)] a kd cs' q) E) : XFn F [(a0, k0), (a1, k1), (a2, k2)] ⟨sl, cs⟩ q E := by with_unfolding_all exact fnT3 h
theorem x_fnT4 {F : Fn} {sl : List Slot} {cs : List CellC} {q : QE} {E : EK} {a0 a1 a2 a3 : DV} {k0 k1 k2 k3 : Kd} (h : XF F [a0, a1, a2, a3] cs (fun a kd cs' => BkT sl [(a0, k0), (a1, k1), (a2, k2), (a3, k3)] a kd cs' q) E) : XFn F [(a0, k0), (a1, k1), (a2, k2), (a3, k3)] ⟨sl, cs⟩ q E := by with_unfolding_all exact fnT4 h
section
variable {sl : List Slot} {cs : List CellC} {as : List (DV × Kd)} {a : DV} {q : QE}
theorem x_we_nN {fe : Ev} {st : DS} {E : EK} (h : XE (fe st) (fun a kd st1 => NkT a kd st1 q) E) : XE (evN fe st) q E := by with_unfolding_all exact we_nN h
end
@[irreducible] def XLam (C : CT) (L : LamD) (F : Fn) (as : List (DV × Kd)) (st1 : DS) (q : QE) : Prop := LamT C L F as st1 q
theorem x_lamT_of {C : CT} {L : LamD} {F : Fn} {as : List (DV × Kd)} {st1 : DS} {q : QE} (hv : noView as = true) (h : XF F (as.map (·.1)) st1.cs (fun _ _ cs' => XS (L.rest ⟨L.sl1, cs'⟩) ⟨fun st2 => q .non .new ⟨st1.sl, st2.cs⟩, fun _ => False, fun _ => False, fun a _ st2 => q a (nk a .fro) ⟨st1.sl, st2.cs⟩⟩ noX)
 (fun x cs' => catchN C L.kx x.c = some true ∧ XS (L.rest ⟨L.slX x, cs'⟩) ⟨fun st2 => q .non .new ⟨st1.sl, st2.cs⟩, fun _ => False, fun _ => False, fun a _ st2 => q a (nk a .fro) ⟨st1.sl, st2.cs⟩⟩ noX)) : XLam C L F as st1 q := by with_unfolding_all exact lamT_of hv h
theorem x_we_lamT {C : CT} {L : LamD} {F : Fn} {ga : Ak} {sl sl' : List Slot} {cs : List CellC} {q : QE} {E : EK} (e : frzL sl = sl') (h : XA (ga ⟨sl', cs⟩) (fun as st1 => XLam C L F as st1 q) noX) : XE (evLam C L (evN (zqr F ga)) ⟨sl, cs⟩) q E := by with_unfolding_all exact we_lamT e h
theorem x_begun_eqD {ns : List Int} {q : QF} {E : EK} (hl : ns.length ≤ 63) (h : ∀ d, zqo d (2 ^ 40) → q (.cel 0) .fro [.draw d]) : XF F_0z [.scr ns] [] q E := by with_unfolding_all exact begun_eqD hl h
theorem x_kept_of {F : Fn} (h : ∀ ns : List Int, ns.length ≤ 63 → XF F [.scr ns] [] (fun a _ _ => a = .bl true) noX) : KeptBy F 63 := by with_unfolding_all exact kept_of h
section
variable {q : QE} {qa : List (DV × Kd) → DS → Prop} {qv : List DV → DS → Prop} {E : EK} {st : DS} {fa fb : Ev} {ga : Ak}
theorem x_wa_perm {π : List Nat} (h : XA (ga st) (fun as st1 => ∃ bs, permK π as = some bs ∧ qa bs st1) E) : XA (akPerm π ga st) qa E := by with_unfolding_all exact wa_perm h
end
section
variable {q : QE} {qa : List (DV × Kd) → DS → Prop} {E : EK} {nx bk ct : DS → Prop} {rt : QE} {st : DS} {sl : List Slot} {cs : List CellC} {fa fb fe fi fo : Ev} {ge gk : Ak} {i j n m : Nat} {mn : Str} {C : CT}
theorem x_wa_arr {π : List Nat} {dds : List DV} (h : XA (ge st) (fun as st1 => XA (gk st1) (fun bs st2 => LenT n m as bs (PermT π (as ++ (bs ++ dds.map fun d => (d, Kd.fro))) fun zs => qa zs st2)) E) E) : XA (akArr π n m dds ge gk st) qa E := by with_unfolding_all exact wa_arr h
theorem x_we_prp {L : PTab} (h : XE (fo st) (fun a kd st1 => InsT st1 a fun c ns => PtT L c fun F => XFn F [(a, kd)] st1 q noX) E) : XE (evPrp L fo st) q E := by with_unfolding_all exact we_prp h
theorem x_we_fldC {f : Str} (h : XE (fa st) (fun a _ st1 => ∃ d, fldC C f st1 a = some d ∧ q d (nk d .fro) st1) E) : XE (evFldC C f fa st) q E := by with_unfolding_all exact we_fldC h
theorem x_r_setF {f : Str} (h : XE (fe st) (fun a kd st1 => EatT kd st1 fun st2 => XE (fo st2) (fun o _ st3 => CelT C st3 o f a nx) E) E) : XS (svSetF C f fo fe st) ⟨nx, bk, ct, rt⟩ E := by with_unfolding_all exact r_setF h
theorem x_wf_ini {p c : Nat} {sv : Sv} {ds : List DV} {q : QF} (hl : ds.length + 1 = p) (hd : cs.all isDraw = true)
 (h : XS (sv ⟨zql n (.cel cs.length :: ds), cs ++ [.obj (.ins c [] [])]⟩) ⟨fun st => ∃ d cs', st.cs = cs' ++ [.obj d] ∧ cs'.length = cs.length ∧ cs'.all isDraw = true ∧ noCel d = true ∧ q d .new cs', fun _ => False, fun _ => False, fun a _ st => a = .non ∧ ∃ d cs', st.cs = cs' ++ [.obj d] ∧ cs'.length = cs.length ∧ cs'.all isDraw = true ∧ noCel d = true ∧ q d .new cs'⟩
  (fun x cs1 => ∃ d cs', cs1 = cs' ++ [d] ∧ cs'.length = cs.length ∧ cs'.all isDraw = true ∧ noCels x.vs = true ∧ E x cs')) : XF (fnIni n p c sv) ds cs q E := by with_unfolding_all exact wf_ini hl hd h
end
end D
open PySem L2 PyProof.Rows D
local macro_rules | `(tactic| walk_at "wx1") => `(tactic| ((fail_if_success (with_reducible guard_target = (_ : Nat) ≤ _)); first
 | ((with_reducible guard_target = XE _ _ _); (first
  | with_reducible refine x_we_c ?_
  | ((with_reducible guard_target = XE (zqc _ _) _ _); with_reducible refine x_we_varK (by with_unfolding_all rfl) (by with_unfolding_all first | exact kdF | exact kdT) ?_)
  | with_reducible refine x_we_nN ?_
  | with_reducible refine x_we_fnT ?_
  | with_reducible refine x_we_lamT (by simp only [frzL, zql, List.map_cons, List.map_nil, List.append_nil, List.nil_append, List.cons_append, List.set_cons_zero, List.set_cons_succ, Option.map_some, Option.map_none, List.replicate_succ, List.replicate_zero, Nat.reduceSub, List.length_cons, List.length_nil] <;> rfl) ?_
  | with_reducible refine x_we_call ?_
  | with_reducible refine x_we_op ?_
  | with_reducible refine x_we_not ?_
  | with_reducible refine x_we_and ?_
  | with_reducible refine x_we_or ?_
  | with_reducible refine x_we_if ?_
  | with_reducible refine x_we_chain ?_
  | with_reducible refine x_we_meth ?_
  | with_reducible refine x_we_neg ?_
  | with_reducible refine x_we_lst ?_
  | with_reducible refine x_we_tup ?_
  | with_reducible refine x_we_dct ?_
  | with_reducible refine x_we_cls ?_
  | with_reducible refine x_we_g ?_
  | with_reducible refine x_we_sl ?_
  | with_reducible refine x_we_rev ?_
  | with_reducible refine x_we_fld ?_
  | with_reducible refine x_we_lr1 ?_
  | with_reducible refine x_we_lr2 ?_
  | with_reducible refine x_we_mth ?_
  | with_reducible refine x_we_prp ?_
  | with_reducible refine x_we_get ?_
  | with_reducible refine x_we_lenSc ?_
  | with_reducible refine x_we_key ?_
  | with_reducible refine x_we_fldC ?_))
 | ((with_reducible guard_target = XA _ _ _); (first
  | with_reducible refine x_wa_cons ?_
  | with_reducible refine x_wa_nil ?_
  | with_reducible refine x_wa_perm ?_
  | with_reducible refine x_wa_arr ?_
  | with_reducible refine x_wa_arrO ?_))
 | ((with_reducible guard_target = XS _ _ _); (first
  | with_reducible refine x_r_seq ?_
  | with_reducible refine x_r_nx ?_
  | with_reducible refine x_r_set ?_
  | with_reducible refine x_r_if ?_
  | with_reducible refine x_r_ret ?_
  | with_reducible refine x_r_retN ?_
  | with_reducible refine x_r_expr ?_
  | with_reducible refine x_r_raise ?_
  | with_reducible refine x_r_raiseX ?_
  | with_reducible refine x_r_then ?_
  | with_reducible refine x_r_par ?_
  | with_reducible refine x_r_asg ?_
  | with_reducible refine x_r_for ?_
  | with_reducible refine x_r_try ?_
  | with_reducible refine x_r_aug (by with_unfolding_all rfl) ?_
  | with_reducible refine x_r_app (by with_unfolding_all rfl) ?_
  | with_reducible refine x_r_setIx (by with_unfolding_all rfl) ?_
  | with_reducible refine x_r_setD (by with_unfolding_all rfl) ?_
  | with_reducible refine x_r_appPop (by with_unfolding_all rfl) (by with_unfolding_all rfl) (by decide) ?_
  | with_reducible refine x_r_setF ?_
  | with_reducible refine x_r_pass ?_
  | with_reducible refine x_r_break ?_))
 | ((with_reducible guard_target = XV _ _ _); (first
  | with_reducible refine x_rv_cons ?_
  | with_reducible refine x_wv_nil ?_
  | with_reducible refine x_ri_e ?_
  | with_reducible refine x_wi_r1' ?_
  | with_reducible refine x_wi_r2' ?_
  | with_reducible refine x_ri_enum ?_
  | with_reducible refine x_wi_r3' ?_
  | with_reducible refine x_wi_zip' ?_
  | with_reducible refine x_wi_enumX' ?_))
 | ((with_reducible guard_target = XT _ _ _); (first
  | with_reducible refine x_wt_b ?_
  | with_reducible refine x_wt_e' ?_
  | with_reducible refine x_wt_and ?_
  | with_reducible refine x_wt_or ?_
  | with_reducible refine x_wt_not ?_
  | with_reducible refine x_wt_yes ?_))
 | ((with_reducible guard_target = XOp _ _); (first
  | with_reducible refine x_wo_m0 ?_
  | with_reducible refine x_wo_a1 ?_
  | with_reducible refine x_wo_m1 ?_
  | with_reducible refine x_wo_a2 ?_
  | with_reducible refine x_wo_m2 ?_
  | with_reducible refine x_wo_a3 ?_
  | with_reducible refine x_wo_m3 ?_
  | with_reducible refine x_wo_a4 ?_
  | with_reducible refine x_wo_a5 ?_
  | ((with_reducible guard_target = XOp (dBin Operator.FloorDiv _ _) _); with_reducible refine x_wo_div ⟨by decide, by decide⟩ ?_)
  | ((with_reducible guard_target = XOp (dBin Operator.Mod _ _) _); with_reducible refine x_wo_mod (by decide) ?_)
  | ((with_reducible guard_target = XOp (dBin Operator.Pow _ _) _); with_reducible refine x_wo_pow (by decide) ?_)
  | with_reducible refine x_wo_neSS ?_
  | with_reducible refine x_wo_eqSS ?_
  | with_reducible refine x_wo_neS ?_
  | with_reducible refine x_wo_eqS ?_
  | ((with_reducible guard_target = XOp (dBin Operator.Add (DV.lst _) (DV.lst _)) _); with_reducible refine x_wo_addL (by first | decide | omega | (simp only [zqy, List.length_append, List.length_cons, List.length_nil, List.length_map, List.length_replicate, Int.toNat_natCast]; omega) | (simp [zqy]; omega)) ?_)
  | with_reducible refine x_wo_addL ?_ ?_
  | ((with_reducible guard_target = XOp (dBin Operator.Mult (DV.int _) (DV.int _)) _); with_reducible refine x_wo_mul (fits_r (by decide)) ?_)
  | ((with_reducible guard_target = XOp (dBin Operator.Mult (DV.int _) (DV.int _)) _); with_reducible refine x_wo_mul (fits_l (by decide)) ?_)
  | ((with_reducible guard_target = XOp (dBin Operator.Add (DV.tup _) (DV.tup _)) _); with_reducible refine x_wo_addT (by first | decide | omega | (simp only [zqy, List.length_append, List.length_cons, List.length_nil, List.length_map, List.length_replicate, Int.toNat_natCast]; omega)) ?_)
  | with_reducible refine x_wo_addT ?_ ?_
  | with_reducible refine x_wo_addS ?_ ?_
  | ((with_reducible guard_target = XOp (dBin Operator.Mult (DV.lst _) (DV.int _)) _); with_reducible refine x_wo_mulL (by first | decide | omega | (simp only [zqy, List.length_append, List.length_cons, List.length_nil, List.length_map, List.length_replicate, Int.toNat_natCast]; omega) | (simp [zqy]; omega)) ?_)
  | with_reducible refine x_wo_mulL ?_ ?_
  | with_reducible refine x_wo_rep ?_ ?_
  | with_reducible refine x_wo (by with_unfolding_all rfl) ?_))
 | ((with_reducible guard_target = XFn _ _ _ _ _); (first
  | with_reducible refine x_fnT0 ?_
  | with_reducible refine x_fnT1 ?_
  | with_reducible refine x_fnT2 ?_
  | with_reducible refine x_fnT3 ?_
  | with_reducible refine x_fnT4 ?_
  | with_reducible refine x_fnT5 ?_))
 | ((with_reducible guard_target = NkT _ _ _ _); (first
  | with_reducible refine nkT_n ?_
  | with_reducible refine nkT_k ?_
  | with_reducible refine nkT_f (by with_unfolding_all rfl) ?_
  | with_reducible refine nkT ?_))
 | ((with_reducible guard_target = EatT _ _ _); (first
  | with_reducible refine eat_new ?_
  | with_reducible refine eat_fro ?_
  | with_reducible refine eat_view ?_
  | with_reducible refine eat_nk ?_
  | with_reducible refine eat_nkn ?_
  | with_reducible refine eat_nkO ?_
  | with_reducible refine eat_kdO ?_))
 | ((with_reducible guard_target = PutT _ _ _ _ _); (first
  | with_reducible refine putT_fro ?_
  | with_reducible refine putT_view ?_
  | with_reducible refine putT_nk ?_
  | with_reducible refine putT_pk ?_
  | ((with_reducible guard_target = PutT _ _ Kd.new _ _); with_reducible refine putT_flat (by with_unfolding_all rfl) ?_)
  | ((with_reducible guard_target = PutT _ _ Kd.new _ _); with_reducible refine putT_own (by with_unfolding_all rfl) (by with_unfolding_all rfl) ?_)
  | ((with_reducible guard_target = PutT _ _ (nk _ _) _ _); with_reducible refine putT_nkF (by with_unfolding_all rfl) ?_)
  | ((with_reducible guard_target = PutT _ _ (nk _ _) _ _); with_reducible refine putT_nkC (by with_unfolding_all rfl) (by with_unfolding_all rfl) ?_)
  | ((with_reducible guard_target = PutT _ _ (kdO _) _ _); with_reducible refine putT_kdF (by with_unfolding_all rfl) ?_)))
 | ((with_reducible guard_target = BkT _ _ _ _ _ _); (first
  | with_reducible refine bk_pn rfl ?_
  | with_reducible refine bk_pf rfl ?_
  | with_reducible refine bk_pk rfl ?_
  | with_reducible refine bk_p rfl ?_
  | ((with_reducible guard_target = BkT _ _ _ Kd.new _ _); with_reducible refine bk_pn (by walk_at "nv") ?_)
  | ((with_reducible guard_target = BkT _ _ _ Kd.fro _ _); with_reducible refine bk_pf (by walk_at "nv") ?_)
  | ((with_reducible guard_target = BkT _ _ _ (nk _ Kd.fro) _ _); with_reducible refine bk_pk (by walk_at "nv") ?_)
  | ((with_reducible guard_target = BkT _ _ _ Kd.new _ _); with_reducible refine bk_sn (by with_unfolding_all rfl) (by with_unfolding_all rfl) ?_)
  | with_reducible refine bk_p (by walk_at "nv") ?_
  | with_reducible refine bk_s (by with_unfolding_all rfl) (by with_unfolding_all rfl) ?_))
 | ((with_reducible guard_target = IfK _ _ _); (first
  | with_reducible refine IfK.yes ?_
  | with_reducible refine IfK.no ?_
  | with_reducible refine IfK.to (by first | rfl | decide) ?_
  | with_reducible refine IfK.fo (by first | rfl | decide) ?_
  | with_reducible refine ifk_not ?_))
 | ((with_reducible guard_target = XD _ _ _); (first
  | with_reducible refine x_rd_cons ?_
  | with_reducible refine x_wd_nil ?_))
 | ((with_reducible guard_target = XP _ _ _); (first
  | with_reducible refine x_wp_none ?_
  | with_reducible refine x_wp_some ?_))
 | ((with_reducible guard_target = XPar _ _ _ _ _ _ _); (first
  | with_reducible refine x_r_parNf ?_
  | with_reducible refine x_par_fro ?_
  | with_reducible refine x_par_view ?_
  | with_reducible refine x_r_parN (by with_unfolding_all rfl) ?_
  | with_reducible refine x_r_parNk (by with_unfolding_all rfl) ?_))
 | ((with_reducible guard_target = XG _ _); (first
  | with_reducible refine x_wg_name' ?_
  | with_reducible refine x_wg_tup' (by with_unfolding_all rfl) ?_
  | with_reducible refine x_wg_cons ?_
  | with_reducible refine x_wg_nil ?_))
 | ((with_reducible guard_target = XF _ _ _ _ _); (first
  | with_reducible refine x_wf_a0 ?_
  | with_reducible refine x_wf_a1 ?_
  | with_reducible refine x_wf_a2 ?_
  | with_reducible refine x_wf_a3 ?_
  | with_reducible refine x_wf_a4 ?_
  | with_reducible refine x_wf_a5 ?_))
 | ((with_reducible guard_target = RepOk _); assumption)
 | with_reducible refine ⟨_, by with_unfolding_all rfl, ?_⟩
 | with_reducible refine Or.inl ⟨_, rfl, ?_⟩
 | with_reducible refine Or.inr ⟨_, rfl, ?_⟩
 | with_reducible refine ⟨(show List.length _ ≤ sizeLine from by first | decide | omega | (simp only [zqy, List.length_append, List.length_cons, List.length_nil, List.length_map, List.length_replicate, Int.toNat_natCast]; omega) | (simp [zqy]; omega)), ?_⟩
 | with_reducible refine ⟨(show List.length _ < sizeLine from by first | decide | omega | (simp only [zqy, List.length_append, List.length_cons, List.length_nil, List.length_map, List.length_replicate, Int.toNat_natCast]; omega) | (simp [zqy]; omega)), ?_⟩
 | with_reducible refine ⟨(show RgOk _ _ from by first | decide | (refine RgOk.of_le ?_ ?_ ?_ ?_ <;> omega)), ?_⟩
 | with_reducible refine and_tt (by with_unfolding_all rfl) ?_
 | with_reducible refine and_ff (by with_unfolding_all rfl) ?_
 | with_reducible refine insT (by with_unfolding_all rfl) ?_
 | with_reducible refine mtT (by with_unfolding_all rfl) ?_
 | with_reducible refine ptT (by with_unfolding_all rfl) ?_
 | with_reducible refine permT (by with_unfolding_all rfl) ?_
 | with_reducible refine lenT (by with_unfolding_all rfl) (by with_unfolding_all rfl) ?_
 | with_reducible refine celT (by with_unfolding_all rfl) (by decide) (by decide) (by with_unfolding_all rfl) (by with_unfolding_all rfl) ?_
 | with_reducible refine dctT (by with_unfolding_all rfl) (by with_unfolding_all rfl) (by assumption) (by assumption) ?_
 | with_reducible refine and_15 (by decide) ?_
 | fail))
local macro_rules | `(tactic| walk_at "wx") => `(tactic| repeat' walk_at "wx1")
local macro_rules | `(tactic| walk_at "nv") => `(tactic| first
 | rfl
 | (with_reducible refine noView_fro ?_; walk_at "nv")
 | (with_reducible refine noView_new ?_; walk_at "nv")
 | (with_reducible refine noView_nk ?_; walk_at "nv")
 | (with_reducible refine noView_nkn ?_; walk_at "nv")
 | (with_reducible refine noView_nkO ?_; walk_at "nv"))
namespace D
open PySem L2 PyProof.Rows
section
variable {F : Fn} {ga : Ak} {st : DS} {q : QE} {E : EK}
end
section
variable {F : Fn} {ga : Ak} {st : DS} {q : QE} {E : EK}
end
section
variable {fe : Ev} {st : DS} {q : QE} {E : EK}
end
end D
namespace D
open PySem PySem.Spec L2 PyProof.Rows GenW
section
variable {prog : Program} {w : World} {A : Around} {E : Value → Shared → Prop} {s : Shared} {it l : Addr} {i : Nat} {items : Array Value}
end
def Pick (kk : Option Nat) (h : Heap) (v u : Value) : Prop := match kk with
 | none => u = v
 | some k => ∃ a its, v = .ref a ∧ IsTup h a its ∧ its[k]? = some u
theorem Pick.keep {kk : Option Nat} {h h' : Heap} {v u : Value} (p : Pick kk h v u) (hk : ∀ a o, v = .ref a → o.cls = .type "tuple" → h.get? a = some o → h'.get? a = some o) : Pick kk h' v u := by
 cases kk with
 | none => exact p
 | some k =>
  obtain ⟨a, its, e, ⟨o, ho, hc, hd⟩, hu⟩ := p
  exact ⟨a, its, e, ⟨o, hk a o e hc ho, hc, hd⟩, hu⟩
theorem Pick.same {kk : Option Nat} {h : Heap} {v u u' : Value} (p : Pick kk h v u) (q : Pick kk h v u') : u' = u := by
 cases kk with
 | none => exact (show u' = v from q).trans (show u = v from p).symm
 | some k =>
  obtain ⟨a, its, e, ⟨o, ho, hc, n, hd⟩, hu⟩ := p
  obtain ⟨a', its', e', ⟨o', ho', hc', n', hd'⟩, hu'⟩ := q
  rw [e] at e'; cases e'
  rw [ho] at ho'; cases ho'
  rw [hd] at hd'; cases hd'
  rw [hu] at hu'; cases hu'
  rfl
end D
namespace D
open PySem PySem.Spec L2 PyProof.Rows GenW
def PickV (K : PySem.W.Frag) (kk : Option Nat) (H : Hp) (x : V) : Prop := match kk with
 | none => True
 | some k => ∃ p ys, x = .ref p ∧ SqT K H p ys ∧ k < ys.length
end D
namespace D
open PySem PySem.Spec L2 PyProof.Rows GenW
section
variable {P : Program} {w : World} {A : Around} {E : Value → Shared → Prop} {s : Shared}
end
theorem Pick.ns {kk : Option Nat} {h h' : Heap} {v u : Value} {Z : Addr} {mm : Str → Option Value} (q : Pick kk h v u) (n : h.Ns Z mm) (k : ∀ b o, b ≠ Z → h.get? b = some o → h'.get? b = some o) : Pick kk h' v u := by
 cases kk with
 | none => exact q
 | some j =>
  obtain ⟨a, its, e, ⟨o, ho, hc, hd⟩, hu⟩ := q
  refine ⟨a, its, e, ⟨o, k a o (fun z => ?_) ho, hc, hd⟩, hu⟩
  subst z
  obtain ⟨o', es, ep, ho', hd', _⟩ := n
  obtain ⟨m, hd⟩ := hd
  rw [ho] at ho'; cases ho'
  rw [hd] at hd'; cases hd'
def PickVV (K : PySem.W.Frag) (kk : Option Nat) (H : Hp) (x y : V) : Prop := match kk with
 | none => y = x
 | some k => ∃ p zs, x = .ref p ∧ SqT K H p zs ∧ zs[k]? = some y
def PickL (K : PySem.W.Frag) (kk : Option Nat) (H : Hp) (xs ys : List V) : Prop := ys.length = xs.length ∧ ∀ (i : Nat) (x y : V), xs[i]? = some x → ys[i]? = some y → PickVV K kk H x y
theorem PickL.all {K : PySem.W.Frag} {kk : Option Nat} {H : Hp} {xs ys : List V} (q : PickL K kk H xs ys) : ∀ x ∈ xs, PickV K kk H x := fun x hx => by
 cases kk with
 | none => trivial
 | some k =>
  obtain ⟨i, hi⟩ := List.getElem?_of_mem hx
  have hlt : i < ys.length := by rw [q.1]; exact (List.getElem?_eq_some_iff.mp hi).1
  obtain ⟨p, zs, e1, e2, e3⟩ := q.2 i x _ hi (List.getElem?_eq_getElem hlt)
  exact ⟨p, zs, e1, e2, (List.getElem?_eq_some_iff.mp e3).1⟩
section
variable {X : Cx} {k : Nat} {f : Addr} {fd : FuncData} {ps ks : List Str} {π : List Nat} {sp : Sp} {dvs : List V} {ds : List Value} {x : Str} {p cpos : Pos} {es : List Expr} {kws : List Keyword} {t tk : TA} {n : Nat}
end
end D
namespace D
open PySem PySem.Spec L2 PyProof.Rows GenW
theorem RK.weak {B : BC} {W : WX} {g : Ak} {σ : L2.St} {H : Hp} {Q Q' : List V → Hp → Prop} (h : RK B WF g σ H Q) (m : ∀ vs H, Q vs H → Q' vs H) : RK B W g σ H Q' := by
 obtain ⟨ρ, st, rel, r⟩ := h
 refine ⟨ρ, st, rel, ?_⟩
 cases e : g st with
 | stuck => rw [e] at r; exact r
 | exc x st1 => rw [e] at r; exact fun ρ' H' cls d s q => (r ρ' H' cls d s q : False).elim
 | ok a st1 => rw [e] at r; exact fun ρ' H' s vs rv => m _ _ (r ρ' H' s vs rv)
section
variable {X : Cx} {C : RC} {O : Addr → Prop} {H0 : Hp} {W : WX} {k l : Nat} {es : List Expr} {kws : List Keyword} {pos p cpos py : Pos} {x : Str} {ge gk : Ak} {F : Fn} {f : Addr} {fd : FuncData} {ps : List Str}
end
end D
namespace D
open PySem L2 PyProof.Rows
section
variable {F : Fn} {ga : Ak} {kk : Option Nat} {st : DS} {q : QE} {E : EK}
end
end D
namespace D
open PySem L2 PyProof.Rows
end D
namespace D
open PySem L2 PyProof.Rows
section
variable {X : Cx} {C : RC} {O : Addr → Prop} {H0 : Hp} {W : WX} {k : Nat} {e : Expr} {fe : Ev} {p pos : Pos}
end
end D
namespace D
open PySem L2 PyProof.Rows
section
variable {X : Cx} {C : RC} {O : Addr → Prop} {H0 : Hp} {W : WX} {k : Nat} {a b : Expr} {fa fb : Ev} {pos : Pos}
end
end D
namespace HI
open PySem PySem.Spec PyProof.Rows L2
section
variable {P : Program} {w : World} {A : Around} {E : Value → Shared → Prop} {s : Shared}
end
section
variable {X : Cx}
end
end HI
namespace D
open PySem L2 PyProof.Rows HI
section
variable {X : Cx} {C : RC} {O : Addr → Prop} {H0 : Hp} {W : WX} {k : Nat} {e : Expr} {fe : Ev} {p p2 pos pos2 : Pos}
end
end D
namespace D
open PySem L2 PyProof.Rows
section
variable {X : Cx} {C : RC} {O : Addr → Prop} {H0 : Hp} {W : WX} {k : Nat} {e : Expr} {fe : Ev} {p p2 pos pos2 : Pos}
end
end D
namespace D
open PySem L2 PyProof.Rows
section
variable {X : Cx} {B : BC} {W : WX} {i : Nat}
end
section
variable {X : Cx} {C : RC} {O : Addr → Prop} {H0 : Hp} {W : WX} {k : Nat} {e : Expr} {fe : Ev} {x : Str} {p1 apos cpos pos : Pos}
end
end D
namespace D
open PySem L2 PyProof.Rows LamX
abbrev FZ (o : Obj) : HO := .frz o (.ext fun _ => True)
abbrev lamO (q : Str) (params : Arguments) (body : Expr) (scope : Scope) (cl : List (Str × Addr)) (pm : Value) (c' : Addr) (ctv : Value) : Obj := PySem.W.kla_obj "<lambda>" q params body scope cl pm c' ctv
section
variable {X : Cx} {pins : List (Addr × Obj)} {σ : L2.St} {H : Hp} {s : Shared}
theorem fz_ok {P : Program} {w : World} {H : Hp} {h : Heap} {f : Addr} {o : Obj} (e : h.get? f = some o) : ObjOk P w H h f (FZ o) := ⟨e, trivial, ⟨_, e⟩, fun _ _ _ _ => trivial⟩
theorem lam_madeF {T : List (Addr × Str)} {c P : Addr} {params : Arguments} {body : Expr} {scope : Scope} {pos : Pos} {E : Value → Shared → Prop} {Q : Value → Shared → Prop} {q : Str} (hq : X.env.qual ++ "<lambda>" = q) (I : L2.Inv X pins σ H s) (TB : TabB X.base X.mg c P) (hcode : X.env.code = .ref c)
 (hm : (P, q) ∈ T) (hu : ∀ p ∈ T, p.1 = P → p.2 = q) (hT : Tabs T H) (hdef : defaultsOf params X.env = ([], [])) (hfree : ∀ y ∈ scope.names, y.2 = .free → ∃ c, X.env.cells.lookup y.1 = some c)
 (h : ∀ (f c' : Addr) (pm ctv : Value) (H1 : Hp) (s' : Shared), L2.Inv X pins σ (upd H1 f (FZ (lamO q params body scope (cloFrom X.env.cells scope.names []) pm c' ctv))) s' → Grown H H1 → Tabs T H1 → H1 f = none → f ∉ frs X.stack → H1 c' = some (CodeO c' q) → Q (.ref f) s') :
 wpAny (model X.prog X.w) X.A (eval (.Lambda params body scope pos) X.env) Q E s := by
 subst hq
 obtain ⟨ps, hP, ht, ha⟩ := hT _ hm
 have bP := TB.bm.keeps I.bk
 have hPs : s.heap.get? P = some (PySem.W.tabObj ps) := I.hok P _ hP
 have nofr : ∀ f, s.heap.objs.size ≤ f → f ∉ frs X.stack := fun f hf z => (List.mem_cons.mp (I.stkSub _ z)).elim (fun e => Nat.lt_irrefl f (Nat.lt_of_lt_of_le (e ▸ I.lt) hf)) fun e => I.nofs hf e
 refine PySem.W.kla_eval hdef ?_
 cases hc : codeAmong pos ps.toList with
 | some cv =>
  obtain ⟨c', rfl, hco⟩ := ha pos cv hc
  exact PySem.W.kla_makeFunctionHit (mg := X.mg) (closure_ok hfree) I.ok.glob (I.mod.glob.keeps I.bk) hcode (TB.code.keeps I.bk) hPs ht hc bP fun ctv h' tk hx hsz =>
   h _ c' _ ctv H _ (I.laid (t' := tk) (fun b o e => Heap.get?_push_of_some _ (hx b o e)) hsz (fz_ok (Heap.get?_push_size _ rfl))) (Grown.refl H) hT (I.hok.fresh hsz) (nofr _ hsz) hco
 | none =>
  refine PySem.W.kla_makeFunction (mg := X.mg) (closure_ok hfree) I.ok.glob (I.mod.glob.keeps I.bk) hcode (TB.code.keeps I.bk) hPs ht hc TB.gP bP fun c' ctv h' tk hx hge hlt hrec htb => ?_
  obtain ⟨c2, oc, vs, t, e2, hoc, hd, hv⟩ := hrec
  cases e2
  have hsz : s.heap.objs.size ≤ h'.objs.size := Nat.le_trans hge (Nat.le_of_lt hlt)
  have nC : H c' = none := I.hok.fresh hge
  have nPC : P ≠ c' := ne_of_none hP nC
  have I0 := inv_table (t' := tk) (more := #[rawInt pos.line, rawInt pos.col, .ref c']) I hP hx htb hge ⟨oc, vs, t, hoc, hd, hv⟩
  have I1 := I0.laid (t' := tk) (a := h'.objs.size) (o := FZ (lamO (X.env.qual ++ "<lambda>") params body scope (cloFrom X.env.cells scope.names []) ((X.mg "__name__").getD .none) c' ctv)) (h' := h'.push (lamO (X.env.qual ++ "<lambda>") params body scope (cloFrom X.env.cells scope.names []) ((X.mg "__name__").getD .none) c' ctv))
   (fun b o e => Heap.get?_push_of_some _ e) (Nat.le_refl _) (fz_ok (Heap.get?_push_size _ rfl))
  have G : Grown H (upd (upd H P (.tbl (ps ++ #[rawInt pos.line, rawInt pos.col, .ref c']))) c' (CodeO c' (X.env.qual ++ "<lambda>"))) := by
   refine ⟨fun a o e n => ?_, fun a z => ?_⟩
   · rw [upd_ne (ne_of_none e nC), upd_ne (fun (z : a = P) => by rw [z, hP] at e; cases e; exact n)]
     exact e
   · by_cases h1 : a = c'
     · rw [h1, upd_same]; exact fun z => nomatch z
     · rw [upd_ne h1]
       by_cases h2 : a = P
       · rw [h2, upd_same]; exact fun z => nomatch z
       · rw [upd_ne h2]; exact z
  have eL : (ps ++ #[rawInt pos.line, rawInt pos.col, .ref c']).toList = ps.toList ++ [rawInt pos.line, rawInt pos.col, .ref c'] := by simp
  have hPs' : s.heap.objs.size ≤ h'.objs.size ∧ P < s.heap.objs.size := ⟨hsz, Heap.lt_size hPs⟩
  refine h h'.objs.size c' _ ctv _ _ I1 G (fun p hp => ?_) ?_ (nofr _ hsz) upd_same
  · obtain ⟨qs, a1, a2, a3⟩ := hT p hp
    by_cases hb : p.1 = P
    · rw [hu p hp hb]
      rw [hb] at a1 ⊢
      rw [hP] at a1
      cases a1
      refine ⟨_, (upd_ne nPC).trans upd_same, by rw [eL]; exact PySem.TriplesOk_snoc _ _ _ _ ht, fun p' cv hcv => ?_⟩
      rw [eL] at hcv
      rcases among_app _ ht hcv with z | z
      · obtain ⟨c0, e1, e2⟩ := ha p' cv z
        exact ⟨c0, e1, G.fr _ _ e2 trivial⟩
      · exact ⟨c', z, upd_same⟩
    · refine ⟨qs, (upd_ne (ne_of_none a1 nC)).trans ((upd_ne hb).trans a1), a2, fun p' cv hcv => ?_⟩
      obtain ⟨c0, e1, e2⟩ := a3 p' cv hcv
      exact ⟨c0, e1, G.fr _ _ e2 trivial⟩
  · rw [upd_ne (Nat.ne_of_gt hlt), upd_ne (Nat.ne_of_gt (Nat.lt_of_lt_of_le hPs'.2 hPs'.1))]
    exact I.hok.fresh hsz
def tLamF (X : Cx) (T : List (Addr × Str)) (q : Str) (params : Arguments) (body : Expr) (scope : Scope) : TE := fun σ H Q => Tabs T H ∧ ∀ (f c' : Addr) (pm ctv : Value) (H1 : Hp), Grown H H1 → Tabs T H1 → H1 f = none → f ∉ frs X.stack → H1 c' = some (CodeO c' q) →
 Q (.ref f) (upd H1 f (FZ (lamO q params body scope (cloFrom X.env.cells scope.names []) pm c' ctv)))
theorem pe_lamF {T : List (Addr × Str)} {c P : Addr} {params : Arguments} {body : Expr} {scope : Scope} {pos : Pos} {q : Str} (hq : X.env.qual ++ "<lambda>" = q) (TB : TabB X.base X.mg c P) (hcode : X.env.code = .ref c) (hm : (P, q) ∈ T) (hu : ∀ p ∈ T, p.1 = P → p.2 = q) (L : LamS X.env.scope scope) (hdef : defaultsOf params X.env = ([], [])) :
 PE X (.Lambda params body scope pos) (tLamF X T q params body scope) :=
 ⟨fun pins s σ H Q I ⟨hT, h⟩ => lam_madeF hq I TB hcode hm hu hT hdef (L.has I.ok) fun f c' pm ctv H1 s' I1 gr T1 hf hfr hco => ⟨.ref f, _, I1, rfl, h f c' pm ctv H1 gr T1 hf hfr hco⟩⟩
end
end D
namespace D
open PySem L2 PyProof.Rows LamX
structure LamQ (X : Cx) (C : RC) (k : Nat) where
 params : Arguments
 body : Expr
 scope : Scope
 fb : Ev
 S : LamS X.env.scope scope
 df : defaultsOf params X.env = ([], [])
 bd : ∀ (q : Str) (cl : List (Str × Addr)) (pm cv ctv : Value), bindArgs (PySem.W.kla_fn "<lambda>" q params body scope cl pm cv ctv) ⟨[], []⟩ = pure []
 go : ∀ (A : Around) (outer : List Env) (s : Shared) (H : Hp) (E : XK) (f c' : Addr), Room k (A.deeper (lamEnv X scope s.heap.objs.size f c')) → A.guards = X.A.guards → ∀ B' : BC, B'.C = C → PD (lamCx X A outer s H E scope f c') B' (fun cls d _ H' => E cls d H') body fb
def LamAt (X : Cx) (q : Str) {C : RC} {k : Nat} (H : Hp) (L : LamQ X C k) (f : Addr) : Prop := f ∉ frs X.stack ∧ ∃ (c' : Addr) (pm ctv : Value), H c' = some (CodeO c' q) ∧ H f = some (FZ (lamO q L.params L.body L.scope (cloFrom X.env.cells L.scope.names []) pm c' ctv))
inductive LamsAt (X : Cx) (q : Str) {C : RC} {k : Nat} (H : Hp) : List (LamQ X C k) → List Addr → Prop
 | nil : LamsAt X q H [] []
 | cons {L : LamQ X C k} {f : Addr} {Ls : List (LamQ X C k)} {fs : List Addr} : LamAt X q H L f → LamsAt X q H Ls fs → LamsAt X q H (L :: Ls) (f :: fs)
section
variable {X : Cx} {q : Str} {C : RC} {k : Nat} {H H' : Hp}
theorem LamAt.mv {L : LamQ X C k} {f : Addr} (h : LamAt X q H L f) (m : ∀ a o, H a = some o → ¬ WR o → NT o → H' a = some o) : LamAt X q H' L f := by
 obtain ⟨h1, c', pm, ctv, h2, h3⟩ := h
 exact ⟨h1, c', pm, ctv, m _ _ h2 (fun z => z) trivial, m _ _ h3 (fun z => z) trivial⟩
theorem LamsAt.mv {Ls : List (LamQ X C k)} {fs : List Addr} (h : LamsAt X q H Ls fs) (m : ∀ a o, H a = some o → ¬ WR o → NT o → H' a = some o) : LamsAt X q H' Ls fs := by
 induction h with
 | nil => exact .nil
 | cons a b ih => exact .cons (a.mv m) ih
theorem LamsAt.len {Ls : List (LamQ X C k)} {fs : List Addr} (h : LamsAt X q H Ls fs) : fs.length = Ls.length := by
 induction h with
 | nil => rfl
 | cons a b ih => rw [List.length_cons, List.length_cons, ih]
theorem LamsAt.snoc {Ls : List (LamQ X C k)} {fs : List Addr} {L : LamQ X C k} {f : Addr} (h : LamsAt X q H Ls fs) (a : LamAt X q H L f) : LamsAt X q H (Ls ++ [L]) (fs ++ [f]) := by
 induction h with
 | nil => exact .cons a .nil
 | cons b c ih => exact .cons b ih
theorem LamsAt.get {Ls : List (LamQ X C k)} {fs : List Addr} (h : LamsAt X q H Ls fs) {i : Nat} {f : Addr} (e : fs[i]? = some f) : ∃ L, Ls[i]? = some L ∧ LamAt X q H L f := by
 induction h generalizing i with
 | nil => cases e
 | cons a b ih =>
  cases i with
  | zero => cases e; exact ⟨_, rfl, a⟩
  | succ i => exact ih e
end
def liveC : CellC → Bool
 | .dead => false
 | _ => true
section
variable {B : BC} {W : WX} {σ σ1 σ2 : L2.St} {ρ ρ1 ρ2 : List CellA} {st st1 : DS} {H H1 H2 : Hp} {X : Cx} {q : Str} {C : RC} {k i : Nat}
theorem cm_wr (r : Rel B ρ st σ H) (hl : st.cs.all liveC = true) {a : Addr} (h : CM ρ a) : ∃ o, H a = some o ∧ WR o := by
 obtain ⟨c, hc, ha⟩ := h
 obtain ⟨j, hj⟩ := List.mem_iff_getElem?.mp hc
 have hjl : j < st.cs.length := by rw [← r.cel.len]; exact (List.getElem?_eq_some_iff.mp hj).1
 have hx := List.getElem?_eq_getElem hjl
 have q := r.cel.ok j c _ hj hx
 have lv := List.all_eq_true.mp hl _ (List.getElem_mem hjl)
 revert q lv
 cases st.cs[j] with
 | dead => exact fun _ lv => nomatch lv
 | draw d =>
  rintro ⟨g, l, e, _, _, _, h1, h2, h3⟩ _
  rcases ha with rfl | ha
  · exact ⟨_, h1, trivial⟩
  · rw [e] at ha
    rcases List.mem_cons.mp ha with rfl | ha
    · exact ⟨_, h2, trivial⟩
    · rw [List.mem_singleton.mp ha]
      exact ⟨_, h3, trivial⟩
 | obj d =>
  rintro ⟨e, h1⟩ _
  rcases ha with rfl | ha
  · obtain ⟨o, eo⟩ := Option.ne_none_iff_exists'.mp h1.some
    exact ⟨o, eo, h1.wr o eo⟩
  · rw [e] at ha
    cases ha
theorem Step.keepF (s : Step B σ ρ st H ρ1 st1 H1) (r : Rel B ρ st σ H) (hl : st.cs.all liveC = true) : ∀ a o, H a = some o → ¬ WR o → NT o → H1 a = some o := fun a o e n t =>
 s.fr a o e (fun z => by obtain ⟨o', e', h'⟩ := cm_wr r hl z; rw [e] at e'; cases e'; exact n h') t
def RH (X : Cx) (q : Str) (i : Nat) {C : RC} {k : Nat} (Ls : List (LamQ X C k)) (B : BC) (W : WX) (g : Sv) : TS := fun D σ H => ∃ (σ0 : L2.St) (ρ0 : List CellA) (st0 : DS) (H0 : Hp) (ρ : List CellA) (st : DS) (w : Addr) (fs : List Addr),
 SRes B W σ0 ρ0 st0 H0 (g st) (GS B D) ∧ SStep B σ0 ρ0 st0 H0 σ ρ st H ∧ H0 w = none ∧ Rel (B.hold w) ρ st σ H ∧ ¬ CM ρ w ∧ st.cs.all liveC = true ∧ σ[i]? = some (some (.ref w)) ∧ H w = some (.lst (fs.map V.ref)) ∧ LamsAt X q H Ls fs
def RF (X : Cx) (q : Str) (i : Nat) {C : RC} {k : Nat} (Ls : List (LamQ X C k)) (B : BC) (W : WX) (g : Sv) : TS := fun D σ H => ∃ (ρ : List CellA) (st : DS) (w : Addr) (fs : List Addr),
 SRes B W σ ρ st H (g st) (GS B D) ∧ Rel B ρ st σ H ∧ ¬ CM ρ w ∧ st.cs.all liveC = true ∧ σ[i]? = some (some (.ref w)) ∧ H w = some (.lst (fs.map V.ref)) ∧ LamsAt X q H Ls fs
theorem rh_rf {Ls : List (LamQ X C k)} {g : Sv} {D : Ends} (h : RH X q i Ls B W g D σ H) : RF X q i Ls B W g D σ H := by
 obtain ⟨σ0, ρ0, st0, H0, ρ, st, w, fs, h1, h2, h3, h4, h5, h6, h7, h8, h9⟩ := h
 exact ⟨ρ, st, w, fs, SRes.from h2 h1, h2.rel, h5, h6, h7, h8, h9⟩
def svW0 (i : Nat) (g : Sv) : Sv := fun st => if st.cs.all liveC = true ∧ i < st.sl.length then g ⟨st.sl.set i (some (.opq, false)), st.cs⟩ else .stuck
theorem pssd_w0 {x : Str} {pos pos' lpos llpos : Pos} {ctx : Nat} {c P : Addr} {rest : List Stmt} {g : Sv} {L : LamQ X C k} (hC : B.C = C) (hq : X.env.qual ++ "<lambda>" = q) (TB : TabB X.base X.mg c P) (hcode : X.env.code = .ref c) (hm : (P, q) ∈ C.T) (hu : ∀ p ∈ C.T, p.1 = P → p.2 = q) (hN : X.N.Nodup) (hi : X.N[i]? = some x) (hx : Loc X.env.scope x)
 (hst : starEach [Expr.Lambda L.params L.body L.scope lpos] X.env = (false, eval (.Lambda L.params L.body L.scope lpos) X.env) :: starEach [] X.env) (hs : swapsWith (.List [.Lambda L.params L.body L.scope lpos] llpos) (some (.Name x pos')) pos.line X.env = pure false) (hf : X.fn x = true ∨ X.env.scope.names.lookup x = some .local)
 (hr : PSs X rest (RH X q i [L] B W g)) : PSsD X B W (.Assign [.Name x pos'] (.List [.Lambda L.params L.body L.scope lpos] llpos) pos :: rest) (svW0 i g) := by
 subst hC
 refine PSs.mono (pss_cons (ps_set hN hi hx (pe_lst (pa_cons (pe_lamF hq TB hcode hm hu L.S L.df) pa_nil hst)) hs hf) hr) fun D σ H ⟨ρ, st, rel, r⟩ => ?_
 unfold svW0 at r
 split at r
 case isFalse => exact r.elim
 rename_i hc
 refine ⟨rel.tabs, fun f c' pm ctv H1 gr T1 hf hfr hco => ⟨by show 1 ≤ sizeLine; decide, fun p hp => ?_⟩⟩
 have s1 := Step.grown rel gr T1
 have s2 := s1.trans (Step.alloc (o := FZ (lamO q L.params L.body L.scope (cloFrom X.env.cells L.scope.names []) pm c' ctv)) s1.rel hf)
 have r3 := Rel.holdA (o := .lst [V.ref f]) s2.rel hp
 have s3 := s2.trans (Step.alloc (o := .lst [V.ref f]) s2.rel hp)
 have s4 := (SStep.of s3).trans (SStep.putF (i := i) s3.rel (Rep.opq p))
 have r4 := (SStep.putF (i := i) r3 (Rep.opq p)).rel
 have hfp : f ≠ p := fun z => by rw [← z, upd_same] at hp; cases hp
 have hp1 : H1 p = none := by rw [upd_ne (Ne.symm hfp)] at hp; exact hp
 have hp0 : H p = none := none_of_dm gr.dm hp1
 have hcf : c' ≠ f := fun z => by rw [z, hf] at hco; cases hco
 have hcp : c' ≠ p := fun z => by rw [z, hp1] at hco; cases hco
 refine ⟨σ, ρ, st, H, ρ, _, p, [f], r, s4, hp0, r4, fun z => rel.cdom p z hp0, hc.1, ?_, upd_same, .cons ⟨hfr, c', pm, ctv, ?_, ?_⟩ .nil⟩
 · have hlt : i < σ.length := by rw [← rel.len]; exact hc.2
   exact List.getElem?_set_self hlt
 · rw [upd_ne hcp, upd_ne hcf]
   exact hco
 · rw [upd_ne hfp, upd_same]
theorem pss_wApp {x : Str} {pos p1 apos cpos lpos : Pos} {c P : Addr} {rest : List Stmt} {g : Sv} {Ls : List (LamQ X C k)} {L : LamQ X C k} (hC : B.C = C) (hK : C.K = X.K) (hq : X.env.qual ++ "<lambda>" = q) (TB : TabB X.base X.mg c P) (hcode : X.env.code = .ref c) (hm : (P, q) ∈ C.T) (hu : ∀ p ∈ C.T, p.1 = P → p.2 = q)
 (ho : PE X (.Name x p1) (tVar i)) (hlen : Ls.length < sizeLine) (hbase : attributeBase (.Name x p1) "append" X.env (eval (.Name x p1) X.env) = eval (.Name x p1) X.env)
 (hfew : ((backTo cpos (starEach [Expr.Lambda L.params L.body L.scope lpos] X.env)).all (fun x => !x.1) && (backToKw cpos (keywordEach [] X.env)).all (fun x => x.1.isSome) && decide (([Expr.Lambda L.params L.body L.scope lpos] : List Expr).length + ([] : List Keyword).length + (if ([] : List Keyword).isEmpty then 0 else 1) < 30)) = true)
 (hline : (apos.endLine == cpos.line) = true) (hst : starEach [Expr.Lambda L.params L.body L.scope lpos] X.env = (false, eval (.Lambda L.params L.body L.scope lpos) X.env) :: starEach [] X.env) (hplain : (backTo cpos (starEach [] X.env)).any (·.1) = false)
 (hs : swapsWith (.Call (.Attribute (.Name x p1) "append" apos) [.Lambda L.params L.body L.scope lpos] [] cpos) none pos.line X.env = pure false) (hr : PSs X rest (RH X q i (Ls ++ [L]) B W g)) :
 PSs X (.Expr (.Call (.Attribute (.Name x p1) "append" apos) [.Lambda L.params L.body L.scope lpos] [] cpos) pos :: rest) (RH X q i Ls B W g) := by
 subst hC
 refine PSs.mono (pss_cons (ps_expr (pe_bm PySem.F.plainAttrs_list PySem.F.slot_list_append PySem.F.type_list_append mt_append ho (pa_cons (pe_lamF hq TB hcode hm hu L.S L.df) pa_nil hst) hbase hfew hline hst hplain) hs) hr) fun D σ H h => ?_
 obtain ⟨σ0, ρ0, st0, H0, ρ, st, w, fs, r, s, hw0, rh, ncm, hl, hσ, hw, hLs⟩ := h
 refine ⟨.ref w, hσ, ⟨.inl ⟨rfl, _, .inl (.inl hw)⟩, rh.tabs, fun f c' pm ctv H1 gr T1 hf hfr hco => ?_⟩⟩
 have hw1 : H1 w = some (.lst (fs.map V.ref)) := gr.fr w _ hw trivial
 have hfw : f ≠ w := fun z => by rw [z, hw1] at hf; cases hf
 have hcf : c' ≠ f := fun z => by rw [z, hf] at hco; cases hco
 have hcw : c' ≠ w := fun z => by rw [z, hw1] at hco; cases hco
 generalize hob : FZ (lamO q L.params L.body L.scope (cloFrom X.env.cells L.scope.names []) pm c' ctv) = ob
 have hw2 : upd H1 f ob w = some (.lst (fs.map V.ref)) := by rw [upd_ne (Ne.symm hfw)]; exact hw1
 refine ⟨w, _, .ref f, rfl, rfl, hw2, by rw [List.length_map, hLs.len]; exact hlen, ?_⟩
 have g1 := Step.grown rh gr T1
 have g2 := g1.trans (Step.alloc (o := ob) g1.rel hf)
 have rw3 := Rel.writeHeld (o := .lst (fs.map V.ref ++ [V.ref f])) g2.rel ncm (fun u e => by rw [hw2] at e; cases e; trivial)
 have t1 := Step.grown s.rel gr T1
 have t2 := s.trans (SStep.of (t1.trans (Step.alloc (o := ob) t1.rel hf)))
 have keep : ∀ a o, H a = some o → ¬ WR o → NT o → upd (upd H1 f ob) w (.lst (fs.map V.ref ++ [V.ref f])) a = some o := fun a o e n nt => by
  have hae : a ≠ w := fun z => by rw [z, hw] at e; cases e; exact n trivial
  have haf : a ≠ f := ne_of_none (gr.fr a o e nt) hf
  rw [upd_ne hae, upd_ne haf]
  exact gr.fr a o e nt
 refine ⟨σ0, ρ0, st0, H0, ρ, st, w, fs ++ [f], r, ?_, hw0, rw3, ncm, hl, hσ, by rw [upd_same, List.map_append]; rfl, (hLs.mv keep).snoc ⟨hfr, c', pm, ctv, ?_, ?_⟩⟩
 · refine ⟨t2.pre, rw3.unhold, fun a o e n no nt => ?_, t2.av, t2.cm, fun a z => ?_⟩
   · rw [upd_ne (fun z => by rw [z, hw0] at e; cases e)]
     exact t2.fr a o e n no nt
   · by_cases ha : a = w
     · rw [ha, upd_same]; exact fun z => nomatch z
     · rw [upd_ne ha]; exact t2.dm a z
 · rw [upd_ne hcw, upd_ne hcf]
   exact hco
 · rw [upd_ne hfw, upd_same, hob]
end
end D
namespace D
open PySem PySem.Spec L2 PyProof.Rows
section
variable {X : Cx} {pins : List (Addr × Obj)} {σ : L2.St} {H : Hp} {s : Shared}
theorem out_of {s0 s1 : Shared} {H0 H1 : Hp} {scope : Scope} {ce : Env} {fp : List Addr} {pn : List (Addr × Obj)} {σ' : L2.St} (I : L2.Inv X pins σ H0 s0) (J : L2.Inv (X.blk s0 H0 scope ce fp) pn σ' H1 s1) (f : ∀ b ∈ fp, FpOk X pins H0 b) : L2.Inv X pins σ H1 s1 :=
 I.call' (ch := fp) J.os J.base J.hok J.bare fun b hb => by
  obtain ⟨_, q1, _, q2, q3, q4⟩ := f b hb
  exact ⟨q2, q1, q3, q4⟩
def Bk (X : Cx) (pins : List (Addr × Obj)) (σ : L2.St) (scope : Scope) (elt tg : Expr) (ifs : List Expr) (g : TG) (tt : TT) (te : TE) : Prop :=
 ∀ (s0 : Shared) (H0 : Hp) (C : Addr) (cl : List (Str × Addr)) (fp : List Addr), L2.Inv X pins σ H0 s0 → (∀ b ∈ fp, FpOk X pins H0 b) →
  PG (X.blk s0 H0 scope (compEnvC scope cl C X.env) fp) tg g ∧ PTs (X.blk s0 H0 scope (compEnvC scope cl C X.env) fp) ifs tt ∧ PE (X.blk s0 H0 scope (compEnvC scope cl C X.env) fp) elt te
def LoopI (Y : Cx) (fp : List Addr) (tn : Nat → Heap → Prop) (W : Nat → Nat → Hp → Prop) (σw : L2.St) (n : Nat) (s : Shared) : Prop :=
 ∃ i H, L2.Inv Y [] σw H s ∧ tn i s.heap ∧ (∀ b ∈ fp, H b = none) ∧ W i n H
theorem blk_fp {s0 s1 : Shared} {H0 H1 : Hp} {scope : Scope} {ce : Env} {fp : List Addr} {σ' : L2.St} (J : L2.Inv (X.blk s0 H0 scope ce fp) [] σ' H1 s1) (hn : ∀ b ∈ fp, H1 b = none) : ∀ b ∈ fp, FpOk (X.blk s0 H0 scope ce fp) [] H1 b := fun b hb => by
 have e := J.ok.exf b hb
 exact ⟨hn b hb, e.1, J.ok.exfs b hb, Or.inl hb, e.2, fun p z => nomatch (show p ∈ ([] : List (Addr × Obj)) from z)⟩
theorem blk_turn {Y : Cx} {tg elt : Expr} {ifs : List Expr} {J : It} {fp : List Addr} {it D : Addr} {tn : Nat → Heap → Prop} {W : Nat → Nat → Hp → Prop} {g : TG} {tt : TT} {te : TE} {vs : List Nat} {σ0 : L2.St} {i n : Nat} {H5 : Hp} {s5 : Shared} {Nx : Hp → Prop}
 (hnp : Y.pn = []) (hex : Y.xe = fun _ _ => False) (hc : Y.calm = true) (T : Turn Y.prog Y.w Y.K tg J fp it tn) (pg : PG Y tg g) (pt : PTs Y ifs tt) (pe : PE Y elt te) (st : ∀ {σ' : L2.St} {H' : Hp} {s' : Shared}, L2.Inv Y [] σ' H' s' → (∀ b ∈ fp, H' b = none) → ∀ b ∈ fp, FpOk Y [] H' b)
 (I5 : L2.Inv Y [] (L2.wipe σ0 vs) H5 s5) (t5 : tn i s5.heap) (n5 : ∀ b ∈ fp, H5 b = none) (go : J.go i H5) (hNx : ∀ H', Nx H' → ∃ m', m' < n ∧ W (i + 1) m' H')
 (step : ∀ x H', J.yld i H5 x H' → g x (L2.wipe σ0 vs) H' fun σ2 H2 => L2.wipe σ2 vs = L2.wipe σ0 vs ∧ tt σ2 H2 fun b H3 => if b = true then te σ2 H3 fun y H4 => ∃ acc, H4 D = some (.lst acc) ∧ acc.length < sizeLine ∧ Nx (upd H4 D (.lst (acc ++ [y]))) else Nx H3)
 {P : Option Value → Shared → Prop}
 (hP : ∀ u s6, wpAny (model Y.prog Y.w) Y.A (letOwnedTupleGo tg (.ref it) u) (fun _ s7 => wpAny (model Y.prog Y.w) Y.A (assign tg Y.env u) (fun _ s8 =>
  wpAny (model Y.prog Y.w) Y.A (forIn ifs true fun c r => if r = true then (do let ok ← isTrue c Y.env (eval c Y.env); pure (ForInStep.yield ok)) else pure (ForInStep.yield r)) (fun ok s9 =>
   if ok = true then wpAny (model Y.prog Y.w) Y.A (eval elt Y.env) (fun x s10 => wpAny (model Y.prog Y.w) Y.A (call (.builtin "list.append") [.ref D, x]) (fun _ s11 => ∃ m, m < n ∧ LoopI Y fp tn W (L2.wipe σ0 vs) m s11) (fun _ _ => False) s10) (fun _ _ => False) s9
   else ∃ m, m < n ∧ LoopI Y fp tn W (L2.wipe σ0 vs) m s9) (fun _ _ => False) s8) (fun _ _ => False) s7) (fun _ _ => False) s6 → P (some u) s6) :
 wpAny (model Y.prog Y.w) Y.A (pyNext (.ref it)) P (fun _ _ => False) s5 := by
 refine thn (T.item Y rfl rfl rfl hc i [] s5 _ H5 (fun _ _ => False) I5 (st I5 n5) t5 go) fun r s6 h6 => ?_
 obtain ⟨u, rfl, h6⟩ := h6
 refine hP u s6 (thn h6 fun _ s7 h7 => ?_)
 obtain ⟨x, H7, I7, r7, y7, t7, n7⟩ := h7
 have Ip := I7.pinned (st I7 n7) (T.obj _ _ t7)
 have hpg := pg.run _ s7 _ H7 x u _ Ip r7 (step x H7 y7)
 rw [hex] at hpg
 refine thn hpg fun _ s8 h8 => ?_
 obtain ⟨σ8, H8, I8, w8, q8⟩ := h8
 have hpt := pt.run _ s8 σ8 H8 _ I8 q8
 rw [hex] at hpt
 refine thn hpt fun b s9 h9 => ?_
 obtain ⟨H9, I9, q9⟩ := h9
 -- the next turn
 have close : ∀ (s' : Shared) (H' : Hp), L2.Inv Y ([] ++ pinsAt fp s7.heap) σ8 H' s' → Nx H' → ∃ m, m < n ∧ LoopI Y fp tn W (L2.wipe σ0 vs) m s' := by
  intro s' H' I' nx
  obtain ⟨m', hm, w'⟩ := hNx H' nx
  have look : ∀ b ∈ fp, ∀ o, s7.heap.get? b = some o → s'.heap.get? b = some o ∧ H' b = none := fun b hb o e => by
   have z := I'.pin (b, o) (by rw [hnp]; exact mem_pinsAt hb e)
   exact ⟨z.1, z.2.1⟩
  refine ⟨m', hm, i + 1, H', L2.Inv.weak (I'.unpinned (pins := [])) ?_ (fun j v e => ?_), T.keep _ _ _ t7 fun b hb o e => (look b hb o e).1, fun b hb => ?_, w'⟩
  · rw [← w8, wipe_length]
  · rw [← w8] at e
    exact (wipe_some e).1
  · obtain ⟨o, e, _⟩ := T.obj _ _ t7 b hb
    exact (look b hb o e).2
 cases b with
 | false =>
  rw [if_neg (by decide)] at q9 ⊢
  exact close s9 H9 I9 q9
 | true =>
  rw [if_pos rfl] at q9 ⊢
  have hpe := pe.run _ s9 σ8 H9 _ I9 q9
  rw [hex] at hpe
  refine thn hpe fun z s10 h10 => ?_
  obtain ⟨yv, H10, I10, r10, acc, hD, hz, nx⟩ := h10
  exact app_ok I10 hD hz r10 fun s11 I11 => close s11 _ I11 nx
theorem pe_lcO {elt tg iter : Expr} {ifs : List Expr} {scope : Scope} {own : List (Str × Nat)} {pos : Pos} {wi : TI} {g : L2.St → TG} {tt : L2.St → TT} {te : L2.St → TE} (hc : X.calm = true) (hN : X.N.Nodup) (hi : PI X tg iter wi) (ok : BlkOk X.N X.env.scope scope own)
 (hb : ∀ pins σ, Bk X pins σ scope elt tg ifs (g σ) (tt σ) (te σ)) (hs : ∀ x, foldedSetIterable iter X.env x = pure x) :
 PE X (.ListComp elt [⟨tg, iter, ifs, 0⟩] scope pos) (fun σ H Q => tLc wi (g σ) (tt σ) (te σ) (own.map (·.2)) σ H Q) := by
 refine ⟨fun pins s σ H Q I h => ?_⟩
 rw [eval_ListComp]
 have caps : ∀ y ∈ scope.names, y.2 = .free → ∃ c, X.env.cells.lookup y.1 = some c := fun y hy e => I.ok.has _ (ok.free y hy e)
 refine wpAny_comprehension_free (use := Option.none) rfl hs (closure_ok caps) ok.kind (fun y hy e => (ok.uniq y hy).trans (congrArg some e)) ?_
 refine thn (hi.run pins s σ H _ I h) fun xv s1 hx => thn hx fun itv s2 h2 => ?_
 obtain ⟨it, fp, tn, J, H2, rfl, I2, T, t2, f2, q⟩ := h2
 refine wpAny_newObj_type (newEnv_comp ?_) (by show 0 ≤ sizeLine; decide)
 -- the new list, at D
 obtain ⟨D, hD⟩ : ∃ D, s2.heap.objs.size = D := ⟨_, rfl⟩
 have fresh : H2 D = none := I2.hok.fresh (Nat.le_of_eq hD)
 obtain ⟨W, ⟨m0, w0⟩, turn⟩ := q D fresh
 obtain ⟨s3, hs3⟩ : ∃ s3 : Shared, s3 = { s2 with heap := s2.heap.push { cls := .type "list", data := .seq ([] : List Value).toArray } } := ⟨_, rfl⟩
 obtain ⟨H3, hH3⟩ : ∃ H3, H3 = upd H2 D (.lst []) := ⟨_, rfl⟩
 have I3 : L2.Inv X pins σ H3 s3 := by
  rw [hs3, hH3]
  exact I2.laid (t' := s2.toks) (fun b o e => Heap.get?_push_of_some _ e) (Nat.le_of_eq hD) ⟨Nat.zero_le _, [], 0, .nil, by rw [← hD]; exact Heap.get?_push_size _ rfl⟩
 have low : ∀ b ∈ fp, b < s2.heap.objs.size := fun b hb => by
  obtain ⟨o, e, _⟩ := T.obj _ _ t2 b hb
  exact Heap.lt_size e
 have f3 : ∀ b ∈ fp, FpOk X pins H3 b := fun b hb => ⟨by rw [hH3, upd_ne (by rw [← hD]; exact Nat.ne_of_lt (low b hb))]; exact (f2 b hb).1, (f2 b hb).2⟩
 have f3' : ∀ b ∈ fp, FpOk X pins H3 b ∧ b < s3.heap.objs.size := fun b hb => ⟨f3 b hb, by rw [hs3, Heap.size_push]; exact Nat.lt_succ_of_lt (low b hb)⟩
 have t3 : tn 0 s3.heap := T.keep _ _ _ t2 fun b _ o e => by rw [hs3]; exact Heap.get?_push_of_some _ e
 obtain ⟨pg, pt, pe⟩ := hb pins σ s3 H3 s3.heap.objs.size (cellsFrom (s3.heap.objs.size + 1) scope.names (cloFrom X.env.cells scope.names [])) fp I3 f3
 have I4 := block_start I3 ok hN f3'
 have done : ∀ (s' : Shared) (H' : Hp) (m : Str → Option Value), L2.Inv X pins σ H' s' → Q (.ref D) H' → s'.heap.Ns s3.heap.objs.size m → H' s3.heap.objs.size = none →
  compPost (model X.prog X.w) X.A X.xe Option.none (EP X pins σ Q) (.ref D) s3.heap.objs.size (.ok .next) s' := by
  intro s' H' m I' qq hn hz
  obtain ⟨z0, z1, z2, z3, z4, z5⟩ := I3.fpOk (Nat.le_refl _) hz
  exact ⟨m, hn, fun h'' sb => ⟨.ref D, H', I'.turned (t' := s'.toks) (fun b o hb e => (sb.2 b hb).trans e) hz z1 z3 z4 z5, rfl, qq⟩⟩
 rw [← hs3]
 have eD : (Value.ref s2.heap.objs.size) = .ref D := by rw [hD]
 rw [eD]
 show codeAny _ _ (.compStart (.ListComp elt [⟨tg, iter, ifs, 0⟩] scope pos) 0 (.ref it) (.ref D) (compEnvC scope (cellsFrom (s3.heap.objs.size + 1) scope.names (cloFrom X.env.cells scope.names [])) s3.heap.objs.size X.env)) (compPost (model X.prog X.w) X.A X.xe Option.none (EP X pins σ Q) (.ref D) s3.heap.objs.size) { s3 with heap := pushCells (s3.heap.push { cls := .type "dict", data := .dict #[] }) scope.names }
 obtain ⟨ce, hce⟩ : ∃ ce, compEnvC scope (cellsFrom (s3.heap.objs.size + 1) scope.names (cloFrom X.env.cells scope.names [])) s3.heap.objs.size X.env = ce := ⟨_, rfl⟩
 have hL : ce.locals = s3.heap.objs.size := by rw [← hce]; rfl
 rw [hce] at I4 pg pt pe ⊢
 obtain ⟨s4, hs4⟩ : ∃ s4 : Shared, s4 = { s3 with heap := pushCells (s3.heap.push { cls := .type "dict", data := .dict #[] }) scope.names } := ⟨_, rfl⟩
 rw [← hs4] at I4 ⊢
 have t4 : tn 0 s4.heap := T.keep _ _ _ t3 fun b _ o e => by rw [hs4]; exact pushCells_keeps _ _ _ _ (Heap.get?_push_of_some _ e)
 rw [← hH3] at w0
 refine codeAny_compStart_list ?_ (T.self X.A 0 _ _ _ t4 ?_)
 all_goals
  refine compLoop_any (LoopI (X.blk s3 H3 scope ce fp) fp tn W (L2.wipe σ (own.map (·.2)))) ?_ m0 ⟨0, H3, I4, t4, fun b hb => (f3 b hb).1, w0⟩
  rintro n s5 ⟨i, H5, I5, t5, n5, w5⟩
  rcases turn i n H5 w5 with ⟨stop, qq⟩ | ⟨go, Nx, hNx, step⟩
  · refine thnF (T.done (X.blk s3 H3 scope ce fp) rfl rfl rfl hc i [] s5 _ H5 (fun _ _ => False) I5 (blk_fp I5 n5) t5 stop) fun r s6 h6 => ?_
    obtain ⟨rfl, I6⟩ := h6
    obtain ⟨m, hn, _⟩ := id I6.loc
    have hn : s6.heap.Ns ce.locals m := hn
    have hz : H5 ce.locals = none := I6.free
    rw [hL] at hn hz
    exact done s6 H5 m (out_of I3 I6 f3) qq hn hz
  · refine thnF (blk_turn (Y := X.blk s3 H3 scope ce fp) (D := D) rfl rfl hc T pg pt pe (fun I' hn => blk_fp I' hn) I5 t5 n5 go hNx step (P := fun r s6 => match r with
     | none => compPost (model X.prog X.w) X.A X.xe Option.none (EP X pins σ Q) (.ref D) s3.heap.objs.size (.ok .next) s6
     | some u => wpAny (model X.prog X.w) X.A (letOwnedTupleGo tg (.ref it) u) (fun _ s7 => wpAny (model X.prog X.w) X.A (assign tg ce u) (fun _ s8 =>
      wpAny (model X.prog X.w) X.A (forIn ifs true fun c r => if r = true then (do let ok ← isTrue c ce (eval c ce); pure (ForInStep.yield ok)) else pure (ForInStep.yield r)) (fun ok s9 =>
       if ok = true then wpAny (model X.prog X.w) X.A (eval elt ce) (fun x s10 => wpAny (model X.prog X.w) X.A (call (.builtin "list.append") [.ref D, x]) (fun _ s11 => ∃ m, m < n ∧ LoopI (X.blk s3 H3 scope ce fp) fp tn W (L2.wipe σ (own.map (·.2))) m s11) (fun _ _ => False) s10) (fun _ _ => False) s9
       else ∃ m, m < n ∧ LoopI (X.blk s3 H3 scope ce fp) fp tn W (L2.wipe σ (own.map (·.2))) m s9) (fun _ _ => False) s8) (fun _ _ => False) s7) (fun _ _ => False) s6) (fun u s6 z => z)) fun r s6 h6 => ?_
    cases r with
    | none => exact h6
    | some u => ?_
    refine thnF h6 fun _ s7 h7 => thnF h7 fun _ s8 h8 => thnF h8 fun ok s9 h9 => ?_
    cases ok with
    | false => exact h9
    | true => exact thnF h9 fun x s10 h10 => thnF h10 fun _ s11 h11 => h11
end
end D
namespace D
open PySem PySem.Spec L2 PyProof.Rows LamX
section
variable {X : Cx} {pins : List (Addr × Obj)} {σ : L2.St} {H : Hp} {s : Shared}
theorem pe_call_lamF {C : RC} {k' : Nat} (L : LamQ X C k') {N : List Str} {x : Str} {sg : Scope} {g f c' : Addr} {cdg pm ctv : Value} {k i : Nat} {a q : Str} {pn : List (Addr × Obj)} {xe : Value → Shared → Prop} {W : WX} {tb : XK → TE} {p1 p2 : Pos} (hq : X.env.qual ++ "<lambda>" = q)
 (I : L2.Inv X pins σ H s) (hf : H f = some (FZ (lamO q L.params L.body L.scope (cloFrom X.env.cells L.scope.names []) pm c' ctv)))
 (tk : Takes ((gotCx X N x sg g cdg s H).tr pn xe) W) (hr : Room (k + 1) (X.A.deeper (envOfC x sg s.heap.objs.size g cdg)))
 (hbody : ∀ (A : Around) (outer : List Env) (s : Shared) (H : Hp) (E : XK), Room k (A.deeper (lamEnv X L.scope s.heap.objs.size f c')) → A.guards = X.A.guards → PE (lamCx X A outer s H E L.scope f c') L.body (tb E))
 (hN : N[i]? = some a) (hv : Vis sg a) (hd : (a == ("__debug__" : Str)) = false) (hcd : (a == ("__classdict__" : Str)) = false) :
 PE ((gotCx X N x sg g cdg s H).tr pn xe) (.Call (.Name a p1) [] [] p2) (fun σZ HZ Q => σZ[i]? = some (some (.ref f)) ∧ HZ c' = some (CodeO c' q) ∧ tb (fun cls d H' => W cls d σZ H') σ HZ Q) := by
 subst hq
 refine ⟨fun pz sz σz Hz Q Iz ⟨hs, hc, ht⟩ => wpAny_Call_Name_kw (thn ((pe_var (pos := p1) (i := i) hN hv hd hcd).run pz sz σz Hz (fun v H1 => v = .ref f ∧ H1 = Hz) Iz ⟨.ref f, hs, rfl, rfl⟩) fun u s1 hh => ?_)⟩
 obtain ⟨v, H1, I1, r1, rfl, rfl⟩ := hh
 obtain rfl : u = Value.ref f := r1
 have hf1 : H1 f = some (FZ (lamO (X.env.qual ++ "<lambda>") L.params L.body L.scope (cloFrom X.env.cells L.scope.names []) pm c' ctv)) := I1.base.frzs f _ _ hf
 have of1 := (I1.hok f _ hf1).1
 obtain ⟨⟨oc, vs, t, hoc, hdc, hvc⟩, _, _⟩ := I1.hok c' _ hc
 refine PySem.W.callWith_F0 ⟨_, _, _, _, of1⟩ (wpAny_call (codeAny_mono (R := CR (L2.CX X.prog X.w) (envOfC x sg s.heap.objs.size g cdg :: X.stack) X.prog X.w H1 s1 Q (fun cls d H' => W cls d σz H')) (PySem.W.kla_callFunE hr.depth of1 rfl L.S.co L.S.gen rfl ⟨c', oc, vs, t, rfl, hoc, hdc, hvc⟩ ?_) fun r s' hq => ?_))
 · erw [L.bd]
   refine wpAny_pure (wpAny_newFunctionEnv (fun y hy => (L.S.own y hy).2) (fun y hy => absurd hy (by simp)) (fun h₁ hns hsb => ⟨I1.nolimit.fresh _ hsb, ?_⟩) L.S.kind)
   show codeAny _ _ (.expr L.body (lamEnv X L.scope s1.heap.objs.size f c')) _ _
   have J := lam_start2 (E := fun cls d H' => W cls d σz H') (f := f) (c' := c') (tk := s1.toks + ([] : List (Str × Value)).length) I L.S I1.env0 hr.hd (I1.base : Un (frs X.stack) [] H H1 s.heap s1.heap) hns (fun b o e => hsb.extBut b o (Nat.ne_of_lt (Heap.lt_size e)) (Heap.get?_push_of_some _ e))
   refine PySem.W.kla_codeExpr (wpAny_mono ((hbody _ _ s1 H1 _ (hr.deeper _) rfl).run [] _ _ H1 Q J ht) (fun v s' hq => ?_) fun e s' hq => hq)
   obtain ⟨w', H', J', rv, q⟩ := hq
   exact ⟨w', H', J'.os, J'.bare, J'.base, J'.hok, rv, q⟩
 · match r, hq with
   | .error e, hq => exact tk e s' (XE.of_call (W := W) (E := fun cls d H' => W cls d σz H') I1 (fun _ _ _ h => h) hq)
   | .ok (.ret u), hq => exact I1.after hq
   | .ok .next, hq => exact False.elim hq
   | .ok .brk, hq => exact False.elim hq
   | .ok .cont, hq => exact False.elim hq
def tWork {C : RC} {k : Nat} (X : Cx) (q : Str) (Ld : LamD) (N : List Str) (iw : Nat) (LQ : LamQ X C k → Prop) (σ : L2.St) : TE := fun σ2 H Q => ∃ (L : LamQ X C k) (f : Addr), LQ L ∧ σ2[iw]? = some (some (.ref f)) ∧ LamAt X q H L f ∧
 TTL C Ld N f (fun E H' Q' => RDx C (fun cls d _ H'' => E cls d H'') L.fb σ H' Q') H Q
theorem pe_work {C : RC} {k : Nat} {LQ : LamQ X C k → Prop} {Ld : LamD} {x a q w : Str} {g : Addr} {iw : Nat} {pg : Arguments} {bg : List Stmt} {sg : Scope} {dV kV doc pm cdv ct oc : Value} {an od : Option Addr} {osl : Array (Option Value)} {N : List Str} {p pw pos : Pos}
 {s0 : Shared} {H0 : Hp} {scope : Scope} {ce : Env} {fp : List Addr} (I0 : L2.Inv X pins σ H0 s0) (f0 : ∀ b ∈ fp, FpOk X pins H0 b)
 (hq : X.env.qual ++ "<lambda>" = q) (hg : Gl (X.blk s0 H0 scope ce fp) x) (hm : X.mg x = some (.ref g)) (hk : PySem.W.keepIn X.K (.ref g) = true)
 (lk : X.K.lookup g = some ⟨oc, od, .func (PySem.W.fnOf x x pg bg sg dV kV doc pm an cdv ct), osl⟩) (hcg : PySem.W.codeIn X.K cdv x = true) (hb : L2.Binds X.K (PySem.W.fnOf x x pg bg sg dV kV doc pm an cdv ct) [a] []) (Sg : FnScope N [a] sg) (hN : N[0]? = some a) (hva : Vis sg a)
 (hG : Gets X (k + 1) N x sg g cdv bg a q (TTL C Ld N)) (hr : Room (k + 2) X.A)
 (hdb : (x == ("__debug__" : Str)) = false) (hd : (a == ("__debug__" : Str)) = false) (hcd : (a == ("__classdict__" : Str)) = false)
 (hNw : X.N[iw]? = some w) (hvw : Vis ce.scope w) (hdw : (w == ("__debug__" : Str)) = false) (hcw : (w == ("__classdict__" : Str)) = false) (hst : starEach [Expr.Name w pw] ce = (false, eval (.Name w pw) ce) :: starEach [] ce) :
 PE (X.blk s0 H0 scope ce fp) (.Call (.Name x p) [.Name w pw] [] pos) (tWork X q Ld N iw LQ σ) := by
 refine ⟨fun pb s5 σ5 H5 Q I5 ⟨L, f, _, hw, ⟨hfr, c', pm', ctv, hco, hf⟩, ht⟩ => wpAny_Call_Name_kw (ld_glob I5 hg hm (PySem.W.callWith_K (h₀ := X.base) I5.ok.mod.kin hk ?_ (by rfl) (by rfl)) hdb)⟩
 have IX : L2.Inv X pins σ H5 s5 := out_of I0 I5 f0
 show wpAny _ _ (spliced (backTo pos (starEach [Expr.Name w pw] ce))) _ _ s5
 rw [hst]
 show wpAny _ _ (spliced ((false, eval (.Name w pw) ce) :: backTo pos (starEach [] ce))) _ _ s5
 refine Calls.spliced_cons (thn ((pe_var (X := X.blk s0 H0 scope ce fp) (pos := pw) (i := iw) hNw hvw hdw hcw).run pb s5 σ5 H5 (fun v H1 => v = .ref f ∧ H1 = H5) I5 ⟨.ref f, hw, rfl, rfl⟩) fun u s6 hh => ?_)
 obtain ⟨v, H6, I6, r6, rfl, rfl⟩ := hh
 obtain rfl : u = Value.ref f := r6
 have IX6 : L2.Inv X pins σ H6 s6 := out_of I0 I6 f0
 refine Calls.spliced_nil ⟨I6.kIn, wpAny_call (codeAny_mono (R := CR (L2.CX X.prog X.w) X.stack X.prog X.w H6 s6 Q (fun _ _ _ => False)) ?_ fun r s2 hq => ?_)⟩
 · exact run_ofS (N := N) (ps := [a]) (us := [.ref f]) (vs := [.ref f]) lk hcg Sg hr IX6.env0 (hb s6 [.ref f] IX6.kIn rfl) (.cons rfl .nil) rfl fun hr' =>
    hG.go f c' s6 H6 Q _ hr' (fun W pn xe p1 p2 tk => pe_call_lamF L (i := 0) (tb := fun E => RDx C (fun cls d _ H'' => E cls d H'') L.fb) hq IX6 hf tk hr' (fun A outer s H E hr2 hgu => pdx fun B' hB => L.go A outer s H E f c' hr2 hgu B' hB) hN hva hd hcd) hco ht
 · match r, hq with
   | .error e, ⟨_, _, _, _, _, _, _, _, _, _, _, _, z⟩ => exact z.elim
   | .ok (.ret u), hq => exact I6.after hq
   | .ok .next, hq => exact False.elim hq
   | .ok .brk, hq => exact False.elim hq
   | .ok .cont, hq => exact False.elim hq
end
end D
namespace D
open PySem L2 PyProof.Rows LamX
section
variable {B : BC} {W : WX} {σ : L2.St} {ρ : List CellA} {st : DS} {H : Hp}
theorem lam_coreF {ct : CT} {L : LamD} {fb : Ev} {N : List Str} {Q : VK} {f : Addr} (kc : KitC B.C ct) (hn : N.length = L.n) (hj : L.jc ≠ L.je) (rel : Rel B ρ st σ H) (r : Res B W σ ρ st H (evLam ct L fb st) (GE B σ H Q)) :
 TTL B.C L N f (fun E H' Q' => RDx B.C (fun cls d _ H'' => E cls d H'') fb σ H' Q') H Q := by
 have s0 : Step B σ ρ st H ρ st.frz H := Step.frz rel
 refine ⟨B.O, B, rfl, ρ, st.frz, s0.rel, ?_⟩
 unfold evLam at r
 have no0 : ∀ i a, ¬ ownAt (⟨zql L.n [.opq], []⟩ : DS) (L2.start N [.ref f]) i a := fun i a ⟨d, z, _⟩ => zqx z
 cases e : fb st.frz with
 | stuck => rw [e] at r; exact r.elim
 | ok a st1 =>
  rw [e] at r
  intro ρ1 H' s1 v rv fv
  have no1 : ∀ i a, ¬ ownAt st1 σ i a := fun i a z => frz_own (s1.sub i a z)
  have sT := s0.trans s1
  have rg := (SStep.putF (i := L.jc) (rel_got (f := f) (H1 := H) hn s1.rel s1.dm) (v := .non) (d := .non) .non).rel
  exact rest_got no1 (setF_own (fun d z => by cases z) no0) sT rg r
 | exc x st1 =>
  rw [e] at r
  dsimp only at r
  intro ρ1 H' cls d s1 xr
  cases hk : catchN ct L.kx x.c with
  | none => rw [hk] at r; exact r.elim
  | some b =>
   cases b with
   | false => rw [hk] at r; exact r.elim
   | true =>
    rw [hk] at r
    have r : Res B W σ ρ st H (lamBack st1.sl (outRet (L.rest ⟨L.slX x, st1.cs⟩))) (GE B σ H Q) := r
    have no1 : ∀ i a, ¬ ownAt st1 σ i a := fun i a z => frz_own (s1.sub i a z)
    have sT := s0.trans s1
    have rg := (SStep.putF (i := L.jc) (rel_got (f := f) (H1 := H) hn s1.rel s1.dm) (v := .non) (d := .non) .non).rel
    refine ⟨true, by rw [xr.1]; exact catch_ok kc L.kx x.c true hk, fun _ a ha => ?_, fun z => nomatch z⟩
    have e2 : (((L.σ1 N f).set L.je (some (.ref a))).set L.jc (some (.ref a))).set L.je none = ((L.σ1 N f).set L.jc (some (.ref a))).set L.je none := by
     rw [List.set_comm _ _ (Ne.symm hj), List.set_set]
    rw [e2]
    have sT2 := sT.trans (Step.alloc (o := XO cls d a) sT.rel ha)
    have xr' : XRep ⟨B.C, B.O, H⟩ ρ1 ⟨L.sl1, st1.cs⟩ (L.σ1 N f) H' x cls d := by
     have noc := setF_own (i := L.jc) (v := some (V.non)) (s := some (DV.non, false)) (fun d z => by cases z) no0
     have sub : ∀ b, Av ρ1 B.O ⟨L.sl1, st1.cs⟩ (L.σ1 N f) b → Av ρ1 B.O st1 σ b := fun b z => by
      rcases z with z | z | ⟨i, d, z1, z2⟩
      · exact .inl z
      · exact .inr (.inl z)
      · exact absurd ⟨d, z1, z2⟩ (noc i b)
     obtain ⟨x1, x2⟩ := xr
     refine ⟨x1, x2.imp id fun ⟨dd, vs, q1, q2, q3, q4, q5⟩ => ⟨dd, vs, q1, fun z => q2 (sub _ z), q3, q4, q5.mv (List.prefix_refl _) (fun _ _ e _ _ => e) fun a z => .inl (sub a z)⟩⟩
    have q1 := Step.alloc (o := XO cls d a) rg ha
    have q2 := SStep.putF (i := L.jc) q1.rel (xr'.rep rg ha)
    have q3 := SStep.clear q2.rel L.je
    exact rest_got no1 (setF_own (fun d z => by cases z) (setF_own (fun d z => by cases z) (setF_own (fun d z => by cases z) no0))) sT2 q3.rel r
end
def goWs (ct : CT) (Ld : LamD) : List Ev → List DV → DS → Option (List DV × DS)
 | [], acc, st => some (acc, st)
 | fb :: r, acc, st => match evLam ct Ld fb st with
  | .ok a st1 => goWs ct Ld r (acc ++ [a.1]) (st1.eat a.2)
  | _ => none
def evWs (vs : List Nat) (ct : CT) (Ld : LamD) (fs : List Ev) : Ev := fun st => match goWs ct Ld fs [] (st.dropAll vs) with
 | some r => .ok (.lst r.1, .new) r.2
 | none => .stuck
def FactW (X : Cx) (q : Str) (i : Nat) {C : RC} {k : Nat} (Ls : List (LamQ X C k)) (ρ : List CellA) (st : DS) (σ : L2.St) (H : Hp) : Prop := ∃ (w : Addr) (fs : List Addr),
 ¬ CM ρ w ∧ st.cs.all liveC = true ∧ σ[i]? = some (some (.ref w)) ∧ H w = some (.lst (fs.map V.ref)) ∧ LamsAt X q H Ls fs
abbrev FctT := List CellA → DS → L2.St → Hp → Prop
def RDF (F : FctT) (B : BC) (W : WX) (f : Ev) : TE := fun σ H Q => ∃ ρ st, F ρ st σ H ∧ Rel B ρ st σ H ∧ Res B W σ ρ st H (f st) (GE B σ H Q)
theorem dropAll_cs : ∀ (vs : List Nat) (st : DS), (st.dropAll vs).cs = st.cs
 | [], _ => rfl
 | v :: vs, st => by
  show ((st.drop v).dropAll vs).cs = st.cs
  rw [dropAll_cs vs (st.drop v)]
  rfl
theorem LamsAt.at {X : Cx} {q : Str} {C : RC} {k : Nat} {H : Hp} {Ls : List (LamQ X C k)} {fs : List Addr} (h : LamsAt X q H Ls fs) {i : Nat} (hi : i < Ls.length) : ∃ f, fs[i]? = some f ∧ LamAt X q H Ls[i] f := by
 have hf : i < fs.length := by rw [h.len]; exact hi
 obtain ⟨L, e, z⟩ := h.get (List.getElem?_eq_getElem hf)
 rw [List.getElem?_eq_getElem hi] at e
 cases e
 exact ⟨_, List.getElem?_eq_getElem hf, z⟩
section
variable {X : Cx} {B : BC} {W : WX} {σ : L2.St} {H : Hp} {q : Str} {C : RC} {k i iw : Nat} {vs : List Nat} {ct : CT} {Ld : LamD} {N : List Str}
theorem tLc_ws {Ls : List (LamQ X C k)} {Q : VK} (kc : KitC C ct) (hC : B.C = C) (hn : N.length = Ld.n) (hj : Ld.jc ≠ Ld.je) (hiw : iw ∈ vs) (hil : iw < X.N.length) (hsl : σ.length = X.N.length) (hlen : Ls.length ≤ sizeLine)
 (h : RDF (FactW X q i Ls) B W (evWs vs ct Ld (Ls.map (·.fb))) σ H Q) :
 tLc (iAny X.K (tVar i)) (gName iw) L2.tYes (tWork X q Ld N iw (fun L => L ∈ Ls) σ) vs σ H Q := by
 subst hC
 obtain ⟨ρ, st, ⟨w, fs, ncm, hl, hσ, hw, hLs⟩, rel, res⟩ := h
 refine ⟨.ref w, hσ, .inl ⟨w, rfl, ⟨_, .inl (.inl hw)⟩, fun D hD => ?_⟩⟩
 have sd := Step.dropAll vs rel
 unfold evWs at res
 cases hfin : goWs ct Ld (Ls.map (·.fb)) [] (st.dropAll vs) with
 | none => rw [hfin] at res; exact res.elim
 | some fin =>
 rw [hfin] at res
 have hl2 : (st.dropAll vs).cs.all liveC = true := by rw [dropAll_cs]; exact hl
 generalize hst2 : st.dropAll vs = st2 at *
 have rel2 := sd.rel
 let Wv : Nat → Nat → Hp → Prop := fun j m H' => ∃ ρ' st' xs acc, m + j = Ls.length ∧ Step B σ ρ st2 H ρ' st' H' ∧ Rel (B.hold D) ρ' st' σ H' ∧ ¬ CM ρ' D ∧ H' D = some (.lst xs) ∧ RepL B.C ρ' (Av ρ' (B.hold D).O st' σ) H' xs acc ∧ acc.length ≤ j ∧ goWs ct Ld ((Ls.map (·.fb)).drop j) acc st' = some fin
 refine ⟨Wv, ⟨Ls.length, ρ, st2, [], [], by simp, Step.alloc rel2 hD, Rel.holdA rel2 hD, fun z => rel2.cdom D z hD, upd_same, .nil, Nat.le_refl _, hfin⟩, ?_⟩
 rintro j m H2 ⟨ρ2, st3, xs, acc, hm, s2, rh, ncD, hDl, racc, hacc, go⟩
 have hw2 : H2 w = some (.lst (fs.map V.ref)) := s2.fr w _ hw ncm trivial
 have hL2 : LamsAt X q H2 Ls fs := hLs.mv (s2.keepF rel2 hl2)
 by_cases hjl : j < Ls.length
 · refine .inr ?_
   obtain ⟨f, hf, hLf⟩ := hL2.at hjl
   have hx : (fs.map V.ref)[j]? = some (V.ref f) := by rw [List.getElem?_map, hf]; rfl
   refine ⟨⟨_, _, .inl (.inl hw2), hx⟩, fun H' => Wv (j + 1) (m - 1) H', fun H' z => ⟨m - 1, by omega, z⟩, fun x H3 hy => ?_⟩
   obtain ⟨rfl, hy⟩ := hy
   have ex := hy _ (.inl (.inl hw2))
   rw [hx] at ex
   cases ex
   refine ⟨?_, ?_⟩
   · refine (wipe_eq (σ := L2.wipe σ vs) (by rw [List.length_set]) (fun v hv => ?_)).trans (wipe_eq (wipe_length _ _) fun v hv => wipe_out hv)
     exact List.getElem?_set_ne (fun z => hv (by rw [← z]; exact hiw))
   · dsimp only [L2.tYes]
     rw [if_pos rfl]
     refine ⟨Ls[j], f, List.getElem_mem hjl, List.getElem?_set_self (by rw [wipe_length, hsl]; exact hil), hLf, ?_⟩
     have go1 := go
     rw [List.drop_eq_getElem_cons (by rw [List.length_map]; exact hjl), List.getElem_map] at go1
     unfold goWs at go1
     refine lam_coreF (B := B.hold D) (W := W) kc hn hj rh ?_
     cases ev : evLam ct Ld (Ls[j].fb) st3 with
     | stuck => rw [ev] at go1; cases go1
     | exc _ _ => rw [ev] at go1; cases go1
     | ok a stc =>
      rw [ev] at go1
      dsimp only at go1
      intro ρ6 H6 s6 y ry fy
      have s7 := s6.trans (Step.eat s6.rel a.2)
      have f1 : ¬ CM ρ6 D := fun z => (s7.cm D z).elim ncD fun e => (by rw [hDl] at e; cases e)
      have f2 : H6 D = some (.lst xs) := s7.fr D _ hDl ncD trivial
      have f3 : RepL B.C ρ6 (Av ρ6 (B.hold D).O (stc.eat a.2) σ) H6 xs acc := RepL.step s7 racc
      have ry' : Rep B.C ρ6 (Av ρ6 (B.hold D).O (stc.eat a.2) σ) H6 y a.1 := ry.eat
      have hxl : xs.length = acc.length := racc.length
      refine ⟨xs, f2, by omega, ?_⟩
      have mvD : ∀ p o, H6 p = some o → ¬ Av ρ6 (B.hold D).O (stc.eat a.2) σ p → NT o → upd H6 D (.lst (xs ++ [y])) p = some o := fun p o e n _ => by
       rw [upd_ne (fun z => n (by subst z; exact .inl (.inr rfl)))]; exact e
      have s8 := Step.unhold s2 s7
      have rel7 := Rel.writeHeld (o := .lst (xs ++ [y])) s7.rel f1 (fun u e => by rw [f2] at e; cases e; trivial)
      have s9 : Step B σ ρ st2 H ρ6 (stc.eat a.2) (upd H6 D (.lst (xs ++ [y]))) := by
       refine ⟨s8.pre, rel7.unhold, fun p o e n nt => ?_, s8.sub, s8.sl, s8.cm, fun p z => ?_⟩
       · rw [upd_ne (fun z => by subst z; rw [hD] at e; cases e)]
         exact s8.fr p o e n nt
       · by_cases hp : p = D
         · subst hp; exact absurd hD z
         · rw [upd_ne hp]; exact s8.dm p z
      refine ⟨ρ6, _, xs ++ [y], acc ++ [a.1], by omega, s9, rel7, f1, upd_same, ?_, by simp; omega, go1⟩
      exact RepL.append (f3.mv (List.prefix_refl _) mvD fun a z => .inl z) (.cons (ry'.mv (List.prefix_refl _) mvD fun a z => .inl z) .nil)
 · refine .inl ⟨⟨_, .inl (.inl hw2), by rw [List.length_map, hLs.len]; omega⟩, ?_⟩
   rw [List.drop_eq_nil_of_le (by rw [List.length_map]; omega)] at go
   simp only [goWs, Option.some.injEq] at go
   subst go
   have nav : ¬ Av ρ2 B.O st3 σ D := fun z => by
    rcases z with z | z | ⟨k, z⟩
    · exact rel2.odom D z hD
    · exact ncD z
    · obtain ⟨d, z1, z2⟩ := z
      obtain ⟨u, e1, _, _, n2, _⟩ := rh.own k d z1
      rw [z2] at e1
      cases e1
      exact n2 (.inr rfl)
   refine res ρ2 H2 (sd.trans s2) (.ref D) ⟨.lst nav hDl (RepL.unhold racc), fun p e _ => ?_⟩ fun p e => ?_
   · cases e
     exact ⟨xs, hDl, racc.mv (List.prefix_refl _) (fun _ _ e _ _ => e) fun a z => .inl (hold_av z)⟩
   · cases e
     exact hD
end
end D
namespace D
open PySem L2 PyProof.Rows LamX
def RSF (F : FctT) (B : BC) (W : WX) (f : Sv) : TS := fun D σ H => ∃ ρ st, F ρ st σ H ∧ Rel B ρ st σ H ∧ SRes B W σ ρ st H (f st) (GS B D)
section
variable {X : Cx} {B : BC} {W : WX} {F : FctT} {a b c e : Expr} {s : Stmt} {rest : List Stmt} {fa fb fc fe : Ev} {pos : Pos} {r : R2} {g : Op2} {f h : Sv} {t : Tv}
theorem RDF.go {σ : L2.St} {ρ : List CellA} {st : DS} {H : Hp} {G : DV × Kd → DS → List CellA → Hp → Prop} {Q : VK} (hf : F ρ st σ H) (rel : Rel B ρ st σ H) (r : Res B W σ ρ st H (fa st) G)
 (h : ∀ a st' ρ' H', Step B σ ρ st H ρ' st' H' → G a st' ρ' H' → ∀ v, RepK B ρ' st' σ H' a.2 v a.1 → Fresh H a.2 v → Q v H') : RDF F B W fa σ H Q := ⟨ρ, st, hf, rel, r.imp h⟩
theorem tOp_ofF (hs : OpS B.C r g) {σ : L2.St} {H : Hp} {Q : VK} (h : RDF F B W (zqk g fa fb) σ H Q) : tOp r (RDF F B W fa) (RD B W fb) σ H Q := by
 obtain ⟨ρ, st, hf, rel, res⟩ := h
 refine RDF.go hf rel (Res.bind res) fun a st1 ρ1 H1 s1 r1 x rx fx => ?_
 refine RD.go s1.rel (Res.bind r1) fun b st2 ρ2 H2 s2 r2 y ry fy => ?_
 cases e : g a.1 b.1 with
 | none => rw [e] at r2; exact r2.elim
 | some c =>
  rw [e] at r2
  exact hs B rfl σ ρ2 st2 H2 a.2 b.2 x y a.1 b.1 c Q s2.rel (RepK.step s2 rx) ry e fun v H' s3 rv fv => r2 _ _ s3 v rv ((fv.dm s2.dm).dm s1.dm)
theorem pdf_cmp {op : CmpOp} (ho : OpR X (compareOp op) r) (hs : OpS B.C r g) (ha : PE X a (RDF F B W fa)) (hb : PD X B W b fb) (hm : behindInMarks op b = false) : PE X (.Compare a [op] [b] pos) (RDF F B W (zqk g fa fb)) :=
 PE.mono (pe_cmpR ho ha hb hm) fun _ _ _ h => tOp_ofF hs h
theorem psf_ret (he : PE X e (RDF F B W fe)) : PS X (.Return (some e) pos) (RSF F B W (zqw fe)) := by
 refine PS.mono (ps_ret he) fun D σ H ⟨ρ, st, hf, rel, r⟩ => ?_
 refine RDF.go hf rel (SRes.ex r) fun a st1 ρ1 H1 s1 r1 v rv fv => ?_
 refine (show ∀ v, RepK B ρ1 st1 σ H1 a.2 v a.1 → (a.2 = .new → ∀ p, v = .ref p → B.H0 p = none) → D.rt v H1 from SRes.now s1.rel r1) v rv fun ek p ev => ?_
 rw [ek] at fv
 exact none_of_dm rel.dom (fv p ev)
theorem pssf_one (h1 : PS X s (RSF F B W f)) : PSs X [s] (RSF F B W f) := pss_one h1
theorem pss_use {q : Str} {i k : Nat} {C : RC} {Ls : List (LamQ X C k)} (h : PSs X rest (RSF (FactW X q i Ls) B W f)) : PSs X rest (RH X q i Ls B W f) := by
 refine PSs.mono h fun D σ H h => ?_
 obtain ⟨ρ, st, w, fs, h1, h2, h3, h4, h5, h6, h7⟩ := rh_rf h
 exact ⟨ρ, st, ⟨w, fs, h3, h4, h5, h6, h7⟩, h2, h1⟩
end
section
variable {X : Cx} {B : BC} {W : WX} {q : Str} {C : RC} {k i iw : Nat} {ct : CT} {Ld : LamD} {N : List Str}
theorem pe_ws {x a w Wn : Str} {g : Addr} {pg : Arguments} {bg : List Stmt} {sg : Scope} {dV kV doc pm cdv cto oc : Value} {an od : Option Addr} {osl : Array (Option Value)} {scope : Scope} {own : List (Str × Nat)} {p pw pt pW cpos pos : Pos} {Ls : List (LamQ X C k)}
 (kc : KitC C ct) (hC : B.C = C) (hn : N.length = Ld.n) (hj : Ld.jc ≠ Ld.je) (hlen : Ls.length ≤ sizeLine) (hc : X.calm = true) (hND : X.N.Nodup) (ok : BlkOk X.N X.env.scope scope own) (hiw : iw ∈ own.map (·.2))
 (hi : PE X (.Name Wn pW) (tVar i)) (hNw : X.N[iw]? = some w)
 (hq : X.env.qual ++ "<lambda>" = q) (hm : X.mg x = some (.ref g)) (hk : PySem.W.keepIn X.K (.ref g) = true)
 (lk : X.K.lookup g = some ⟨oc, od, .func (PySem.W.fnOf x x pg bg sg dV kV doc pm an cdv cto), osl⟩) (hcg : PySem.W.codeIn X.K cdv x = true) (hb : L2.Binds X.K (PySem.W.fnOf x x pg bg sg dV kV doc pm an cdv cto) [a] []) (Sg : FnScope N [a] sg) (hN : N[0]? = some a) (hva : Vis sg a)
 (hG : Gets X (k + 1) N x sg g cdv bg a q (TTL C Ld N)) (hr : Room (k + 2) X.A)
 (hdb : (x == ("__debug__" : Str)) = false) (hd : (a == ("__debug__" : Str)) = false) (hcd : (a == ("__classdict__" : Str)) = false) (hdw : (w == ("__debug__" : Str)) = false) (hcw : (w == ("__classdict__" : Str)) = false)
 (hloc : ∀ (s : Shared) (H : Hp) (Ca : Addr) (cl : List (Str × Addr)) (fp : List Addr), Loc (X.blk s H scope (compEnvC scope cl Ca X.env) fp).env.scope w)
 (hfn : ∀ (s : Shared) (H : Hp) (Ca : Addr) (cl : List (Str × Addr)) (fp : List Addr), (X.blk s H scope (compEnvC scope cl Ca X.env) fp).fn w = true ∨ (X.blk s H scope (compEnvC scope cl Ca X.env) fp).env.scope.names.lookup w = some .local)
 (hgl : ∀ (s : Shared) (H : Hp) (Ca : Addr) (cl : List (Str × Addr)) (fp : List Addr), Gl (X.blk s H scope (compEnvC scope cl Ca X.env) fp) x)
 (hst : ∀ (Ca : Addr) (cl : List (Str × Addr)), starEach [Expr.Name w pw] (compEnvC scope cl Ca X.env) = (false, eval (.Name w pw) (compEnvC scope cl Ca X.env)) :: starEach [] (compEnvC scope cl Ca X.env))
 (hs : ∀ x, foldedSetIterable (.Name Wn pW) X.env x = pure x) :
 PE X (.ListComp (.Call (.Name x p) [.Name w pw] [] cpos) [⟨.Name w pt, .Name Wn pW, [], 0⟩] scope pos) (RDF (FactW X q i Ls) B W (evWs (own.map (·.2)) ct Ld (Ls.map (·.fb)))) := by
 have base := pe_lcO (X := X) (elt := .Call (.Name x p) [.Name w pw] [] cpos) (tg := .Name w pt) (iter := .Name Wn pW) (ifs := []) (scope := scope) (own := own) (pos := pos) (wi := iAny X.K (tVar i)) (g := fun _ => gName iw) (tt := fun _ => L2.tYes) (te := tWork X q Ld N iw (fun L => L ∈ Ls)) hc hND (pi_any hi) ok
  (fun pins σ s0 H0 Ca cl fp I0 f0 => ⟨pg_name hND hNw (hloc s0 H0 Ca cl fp) (hfn s0 H0 Ca cl fp), pts_nil, pe_work I0 f0 hq (hgl s0 H0 Ca cl fp) hm hk lk hcg hb Sg hN hva hG hr hdb hd hcd hNw ((hloc s0 H0 Ca cl fp).elim Or.inl fun z => .inr (.inl z)) hdw hcw (hst Ca cl)⟩) hs
 refine ⟨fun pins s σ H Q I h => base.run pins s σ H Q I ?_⟩
 exact tLc_ws kc hC hn hj hiw (List.getElem?_eq_some_iff.mp hNw).1 I.len hlen h
end
end D
namespace D
open PySem L2 PyProof.Rows LamX
section
variable {X : Cx} {B : BC} {W : WX} {σ : L2.St} {H : Hp} {q : Str} {C : RC} {k i iw : Nat} {vs : List Nat} {ct : CT} {Ld : LamD} {N : List Str}
end
def RHf (X : Cx) (q : Str) (i : Nat) (C : RC) (k : Nat) (fes : List Ev) (B : BC) (W : WX) (g : Sv) : TS := fun D σ H => ∃ Ls : List (LamQ X C k), Ls.map (·.fb) = fes ∧ RH X q i Ls B W g D σ H
def FctW (X : Cx) (q : Str) (i : Nat) (C : RC) (k : Nat) (fes : List Ev) : FctT := fun ρ st σ H => ∃ Ls : List (LamQ X C k), Ls.map (·.fb) = fes ∧ FactW X q i Ls ρ st σ H
section
variable {X : Cx} {C : RC} {O : Addr → Prop} {H0 : Hp} {W : WX} {k i : Nat} {a b c e : Expr} {rest : List Stmt} {fa fb fe : Ev} {fes : List Ev} {f g : Sv} {t : Tv} {x n w Wn q : Str} {kk : Nat} {pos p : Pos} {ct : CT}
theorem lamQ_of {params : Arguments} {scope : Scope} (l : Nat) (fx : Fx X C W kk)
 (hbody : ∀ (A : Around) (outer : List Env) (s : Shared) (H : Hp) (E : XK) (f c' : Addr), Fx (lamCx X A outer s H E scope f c') C (fun cls d _ H' => E cls d H') l → ∀ O H0, PD (lamCx X A outer s H E scope f c') ⟨C, O, H0⟩ (fun cls d _ H' => E cls d H') e fe)
 (S : lamSB X.env.scope scope = true) (hdef : defaultsOf params X.env = ([], []))
 (hbind : ∀ (q : Str) (cl : List (Str × Addr)) (pm cv ctv : Value), bindArgs (PySem.W.kla_fn "<lambda>" q params e scope cl pm cv ctv) ⟨[], []⟩ = pure []) : ∃ L : LamQ X C l, L.params = params ∧ L.body = e ∧ L.scope = scope ∧ L.fb = fe :=
 ⟨⟨params, e, scope, fe, lamS_by S, hdef, hbind, fun A outer s H E f c' hr hgu B' hB => by
  cases B' with
  | mk C' O' H' =>
   have hB : C' = C := hB
   subst hB
   exact hbody A outer s H E f c' ⟨fx.K, rfl, hr, by rw [← fx.gu, ← hgu]; rfl, takes_of rfl rfl rfl rfl⟩ O' H'⟩, rfl, rfl, rfl, rfl⟩
theorem ws_w0 {params : Arguments} {scope : Scope} {cc P : Addr} {pos' lpos llpos : Pos} (i l : Nat) (fx : Fx X C W kk) (hN : X.N.Nodup) (TB : TabB X.base X.mg cc P) (hcode : X.env.code = .ref cc) (hmT : (P, q) ∈ C.T) (hu : ∀ p ∈ C.T, p.1 = P → p.2 = q)
 (hbody : ∀ (A : Around) (outer : List Env) (s : Shared) (H : Hp) (E : XK) (f c' : Addr), Fx (lamCx X A outer s H E scope f c') C (fun cls d _ H' => E cls d H') l → ∀ O H0, PD (lamCx X A outer s H E scope f c') ⟨C, O, H0⟩ (fun cls d _ H' => E cls d H') e fe)
 (hr : PSs X rest (RHf X q i C l [fe] ⟨C, O, H0⟩ W g))
 (hq : X.env.qual ++ "<lambda>" = q := by rfl) (hi : X.N[i]? = some x := by rfl) (hx : Loc X.env.scope x := by first | exact Or.inl rfl | exact Or.inr rfl) (hf : X.fn x = true ∨ X.env.scope.names.lookup x = some .local := by first | exact .inr rfl | exact .inl rfl)
 (hst : starEach [Expr.Lambda params e scope lpos] X.env = (false, eval (.Lambda params e scope lpos) X.env) :: starEach [] X.env := by rfl) (hs : swapsWith (.List [.Lambda params e scope lpos] llpos) (some (.Name x pos')) pos.line X.env = pure false := by rfl)
 (S : lamSB X.env.scope scope = true := by rfl) (hdef : defaultsOf params X.env = ([], []) := by rfl)
 (hbind : ∀ (q : Str) (cl : List (Str × Addr)) (pm cv ctv : Value), bindArgs (PySem.W.kla_fn "<lambda>" q params e scope cl pm cv ctv) ⟨[], []⟩ = pure [] := by intros; rfl) :
 PSsD X ⟨C, O, H0⟩ W (.Assign [.Name x pos'] (.List [.Lambda params e scope lpos] llpos) pos :: rest) (svW0 i g) := by
 obtain ⟨L, rfl, rfl, rfl, rfl⟩ := lamQ_of l fx hbody S hdef hbind
 exact pssd_w0 (ctx := 0) (B := ⟨C, O, H0⟩) (L := L) rfl hq TB hcode hmT hu hN hi hx hst hs hf (PSs.mono hr fun D σ H z => ⟨[L], rfl, z⟩)
theorem ws_wA {params : Arguments} {scope : Scope} {cc P : Addr} {p1 apos cpos lpos : Pos} (fx : Fx X C W kk) (TB : TabB X.base X.mg cc P) (hcode : X.env.code = .ref cc) (hmT : (P, q) ∈ C.T) (hu : ∀ p ∈ C.T, p.1 = P → p.2 = q)
 (hbody : ∀ (A : Around) (outer : List Env) (s : Shared) (H : Hp) (E : XK) (f c' : Addr), Fx (lamCx X A outer s H E scope f c') C (fun cls d _ H' => E cls d H') k → ∀ O H0, PD (lamCx X A outer s H E scope f c') ⟨C, O, H0⟩ (fun cls d _ H' => E cls d H') e fe)
 (hr : PSs X rest (RHf X q i C k (fes ++ [fe]) ⟨C, O, H0⟩ W g))
 (hq : X.env.qual ++ "<lambda>" = q := by rfl) (hi : X.N[i]? = some x := by rfl) (hv : Vis X.env.scope x := by first | exact Or.inl rfl | exact Or.inr (Or.inl rfl) | exact Or.inr (Or.inr rfl)) (hd : (x == ("__debug__" : Str)) = false := by decide) (hcd : (x == ("__classdict__" : Str)) = false := by decide)
 (hlen : fes.length < sizeLine := by decide) (hbase : attributeBase (.Name x p1) "append" X.env (eval (.Name x p1) X.env) = eval (.Name x p1) X.env := by rfl)
 (hfew : ((backTo cpos (starEach [Expr.Lambda params e scope lpos] X.env)).all (fun x => !x.1) && (backToKw cpos (keywordEach [] X.env)).all (fun x => x.1.isSome) && decide (([Expr.Lambda params e scope lpos] : List Expr).length + ([] : List Keyword).length + (if ([] : List Keyword).isEmpty then 0 else 1) < 30)) = true := by rfl)
 (hline : (apos.endLine == cpos.line) = true := by rfl) (hst : starEach [Expr.Lambda params e scope lpos] X.env = (false, eval (.Lambda params e scope lpos) X.env) :: starEach [] X.env := by rfl) (hplain : (backTo cpos (starEach [] X.env)).any (·.1) = false := by rfl)
 (hs : swapsWith (.Call (.Attribute (.Name x p1) "append" apos) [.Lambda params e scope lpos] [] cpos) none pos.line X.env = pure false := by rfl)
 (S : lamSB X.env.scope scope = true := by rfl) (hdef : defaultsOf params X.env = ([], []) := by rfl)
 (hbind : ∀ (q : Str) (cl : List (Str × Addr)) (pm cv ctv : Value), bindArgs (PySem.W.kla_fn "<lambda>" q params e scope cl pm cv ctv) ⟨[], []⟩ = pure [] := by intros; rfl) :
 PSs X (.Expr (.Call (.Attribute (.Name x p1) "append" apos) [.Lambda params e scope lpos] [] cpos) pos :: rest) (RHf X q i C k fes ⟨C, O, H0⟩ W g) := by
 obtain ⟨L, rfl, rfl, rfl, rfl⟩ := lamQ_of k fx hbody S hdef hbind
 refine ⟨fun pins s σ H D I ⟨Ls, e1, h⟩ => ?_⟩
 have hl : Ls.length < sizeLine := by rw [← List.length_map (f := fun (L : LamQ X C k) => L.fb), e1]; exact hlen
 refine (pss_wApp (B := ⟨C, O, H0⟩) (Ls := Ls) (L := L) rfl fx.K hq TB hcode hmT hu (pe_var hi hv hd hcd) hl hbase hfew hline hst hplain hs (PSs.mono hr fun D σ H z => ⟨Ls ++ [L], by rw [List.map_append, e1]; rfl, z⟩)).run pins s σ H D I h
theorem ws_wU (h : PSs X rest (RSF (FctW X q i C k fes) ⟨C, O, H0⟩ W f)) : PSs X rest (RHf X q i C k fes ⟨C, O, H0⟩ W f) := by
 refine ⟨fun pins s σ H D I ⟨Ls, e1, hh⟩ => ?_⟩
 refine (pss_use (Ls := Ls) (PSs.mono h fun D σ H z => ?_)).run pins s σ H D I hh
 obtain ⟨ρ, st, z1, z2, z3⟩ := z
 exact ⟨ρ, st, ⟨Ls, e1, z1⟩, z2, z3⟩
end
end D
namespace D
open PySem L2 PyProof.Rows LamX
section
variable {X : Cx} {C : RC} {O : Addr → Prop} {H0 : Hp} {W : WX} {k i : Nat} {a b c e : Expr} {rest : List Stmt} {fa fb fe : Ev} {fes : List Ev} {f g h : Sv} {t : Tv} {x n w Wn q : Str} {kk : Nat} {pos : Pos} {ct : CT} {F : FctT}
theorem wf_cmp (fx : Fx X C W k) (op : CmpOp) (ha : PE X a (RDF F ⟨C, O, H0⟩ W fa)) (hb : PD X ⟨C, O, H0⟩ W b fb) (hm : behindInMarks op b = false := by rfl) : PE X (.Compare a [op] [b] pos) (RDF F ⟨C, O, H0⟩ W (zqk (dCmp op) fa fb)) := by
 obtain ⟨r, h1, h2⟩ := op_cmp (B := ⟨C, O, H0⟩) fx.K fx.hu op
 exact pdf_cmp (B := ⟨C, O, H0⟩) h1 h2 ha hb hm
theorem wsf_ret (he : PE X e (RDF F ⟨C, O, H0⟩ W fe)) : PSs X [.Return (some e) pos] (RSF F ⟨C, O, H0⟩ W (zqw fe)) := pssf_one (psf_ret (B := ⟨C, O, H0⟩) he)
theorem w_ws {L : LamD} {st : Stmt} {gg : Addr} {fd : FuncData} {N : List Str} {scope : Scope} {p pw pt pW cpos : Pos} (iw : Nat) (l : Nat) (fx : Fx X C W kk) (hND : X.N.Nodup) (kc : KitC C ct) (Fn : Fun X.K x x st gg fd) (hm : X.mg x = some (.ref gg)) (hb : L2.Binds X.K fd [n] []) (Sg : FnScope N [n] (defScope st)) (hn : N.length = L.n)
 (hG : ∀ cdv, Gets X (l + 1) N x (defScope st) gg cdv (defBody st) n q (TTL C L N)) (ok : BlkOk X.N X.env.scope scope [(w, iw)])
 (hq : X.env.qual ++ "<lambda>" = q := by rfl) (hl : l + 2 ≤ kk := by decide) (hj : L.jc ≠ L.je := by decide) (hlen : fes.length ≤ sizeLine := by decide) (hi : X.N[i]? = some Wn := by rfl) (hv : Vis X.env.scope Wn := by first | exact Or.inl rfl | exact Or.inr (Or.inl rfl) | exact Or.inr (Or.inr rfl))
 (hNw : X.N[iw]? = some w := by rfl) (hN : N[0]? = some n := by rfl) (hva : Vis (defScope st) n := by first | exact Or.inl rfl | exact Or.inr (Or.inl rfl))
 (hdb : (x == ("__debug__" : Str)) = false := by decide) (hd : (n == ("__debug__" : Str)) = false := by decide) (hcd : (n == ("__classdict__" : Str)) = false := by decide) (hdw : (w == ("__debug__" : Str)) = false := by decide) (hcw : (w == ("__classdict__" : Str)) = false := by decide) (hdW : (Wn == ("__debug__" : Str)) = false := by decide) (hcW : (Wn == ("__classdict__" : Str)) = false := by decide)
 (hloc : ∀ (s : Shared) (H : Hp) (Ca : Addr) (cl : List (Str × Addr)) (fp : List Addr), Loc (X.blk s H scope (compEnvC scope cl Ca X.env) fp).env.scope w := by first | exact fun _ _ _ _ _ => Or.inl rfl | exact fun _ _ _ _ _ => Or.inr rfl)
 (hfn : ∀ (s : Shared) (H : Hp) (Ca : Addr) (cl : List (Str × Addr)) (fp : List Addr), (X.blk s H scope (compEnvC scope cl Ca X.env) fp).fn w = true ∨ (X.blk s H scope (compEnvC scope cl Ca X.env) fp).env.scope.names.lookup w = some .local := by first | exact fun _ _ _ _ _ => Or.inr rfl | exact fun _ _ _ _ _ => Or.inl rfl)
 (hgl : ∀ (s : Shared) (H : Hp) (Ca : Addr) (cl : List (Str × Addr)) (fp : List Addr), Gl (X.blk s H scope (compEnvC scope cl Ca X.env) fp) x := by exact fun _ _ _ _ _ => rfl)
 (hst : ∀ (Ca : Addr) (cl : List (Str × Addr)), starEach [Expr.Name w pw] (compEnvC scope cl Ca X.env) = (false, eval (.Name w pw) (compEnvC scope cl Ca X.env)) :: starEach [] (compEnvC scope cl Ca X.env) := by exact fun _ _ => rfl)
 (hs : ∀ x, foldedSetIterable (.Name Wn pW) X.env x = pure x := by intro _; rfl) :
 PE X (.ListComp (.Call (.Name x p) [.Name w pw] [] cpos) [⟨.Name w pt, .Name Wn pW, [], 0⟩] scope pos) (RDF (FctW X q i C l fes) ⟨C, O, H0⟩ W (evWs [iw] ct L fes)) := by
 obtain ⟨oc, od, kV, doc, pm, an, cdv, cto, osl, rfl, lk, hcd2⟩ := Fn.ex
 refine ⟨fun pins s σ H Q I h => ?_⟩
 obtain ⟨ρ, st', ⟨Ls, e1, hf⟩, rel, res⟩ := h
 have hl2 : Ls.length ≤ sizeLine := by rw [← List.length_map (f := fun (L : LamQ X C l) => L.fb), e1]; exact hlen
 refine (pe_ws (B := ⟨C, O, H0⟩) (W := W) (own := [(w, iw)]) (iw := iw) (Ls := Ls) kc rfl hn hj hl2 fx.calm hND ok (by simp) (pe_var hi hv hdW hcW) hNw hq hm Fn.kp lk hcd2 hb Sg hN hva (hG cdv) (fx.room.mono hl) hdb hd hcd hdw hcw hloc hfn hgl hst hs).run pins s σ H Q I ?_
 rw [e1]
 exact ⟨ρ, st', hf, rel, res⟩
end
end D
namespace D
open PySem L2 PyProof.Rows
section
variable {C : CT} {L : LamD} {fb fe : Ev} {r fs : List Ev} {acc : List DV} {st : DS} {sl : List Slot} {cs : List CellC} {k : KS} {E : EK} {i : Nat} {vs : List Nat}
theorem x_w0 {g : Sv} (hc : cs.all liveC = true) (hi : i < sl.length) (h : XS (g ⟨sl.set i (some (.opq, false)), cs⟩) k E) : XS (svW0 i g ⟨sl, cs⟩) k E := by
 have e : svW0 i g ⟨sl, cs⟩ = g ⟨sl.set i (some (.opq, false)), cs⟩ := by
  unfold svW0
  exact if_pos ⟨hc, hi⟩
 rw [e]
 exact h
theorem x_goWs {q : List DV → DS → Prop} (h : XE (evLam C L fb st) (fun a kd st1 => XL (goWs C L r (acc ++ [a]) (st1.eat kd)) q) noX) : XL (goWs C L (fb :: r) acc st) q := by
 with_unfolding_all
  unfold goWs
  have h : W (evLam C L fb st) (fun a st1 => WL (goWs C L r (acc ++ [a.1]) (st1.eat a.2)) q) noX := h
  show WL _ q
  revert h
  cases evLam C L fb st with
  | ok a st1 => exact fun h => h
  | exc x st1 => exact fun h => h.elim
  | stuck => exact fun h => h.elim
theorem x_goWs0 {q : List DV → DS → Prop} (h : q acc st) : XL (goWs C L [] acc st) q := by with_unfolding_all exact h
theorem x_ws {q : QE} (h : XL (goWs C L fs [] (st.dropAll vs)) (fun ds st1 => q (.lst ds) .new st1)) : XE (evWs vs C L fs st) q E := by
 with_unfolding_all
  unfold evWs
  have h : WL (goWs C L fs [] (st.dropAll vs)) (fun ds st1 => q (.lst ds) .new st1) := h
  show WE' _ q E
  revert h
  cases goWs C L fs [] (st.dropAll vs) with
  | some r => exact fun h => h
  | none => exact fun h => h.elim
end
section
variable {X : Cx} {C : RC} {O : Addr → Prop} {H0 : Hp} {W : WX} {k i : Nat} {e : Expr} {rest : List Stmt} {fe : Ev} {fes : List Ev} {g : Sv} {x q : Str} {pos p : Pos}
end
end D
namespace D
open PySem L2 PyProof.Rows
section
variable {X : Cx} {C : RC} {O : Addr → Prop} {H0 : Hp} {W : WX} {k : Nat} {e : Expr} {fe : Ev} {p pos : Pos}
end
end D
namespace D
open PySem L2 PyProof.Rows LamX
section
variable {X : Cx} {B : BC} {C : RC} {O : Addr → Prop} {H0 : Hp} {W : WX} {F : FctT} {a b : Expr} {rest : List Expr} {fa fb : Ev} {pos : Pos} {k : Nat}
end
end D
namespace GQ
open PySem PySem.SeqAt PySem.Spec
open MeetsSeq MeetsSeq2 MeetsSeq3 SeqRoads2
section
variable {prog : Program} {w : World} {A : Around} {R : Result → Shared → Prop}
end
section
variable {prog : Program} {w : World} {A : Around} {E : Value → Shared → Prop} {s : Shared}
end
end GQ
namespace D
open PySem L2 PyProof.Rows
section
variable {X : Cx} {C : RC} {ct : CT} {k : Nat} {L : PTab}
end
section
variable {C : RC} {ρ : List CellA} {A : Addr → Prop} {H : Hp}
end
section
variable {X : Cx} {C : RC} {ct : CT} {k : Nat} {L : PTab}
end
section
variable {X : Cx} {C : RC} {O : Addr → Prop} {H0 : Hp} {W : WX} {k : Nat} {a b : Expr} {fa fb : Ev} {pos : Pos} {ct : CT}
end
end D
namespace D
open PySem L2 PyProof.Rows
def newI (a : DV × Kd) (st : DS) : Option (List Int) := match a with
 | (.lst ds, .new) => if st.cs.all isDraw then intsD ds else none
 | _ => none
def svH3 (i : Nat) (f1 f2 f3 : Ev) (g : List Int → List Int → List Int → Sv) : Sv := fun st =>
 (f1 st).bind fun a1 st1 => match newI a1 st1 with
 | none => .stuck
 | some n1 => (f2 st1).bind fun a2 st2 => match newI a2 st2 with
  | none => .stuck
  | some n2 => (f3 st2).bind fun a3 st3 => match newI a3 st3 with
   | none => .stuck
   | some n3 => if i < st3.sl.length then g n1 n2 n3 ⟨st3.sl.set i (some (.opq, false)), st3.cs⟩ else .stuck
abbrev B4 (B : BC) (p1 p2 p3 w : Addr) : BC := (((B.hold p1).hold p2).hold p3).hold w
structure HF (i : Nat) (n1 n2 n3 : List Int) (p1 p2 p3 w : Addr) (ρ : List CellA) (σ : L2.St) (H : Hp) : Prop where
 sw : σ[i]? = some (some (.ref w))
 hw : H w = some (.lst [.ref p1, .ref p2, .ref p3])
 h1 : H p1 = some (.lst (n1.map V.int))
 h2 : H p2 = some (.lst (n2.map V.int))
 h3 : H p3 = some (.lst (n3.map V.int))
 c1 : ¬ CM ρ p1
 c2 : ¬ CM ρ p2
 c3 : ¬ CM ρ p3
 cw : ¬ CM ρ w
def RC4 (i : Nat) (n1 n2 n3 : List Int) (B : BC) (W : WX) (g : Sv) : TS := fun D σ H => ∃ (σ0 : L2.St) (ρ0 : List CellA) (st0 : DS) (H0 : Hp) (ρ : List CellA) (st : DS) (p1 p2 p3 w : Addr),
 SRes B W σ0 ρ0 st0 H0 (g st) (GS B D) ∧ SStep B σ0 ρ0 st0 H0 σ ρ st H ∧ (H0 p1 = none ∧ H0 p2 = none ∧ H0 p3 = none ∧ H0 w = none) ∧ (¬ B.O p1 ∧ ¬ B.O p2 ∧ ¬ B.O p3 ∧ ¬ B.O w) ∧ Rel (B4 B p1 p2 p3 w) ρ st σ H ∧ st.cs.all isDraw = true ∧ HF i n1 n2 n3 p1 p2 p3 w ρ σ H
section
variable {X : Cx} {B : BC} {W : WX} {C : RC} {σ : L2.St} {ρ ρ1 : List CellA} {st st1 : DS} {H H1 : Hp}
theorem intsD_inv : ∀ {ds : List DV} {ns : List Int}, intsD ds = some ns → ds = ns.map DV.int
 | [], ns, h => by cases h; rfl
 | d :: ds, ns, h => by
  cases d <;> try (cases h; done)
  rename_i b
  have h : (intsD ds).map (b :: ·) = some ns := h
  cases hq : intsD ds with
  | none => rw [hq] at h; cases h
  | some ms =>
   rw [hq] at h
   cases h
   rw [intsD_inv hq]
   rfl
theorem newI_some {a : DV × Kd} {st : DS} {ns : List Int} (h : newI a st = some ns) : a = (.lst (ns.map DV.int), .new) ∧ st.cs.all isDraw = true := by
 unfold newI at h
 split at h
 · rename_i ds
   split at h
   · rename_i hd
     refine ⟨?_, hd⟩
     rw [intsD_inv h]
   · cases h
 · cases h
theorem reps_ints {A : Addr → Prop} : ∀ {ns : List Int} {xs : List V}, RepL C ρ A H xs (ns.map DV.int) → xs = ns.map V.int
 | [], _, h => by cases h; rfl
 | n :: ns, _, h => by
  cases h with
  | cons r l =>
   cases r
   rw [reps_ints l]
   rfl
theorem hold_new {ns : List Int} {kd : Kd} {d : DV} {v : V} (rel : Rel B ρ st σ H) (s1 : Step B σ ρ st H ρ1 st1 H1) (hn : newI (d, kd) st1 = some ns) (rv : RepK B ρ1 st1 σ H1 kd v d) (fv : Fresh H kd v) :
 ∃ p, v = .ref p ∧ H p = none ∧ H1 p = some (.lst (ns.map V.int)) ∧ ¬ CM ρ1 p ∧ Rel (B.hold p) ρ1 st1 σ H1 := by
 obtain ⟨e, hd⟩ := newI_some hn
 cases e
 obtain ⟨p, rfl⟩ := Rep.ref_of_cont (d := .lst (ns.map DV.int)) rfl rv.1
 have hp := fv p rfl
 have r1 := rv.1
 cases r1 with
 | lst na e q =>
  have := reps_ints q
  subst this
  exact ⟨p, rfl, hp, e, fun z => na (.cm z), Rel.hold rel s1 hd hp (by rw [e]; exact fun z => nomatch z)⟩
theorem SRes.exA {α : Type} {B1 : BC} {σ0 : L2.St} {ρ0 : List CellA} {st0 : DS} {H0 : Hp} {o : Out α} {k : α → DS → Out Fl} {G : SG} (cv : ∀ ρ' st' H', Step B1 σ ρ st H ρ' st' H' → SStep B σ0 ρ0 st0 H0 σ ρ' st' H') (uh : ∀ ρ' st' H' x cls d, XRep B1 ρ' st' σ H' x cls d → XRep B ρ' st' σ H' x cls d)
 (r : SRes B W σ0 ρ0 st0 H0 (o.bind k) G) : Res B1 W σ ρ st H o fun a st1 _ _ => SRes B W σ0 ρ0 st0 H0 (k a st1) G := by
 cases o with
 | ok a st1 => exact fun _ _ _ => r
 | exc x st' => exact fun ρ' H' cls d s q => r σ ρ' H' cls d (cv _ _ _ s) (uh _ _ _ _ _ _ q)
 | stuck => exact r
theorem pssd_h3 {i : Nat} {x : Str} {e1 e2 e3 : Expr} {pos pos' lpos : Pos} {f1 f2 f3 : Ev} {rest : List Stmt} {g : List Int → List Int → List Int → Sv} (hN : X.N.Nodup) (hi : X.N[i]? = some x) (hx : Loc X.env.scope x)
 (h1 : ∀ B', B'.C = B.C → PD X B' W e1 f1) (h2 : ∀ B', B'.C = B.C → PD X B' W e2 f2) (h3 : ∀ B', B'.C = B.C → PD X B' W e3 f3)
 (hs1 : starEach [e1, e2, e3] X.env = (false, eval e1 X.env) :: starEach [e2, e3] X.env) (hs2 : starEach [e2, e3] X.env = (false, eval e2 X.env) :: starEach [e3] X.env) (hs3 : starEach [e3] X.env = (false, eval e3 X.env) :: starEach [] X.env)
 (hs : swapsWith (.List [e1, e2, e3] lpos) (some (.Name x pos')) pos.line X.env = pure false) (hf : X.fn x = true ∨ X.env.scope.names.lookup x = some .local)
 (hr : ∀ n1 n2 n3, PSs X rest (RC4 i n1 n2 n3 B W (g n1 n2 n3))) : PSsD X B W (.Assign [.Name x pos'] (.List [e1, e2, e3] lpos) pos :: rest) (svH3 i f1 f2 f3 g) := by
 have hr' : PSs X rest (fun D σ H => ∃ n1 n2 n3, RC4 i n1 n2 n3 B W (g n1 n2 n3) D σ H) := ⟨fun pins s σ H D I ⟨n1, n2, n3, h⟩ => (hr n1 n2 n3).run pins s σ H D I h⟩
 refine PSs.mono (pss_cons (ps_set hN hi hx (pe_lst (pa_cons (pdx h1) (pa_cons (pdx h2) (pa_cons (pdx h3) pa_nil hs3) hs2) hs1)) hs hf) hr') fun D σ H ⟨ρ, st, rel, r⟩ => ?_
 unfold svH3 at r
 refine ⟨B, rfl, RD.go rel (SRes.ex0 r) fun a1 st1 ρ1 H1 s1 r1 v1 rv1 fv1 => ?_⟩
 obtain ⟨d1, k1⟩ := a1
 cases e1 : newI (d1, k1) st1 with
 | none => simp only [e1] at r1; exact r1.elim
 | some n1 =>
  simp only [e1] at r1
  obtain ⟨p1, rfl, hp1, hh1, c1, rel1⟩ := hold_new rel s1 e1 rv1 fv1
  refine ⟨B.hold p1, rfl, RD.go rel1 (SRes.exA (fun _ _ _ s => .of (Step.unhold s1 s)) (fun _ _ _ _ _ _ q => q.unhold) r1) fun a2 st2 ρ2 H2 s2 r2 v2 rv2 fv2 => ?_⟩
  obtain ⟨d2, k2⟩ := a2
  cases e2 : newI (d2, k2) st2 with
  | none => simp only [e2] at r2; exact r2.elim
  | some n2 =>
   simp only [e2] at r2
   obtain ⟨p2, rfl, hp2, hh2, c2, rel2⟩ := hold_new rel1 s2 e2 rv2 fv2
   have s2' := Step.unhold s1 s2
   refine ⟨(B.hold p1).hold p2, rfl, RD.go rel2 (SRes.exA (fun _ _ _ s => .of (Step.unhold s1 (Step.unhold s2 s))) (fun _ _ _ _ _ _ q => q.unhold.unhold) r2) fun a3 st3 ρ3 H3 s3 r3 v3 rv3 fv3 => ?_⟩
   obtain ⟨d3, k3⟩ := a3
   cases e3 : newI (d3, k3) st3 with
   | none => simp only [e3] at r3; exact r3.elim
   | some n3 =>
    simp only [e3] at r3
    obtain ⟨p3, rfl, hp3, hh3, c3, rel3⟩ := hold_new rel2 s3 e3 rv3 fv3
    have s3' := Step.unhold s1 (Step.unhold s2 s3)
    refine ⟨by show 3 ≤ sizeLine; decide, fun w hw => ?_⟩
    have n1' : ¬ CM ρ2 p1 := fun z => (s2.cm p1 z).elim c1 fun q => by rw [hh1] at q; cases q
    have k1' : H2 p1 = some (.lst (n1.map V.int)) := s2.fr p1 _ hh1 c1 trivial
    have n1'' : ¬ CM ρ3 p1 := fun z => (s3.cm p1 z).elim n1' fun q => by rw [k1'] at q; cases q
    have k1'' : H3 p1 = some (.lst (n1.map V.int)) := s3.fr p1 _ k1' n1' trivial
    have n2'' : ¬ CM ρ3 p2 := fun z => (s3.cm p2 z).elim c2 fun q => by rw [hh2] at q; cases q
    have k2'' : H3 p2 = some (.lst (n2.map V.int)) := s3.fr p2 _ hh2 c2 trivial
    have hd := (newI_some e3).2
    split at r3
    case isFalse => exact r3.elim
    rename_i hlt
    have t0 := s3'.trans (Step.alloc (o := .lst [V.ref p1, V.ref p2, V.ref p3]) s3'.rel hw)
    have relW := Rel.holdA (o := .lst [V.ref p1, V.ref p2, V.ref p3]) rel3 hw
    have s5 := SStep.putF (i := i) relW (Rep.opq w)
    have s6 := (SStep.of t0).trans (SStep.putF (i := i) t0.rel (Rep.opq w))
    have np : ∀ p, H3 p ≠ none → upd H3 w (.lst [V.ref p1, V.ref p2, V.ref p3]) p = H3 p := fun p hp => upd_ne (fun z => by rw [z] at hp; exact hp hw)
    have q2 : H p2 = none := none_of_dm s1.dm hp2
    have q3 : H p3 = none := none_of_dm s2'.dm hp3
    have qw : H w = none := none_of_dm s3'.dm hw
    refine ⟨n1, n2, n3, σ, ρ, st, H, ρ3, _, p1, p2, p3, w, r3, s6, ⟨hp1, q2, q3, qw⟩, ⟨fun z => rel.odom _ z hp1, fun z => rel.odom _ z q2, fun z => rel.odom _ z q3, fun z => rel.odom _ z qw⟩, s5.rel, hd, ?_, upd_same, ?_, ?_, ?_, n1'', n2'', c3, fun z => rel3.cdom w z hw⟩
    · exact List.getElem?_set_self (by rw [← rel3.len]; exact hlt)
    · rw [np p1 (by rw [k1'']; exact fun z => nomatch z)]; exact k1''
    · rw [np p2 (by rw [k2'']; exact fun z => nomatch z)]; exact k2''
    · rw [np p3 (by rw [hh3]; exact fun z => nomatch z)]; exact hh3
theorem SStep.unhold4 {σ0 : L2.St} {ρ0 : List CellA} {st0 : DS} {H0 : Hp} {p1 p2 p3 w : Addr} {σ1 : L2.St} (s0 : SStep B σ0 ρ0 st0 H0 σ ρ st H) (hp : H0 p1 = none ∧ H0 p2 = none ∧ H0 p3 = none ∧ H0 w = none) (s : SStep (B4 B p1 p2 p3 w) σ ρ st H σ1 ρ1 st1 H1) : SStep B σ0 ρ0 st0 H0 σ1 ρ1 st1 H1 where
 pre := s0.pre.trans s.pre
 rel := s.rel.unhold.unhold.unhold.unhold
 fr := fun p o e n no nt => s.fr p o (s0.fr p o e n no nt) (fun z => (s0.cm p z).elim n fun q => by rw [e] at q; cases q) (fun i ow => by
  obtain ⟨d, h1, h2⟩ := id ow
  obtain ⟨q, e1, _, n1, n2, _⟩ := s0.rel.own i d h1
  rw [h2] at e1
  cases e1
  rcases s0.av p (.inr (.inr ⟨i, ow⟩)) with (z | z | ⟨j, z⟩) | z
  · exact n2 z
  · exact n z
  · exact no j z
  · rw [e] at z; cases z) nt
 av := fun a z => by
  have z4 : Av ρ1 (B4 B p1 p2 p3 w).O st1 σ1 a := hold_av (.inl (hold_av (.inl (hold_av (.inl (hold_av (.inl z)))))))
  rcases s.av a z4 with y | y
  · rcases av_hold y with y | rfl
    · rcases av_hold y with y | rfl
      · rcases av_hold y with y | rfl
        · rcases av_hold y with y | rfl
          · exact s0.av a y
          · exact .inr hp.1
        · exact .inr hp.2.1
      · exact .inr hp.2.2.1
    · exact .inr hp.2.2.2
  · exact .inr (none_of_dm s0.dm y)
 cm := fun a z => (s.cm a z).elim (s0.cm a) fun q => .inr (none_of_dm s0.dm q)
 dm := fun a z => s.dm a (s0.dm a z)
theorem HF.step {i : Nat} {n1 n2 n3 : List Int} {p1 p2 p3 w : Addr} (h : HF i n1 n2 n3 p1 p2 p3 w ρ σ H) {B' : BC} (s : Step B' σ ρ st H ρ1 st1 H1) : HF i n1 n2 n3 p1 p2 p3 w ρ1 σ H1 := by
 have nc : ∀ p o, H p = some o → ¬ CM ρ p → ¬ CM ρ1 p := fun p o e n z => (s.cm p z).elim n fun q => by rw [e] at q; cases q
 exact ⟨h.sw, s.fr w _ h.hw h.cw trivial, s.fr p1 _ h.h1 h.c1 trivial, s.fr p2 _ h.h2 h.c2 trivial, s.fr p3 _ h.h3 h.c3 trivial, nc _ _ h.h1 h.c1, nc _ _ h.h2 h.c2, nc _ _ h.h3 h.c3, nc _ _ h.hw h.cw⟩
theorem HF.set {i j : Nat} {n1 n2 n3 : List Int} {p1 p2 p3 w : Addr} {v : V} (hij : i ≠ j) (h : HF i n1 n2 n3 p1 p2 p3 w ρ σ H) : HF i n1 n2 n3 p1 p2 p3 w ρ (σ.set j (some v)) H := ⟨by rw [List.getElem?_set_ne (Ne.symm hij)]; exact h.sw, h.hw, h.h1, h.h2, h.h3, h.c1, h.c2, h.c3, h.cw⟩
def svHSet (j : Nat) (fe : Ev) (g : Sv) : Sv := fun st => (fe st).bind fun a st1 => if (st1.put j a).cs.all isDraw then g (st1.put j a) else .stuck
theorem pss_hset {i j : Nat} {n1 n2 n3 : List Int} {e : Expr} {fe : Ev} {y : Str} {p pos : Pos} {rest : List Stmt} {g : Sv} (hij : i ≠ j) (hN : X.N.Nodup) (hi : X.N[j]? = some y) (hx : Loc X.env.scope y) (he : ∀ B', B'.C = B.C → PD X B' W e fe) (hr : PSs X rest (RC4 i n1 n2 n3 B W g))
 (hs : swapsWith e (some (.Name y p)) pos.line X.env = pure false) (hf : X.fn y = true ∨ X.env.scope.names.lookup y = some .local) :
 PSs X (.Assign [.Name y p] e pos :: rest) (RC4 i n1 n2 n3 B W (svHSet j fe g)) := by
 refine PSs.mono (pss_cons (ps_set hN hi hx (pdx he) hs hf) hr) fun D σ H ⟨σ0, ρ0, st0, H0, ρ, st, p1, p2, p3, w, r, s0, hp, ho, rel, hd, hf⟩ => ?_
 refine ⟨B4 B p1 p2 p3 w, rfl, RD.go rel (SRes.exA (fun _ _ _ s => SStep.unhold4 s0 hp (.of s)) (fun _ _ _ _ _ _ q => q.unhold.unhold.unhold.unhold) r) fun a st1 ρ1 H1 s1 r1 v rv fv => ?_⟩
 split at r1
 case isFalse => exact r1.elim
 rename_i hdr
 have sp := SStep.put (i := j) rel s1 rv fv
 exact ⟨σ0, ρ0, st0, H0, ρ1, _, p1, p2, p3, w, r1, SStep.unhold4 s0 hp sp, hp, ho, sp.rel, hdr, (hf.step s1).set hij⟩
end
end D
namespace D
open PySem L2 PyProof.Rows
section
variable {X : Cx} {B : BC} {W : WX} {C : RC} {σ : L2.St} {ρ ρ1 : List CellA} {st st1 : DS} {H H1 : Hp}
abbrev dH3 (n1 n2 n3 : List Int) : DV := .lst [.lst (n1.map DV.int), .lst (n2.map DV.int), .lst (n3.map DV.int)]
theorem rep_ints {A : Addr → Prop} : ∀ ns : List Int, RepL C ρ A H (ns.map V.int) (ns.map DV.int)
 | [] => .nil
 | n :: ns => .cons (.int n) (rep_ints ns)
theorem set_sameH {α : Type} : ∀ {l : List α} {i : Nat} {a : α}, l[i]? = some a → l.set i a = l
 | [], _, _, h => by cases h
 | x :: l, 0, a, h => by cases h; rfl
 | x :: l, i + 1, a, h => by rw [List.set_cons_succ, set_sameH (by simpa using h)]
abbrev stR (i : Nat) (n1 n2 n3 : List Int) (st : DS) : DS := ⟨st.sl.set i (some (dH3 n1 n2 n3, false)), st.cs⟩
theorem rel_read {i : Nat} {n1 n2 n3 : List Int} {p1 p2 p3 w : Addr} (rel : Rel (B4 B p1 p2 p3 w) ρ st σ H) (ho : ¬ B.O p1 ∧ ¬ B.O p2 ∧ ¬ B.O p3 ∧ ¬ B.O w) (hf : HF i n1 n2 n3 p1 p2 p3 w ρ σ H) : Rel B ρ (stR i n1 n2 n3 st) σ H := by
 have r0 := rel.unhold.unhold.unhold.unhold
 have nown : ∀ p, (p = p1 ∨ p = p2 ∨ p = p3 ∨ p = w) → ∀ j, ¬ ownAt st σ j p := fun p hp j ⟨e, z1, z2⟩ => by
  obtain ⟨q, e1, _, _, m2, _⟩ := rel.own j e z1
  rw [z2] at e1
  cases e1
  refine m2 ?_
  rcases hp with rfl | rfl | rfl | rfl
  · exact .inl (.inl (.inl (.inr rfl)))
  · exact .inl (.inl (.inr rfl))
  · exact .inl (.inr rfl)
  · exact .inr rfl
 have nav : ∀ p, (p = p1 ∨ p = p2 ∨ p = p3 ∨ p = w) → ¬ B.O p → ¬ CM ρ p → ¬ Av ρ B.O st σ p := fun p hp h1 h2 z => by
  rcases z with z | z | ⟨j, z⟩
  · exact h1 z
  · exact h2 z
  · exact nown p hp j z
 have rv : Rep B.C ρ (Av ρ B.O st σ) H (.ref w) (dH3 n1 n2 n3) :=
  .lst (nav w (by simp) ho.2.2.2 hf.cw) hf.hw (.cons (.lst (nav p1 (by simp) ho.1 hf.c1) hf.h1 (rep_ints n1)) (.cons (.lst (nav p2 (by simp) ho.2.1 hf.c2) hf.h2 (rep_ints n2)) (.cons (.lst (nav p3 (by simp) ho.2.2.1 hf.c3) hf.h3 (rep_ints n3)) .nil)))
 have s := SStep.putF (i := i) r0 rv
 have e : σ.set i (some (.ref w)) = σ := set_sameH hf.sw
 have := s.rel
 rw [e] at this
 exact this
theorem rehold {B1 : BC} {i : Nat} {n1 n2 n3 : List Int} {cs1 : List CellC} (hC : B1.C = B.C) (rel : Rel B1 ρ st σ H) (hd : cs1.all isDraw = true) (s : Step B σ ρ (stR i n1 n2 n3 st) H ρ1 ⟨(stR i n1 n2 n3 st).sl, cs1⟩ H1) : Step B1 σ ρ st H ρ1 ⟨st.sl, cs1⟩ H1 := by
 have fr0 : ∀ a o, H a = some o → ¬ Av ρ B1.O st σ a → NT o → H1 a = some o := fun a o e n => s.fr a o e fun z => n (.cm z)
 have av0 : ∀ a, Av ρ1 B1.O ⟨st.sl, cs1⟩ σ a → Av ρ B1.O st σ a ∨ H a = none := fun a z => by
  rcases z with z | z | z
  · exact .inl (.inl z)
  · exact (s.cm a z).imp (fun z => .inr (.inl z)) id
  · exact .inl (.inr (.inr z))
 refine ⟨s.pre, ⟨rel.len, fun j e h => ?_, fun j e h => ?_, rel.dis, fun a z => s.dm a (rel.dom a z), fun a z => s.dm a (rel.odom a z), ?_, s.rel.cdom, ?_⟩, s.fr, fun _ _ z => z, fun j e b z => ⟨b, z⟩, s.cm, s.dm⟩
 · obtain ⟨v, e1, q⟩ := rel.fro j e h
   exact ⟨v, e1, q.mv s.pre fr0 av0⟩
 · obtain ⟨p, e1, q, m1, m2, m3⟩ := rel.own j e h
   obtain ⟨o, eo, nteo⟩ := q.nt
   exact ⟨p, e1, q.mv s.pre fr0 av0 ((s.fr p o eo m1 nteo).trans eo.symm), (fun z => (s.cm p z).elim m1 fun y => (by rw [eo] at y; cases y)), m2, m3⟩
 · rw [hC]
   exact cells_draw hd s.rel.cel
 · rw [hC]
   exact s.rel.tabs
def flS (sl : List Slot) : List (Option Bool) := sl.map fun s => s.map (·.2)
theorem flS_eq {l1 l2 : List Slot} (h : ∀ (i : Nat) (d : DV) (b : Bool), l1[i]? = some (some (d, b)) → ∃ c, l2[i]? = some (some (d, c))) (hf : flS l1 = flS l2) : l1 = l2 := by
 refine List.ext_getElem? fun i => ?_
 have e : (flS l1)[i]? = (flS l2)[i]? := by rw [hf]
 unfold flS at e
 rw [List.getElem?_map, List.getElem?_map] at e
 cases h1 : l1[i]? with
 | none =>
  rw [h1] at e
  cases h2 : l2[i]? with
  | none => rfl
  | some s => rw [h2] at e; cases e
 | some s =>
  cases s with
  | none =>
   rw [h1] at e
   cases h2 : l2[i]? with
   | none => rw [h2] at e; cases e
   | some s =>
    cases s with
    | none => rfl
    | some x => rw [h2] at e; cases e
  | some x =>
   obtain ⟨d, b⟩ := x
   obtain ⟨c, h2⟩ := h i d b h1
   rw [h1, h2] at e
   cases e
   rw [h2]
def svHIf (i : Nat) (n1 n2 n3 : List Int) (t : Tv) (g : Sv) : Sv := fun st => match t (stR i n1 n2 n3 st) with
 | .ok false st1 => if flS st1.sl = flS (stR i n1 n2 n3 st).sl ∧ st1.cs.all isDraw = true then g ⟨st.sl, st1.cs⟩ else .stuck
 | _ => .stuck
theorem pss_hif {i : Nat} {n1 n2 n3 : List Int} {c : Expr} {t : Tv} {l1 : List Stmt} {pos : Pos} {rest : List Stmt} {g : Sv} (ht : PTD X B W c t) (hr : PSs X rest (RC4 i n1 n2 n3 B W g)) :
 PSs X (.If c l1 [] pos :: rest) (RC4 i n1 n2 n3 B W (svHIf i n1 n2 n3 t g)) := by
 have h1 : PSs X l1 (fun _ _ _ => False) := ⟨fun pins s σ H D I h => h.elim⟩
 refine PSs.mono (pss_cons (ps_if ht h1 pss_nil) hr) fun D σ H ⟨σ0, ρ0, st0, H0, ρ, st, p1, p2, p3, w, r, s0, hp, ho, rel, hd, hf⟩ => ?_
 have rr := rel_read rel ho hf
 refine ⟨ρ, stR i n1 n2 n3 st, rr, ?_⟩
 unfold svHIf at r
 cases ht : t (stR i n1 n2 n3 st) with
 | stuck => rw [ht] at r; exact r.elim
 | exc x st1 => rw [ht] at r; exact r.elim
 | ok k st1 =>
  rw [ht] at r
  cases k with
  | true => exact r.elim
  | false =>
   dsimp only at r
   split at r
   case isFalse => exact r.elim
   rename_i he
   obtain ⟨he, hd1⟩ := he
   intro ρ' H' s
   have e1 : st1 = ⟨(stR i n1 n2 n3 st).sl, st1.cs⟩ := by
    have := flS_eq s.sl he
    cases st1
    dsimp only at this ⊢
    rw [this]
   rw [e1] at s
   have s4 := rehold (B := B) (B1 := B4 B p1 p2 p3 w) rfl rel hd1 s
   exact ⟨σ0, ρ0, st0, H0, ρ', ⟨st.sl, st1.cs⟩, p1, p2, p3, w, r, SStep.unhold4 s0 hp (.of s4), hp, ho, s4.rel, hd1, hf.step s⟩
end
end D
namespace D
open PySem L2 PyProof.Rows
section
variable {X : Cx} {B : BC} {W : WX} {C : RC} {σ : L2.St} {ρ ρ1 : List CellA} {st st1 : DS} {H H1 : Hp}
theorem hold_comm (B : BC) (p q : Addr) : (B.hold p).hold q = (B.hold q).hold p := by
 unfold BC.hold
 congr 1
 funext a
 exact propext ⟨fun z => z.elim (fun z => z.elim (fun z => .inl (.inl z)) .inr) fun z => .inl (.inr z), fun z => z.elim (fun z => z.elim (fun z => .inl (.inl z)) .inr) fun z => .inl (.inr z)⟩
theorem write4 {p1 p2 p3 w p : Addr} {n : List Int} {o : List V} (rel : Rel (B4 B p1 p2 p3 w) ρ st σ H) (hp : p = p1 ∨ p = p2 ∨ p = p3) (hc : ¬ CM ρ p) (e : H p = some (.lst (n.map V.int))) : Rel (B4 B p1 p2 p3 w) ρ st σ (upd H p (.lst o)) := by
 have hw : ∀ u, H p = some u → WR u := fun u z => by rw [e] at z; cases z; trivial
 rcases hp with rfl | rfl | rfl
 · have eq : B4 B p p2 p3 w = (((B.hold p2).hold p3).hold w).hold p := by
    unfold B4
    rw [hold_comm B p p2, hold_comm _ p p3, hold_comm _ p w]
   rw [eq] at rel ⊢
   exact Rel.writeHeld rel hc hw
 · have eq : B4 B p1 p p3 w = (((B.hold p1).hold p3).hold w).hold p := by
    unfold B4
    rw [hold_comm _ p p3, hold_comm _ p w]
   rw [eq] at rel ⊢
   exact Rel.writeHeld rel hc hw
 · have eq : B4 B p1 p2 p w = (((B.hold p1).hold p2).hold w).hold p := by
    unfold B4
    rw [hold_comm _ p w]
   rw [eq] at rel ⊢
   exact Rel.writeHeld rel hc hw
theorem HF.get {i : Nat} {n1 n2 n3 : List Int} {p1 p2 p3 w : Addr} (h : HF i n1 n2 n3 p1 p2 p3 w ρ σ H) {p : Addr} (hp : p = p1 ∨ p = p2 ∨ p = p3) : ∃ n : List Int, H p = some (.lst (n.map V.int)) ∧ ¬ CM ρ p := by
 rcases hp with rfl | rfl | rfl
 · exact ⟨n1, h.h1, h.c1⟩
 · exact ⟨n2, h.h2, h.c2⟩
 · exact ⟨n3, h.h3, h.c3⟩
theorem HF.clear {i : Nat} {n1 n2 n3 : List Int} {p1 p2 p3 w : Addr} (h : HF i n1 n2 n3 p1 p2 p3 w ρ σ H) {p : Addr} (hp : p = p1 ∨ p = p2 ∨ p = p3) : ∃ m1 m2 m3, HF i m1 m2 m3 p1 p2 p3 w ρ σ (upd H p (.lst [])) := by
 obtain ⟨n, e, _⟩ := h.get hp
 have hpw : w ≠ p := fun z => by
  have := h.hw
  rw [z, e] at this
  cases n with
  | nil => cases this
  | cons x n => cases this
 have key : ∀ q m, H q = some (.lst ((m : List Int).map V.int)) → ∃ m' : List Int, upd H p (.lst []) q = some (.lst (m'.map V.int)) := fun q m eq => by
  by_cases z : q = p
  · exact ⟨[], by rw [z, upd_same]; rfl⟩
  · exact ⟨m, by rw [upd_ne z]; exact eq⟩
 obtain ⟨m1, a1⟩ := key p1 n1 h.h1
 obtain ⟨m2, a2⟩ := key p2 n2 h.h2
 obtain ⟨m3, a3⟩ := key p3 n3 h.h3
 exact ⟨m1, m2, m3, h.sw, by rw [upd_ne hpw]; exact h.hw, a1, a2, a3, h.c1, h.c2, h.c3, h.cw⟩
theorem SStep.write {σ0 : L2.St} {ρ0 : List CellA} {st0 : DS} {H0 : Hp} {p : Addr} {o : HO} (s0 : SStep B σ0 ρ0 st0 H0 σ ρ st H) (hp : H0 p = none) (r : Rel B ρ st σ (upd H p o)) : SStep B σ0 ρ0 st0 H0 σ ρ st (upd H p o) := by
 refine ⟨s0.pre, r, fun a u e n no nt => ?_, s0.av, s0.cm, fun a z => ?_⟩
 · rw [upd_ne (fun z => by rw [z, hp] at e; cases e)]
   exact s0.fr a u e n no nt
 · by_cases ha : a = p
   · rw [ha, upd_same]; exact fun z => nomatch z
   · rw [upd_ne ha]; exact s0.dm a z
def svHClr (j : Nat) (g : Sv) : Sv := fun st => if j < st.sl.length then g ⟨st.sl.set j (some (.opq, false)), st.cs⟩ else .stuck
theorem pss_hclr {i j : Nat} {n1 n2 n3 : List Int} {x y : Str} {pt px p1' apos cpos epos pos : Pos} {rest : List Stmt} {g : Sv} (hij : i ≠ j) (hc : X.calm = true) (hK : B.C.K = X.K) (hN : X.N.Nodup) (hj : X.N[j]? = some y) (hy : Loc X.env.scope y) (hfy : X.fn y = true ∨ X.env.scope.names.lookup y = some .local)
 (hp : PassesOwn (model X.prog X.w) X.A X.env X.xe) (hx : PE X (.Name x px) (tVar i)) (ho : PE X (.Name y p1') (tVar j)) (hbase : attributeBase (.Name y p1') "clear" X.env (eval (.Name y p1') X.env) = eval (.Name y p1') X.env)
 (hline : (apos.endLine == cpos.line) = true) (hs : swapsWith (.Call (.Attribute (.Name y p1') "clear" apos) [] [] cpos) none epos.line X.env = pure false) (hs2 : ∀ v, foldedSetIterable (.Name x px) X.env v = pure v) (hr : PSsD X B W rest g) :
 PSs X (.For (.Name y pt) (.Name x px) [.Expr (.Call (.Attribute (.Name y p1') "clear" apos) [] [] cpos) epos] [] pos :: rest) (RC4 i n1 n2 n3 B W (svHClr j g)) := by
 refine PSs.mono (pss_cons (ps_for hp hc (pi_any hx) (pg_name hN hj hy hfy) (pss_one (ps_expr (pe_bm0 PySem.F.plainAttrs_list PySem.F.slot_list_clear PySem.F.type_list_clear mt_clear ho hbase hline) hs)) hs2) hr) fun D σ H ⟨σ0, ρ0, st0, H0, ρ, st, p1, p2, p3, w, r, s0, hp0, hO, rel, hd, hf⟩ => ?_
 refine ⟨.ref w, hf.sw, .inl ⟨w, rfl, ⟨_, .inl (.inl hf.hw)⟩, ?_⟩⟩
 unfold svHClr at r
 split at r
 case isFalse => exact r.elim
 rename_i hjl
 refine ⟨fun k m σ' H' => m + k = 3 ∧ ∃ (m1 m2 m3 : List Int) (st' : DS), ((k = 0 ∧ st' = st) ∨ st' = ⟨st.sl.set j (some (.opq, false)), st.cs⟩) ∧ SStep B σ0 ρ0 st0 H0 σ' ρ st' H' ∧ Rel (B4 B p1 p2 p3 w) ρ st' σ' H' ∧ HF i m1 m2 m3 p1 p2 p3 w ρ σ' H', ⟨3, rfl, n1, n2, n3, st, .inl ⟨rfl, rfl⟩, s0, rel, hf⟩, ?_⟩
 rintro k m σ' H' ⟨hk, m1, m2, m3, st', hst, s', rel', hf'⟩
 by_cases h3 : k = 3
 · subst h3
   rcases hst with ⟨z, _⟩ | rfl
   · cases z
   · refine .inl ⟨⟨_, .inl (.inl hf'.hw), by show 3 ≤ 3; decide⟩, ρ, _, s'.rel, SRes.from s' r⟩
 · obtain ⟨p, hpp, hpk⟩ : ∃ p, (p = p1 ∨ p = p2 ∨ p = p3) ∧ ([V.ref p1, V.ref p2, V.ref p3])[k]? = some (V.ref p) := by
    rcases (show k = 0 ∨ k = 1 ∨ k = 2 by omega) with rfl | rfl | rfl
    · exact ⟨p1, .inl rfl, rfl⟩
    · exact ⟨p2, .inr (.inl rfl), rfl⟩
    · exact ⟨p3, .inr (.inr rfl), rfl⟩
   refine .inr ⟨⟨_, _, .inl (.inl hf'.hw), hpk⟩, fun σ2 H2 => (m - 1) + (k + 1) = 3 ∧ ∃ (m1 m2 m3 : List Int) (st' : DS), ((k + 1 = 0 ∧ st' = st) ∨ st' = ⟨st.sl.set j (some (.opq, false)), st.cs⟩) ∧ SStep B σ0 ρ0 st0 H0 σ2 ρ st' H2 ∧ Rel (B4 B p1 p2 p3 w) ρ st' σ2 H2 ∧ HF i m1 m2 m3 p1 p2 p3 w ρ σ2 H2, fun σ2 H2 hN2 => ⟨m - 1, by omega, hN2⟩, fun v H3 hv => ?_⟩
   obtain ⟨rfl, hv⟩ := hv
   have ev := hv _ (.inl (.inl hf'.hw))
   rw [hpk] at ev
   cases ev
   obtain ⟨n, en, cn⟩ := hf'.get hpp
   have hst' : (⟨st'.sl.set j (some (.opq, false)), st'.cs⟩ : DS) = ⟨st.sl.set j (some (.opq, false)), st.cs⟩ := by
    rcases hst with ⟨_, rfl⟩ | rfl
    · rfl
    · dsimp only
      rw [List.set_set]
   have hjs : j < σ'.length := by
    rw [← rel'.len]
    rcases hst with ⟨_, rfl⟩ | rfl
    · exact hjl
    · rw [List.length_set]; exact hjl
   have sp := SStep.putF (i := j) rel' (Rep.opq p)
   have s1 := s'.trans (SStep.putF (i := j) s'.rel (Rep.opq p))
   rw [hst'] at sp s1
   have hf1 := hf'.set (j := j) (v := .ref p) hij
   obtain ⟨m1', m2', m3', hf2⟩ := hf1.clear hpp
   have hq0 : H0 p = none := by rcases hpp with rfl | rfl | rfl <;> first | exact hp0.1 | exact hp0.2.1 | exact hp0.2.2.1
   have rw2 := write4 (o := []) sp.rel hpp cn en
   have s2 := SStep.write s1 hq0 rw2.unhold.unhold.unhold.unhold
   refine ⟨.ref p, List.getElem?_set_self hjs, ⟨?_, ?_⟩⟩
   · rw [← hK]
     have rp : Rep B.C [] (Av [] (fun _ => False) ⟨[], []⟩ []) H3 (.ref p) (.lst (n.map DV.int)) := .lst (fun z => by
      rcases z with z | ⟨c, z, _⟩ | ⟨k, d, z, _⟩
      · exact z
      · cases z
      · cases z) en (rep_ints n)
     exact ty_lst ⟨B.C, fun _ => False, fun _ => none⟩ [] ⟨[], []⟩ [] H3 .fro (.ref p) (.lst (n.map DV.int)) rfl rfl rp
   · exact ⟨p, _, rfl, rfl, en, by omega, m1', m2', m3', _, .inr rfl, s2, rw2, hf2⟩
end
end D
namespace D
open PySem L2 PyProof.Rows
section
variable {X : Cx} {C : RC} {O : Addr → Prop} {H0 : Hp} {W : WX} {k i j : Nat} {e e1 e2 e3 c : Expr} {rest l1 : List Stmt} {fe f1 f2 f3 : Ev} {g : Sv} {t : Tv} {x y : Str} {pos p pos' lpos pt px p1 apos cpos epos : Pos} {n1 n2 n3 : List Int}
theorem ws_h3 {g : List Int → List Int → List Int → Sv} (i : Nat) (fx : Fx X C W k) (hN : X.N.Nodup) (h1 : ∀ O H0, PD X ⟨C, O, H0⟩ W e1 f1) (h2 : ∀ O H0, PD X ⟨C, O, H0⟩ W e2 f2) (h3 : ∀ O H0, PD X ⟨C, O, H0⟩ W e3 f3) (hr : ∀ n1 n2 n3, PSs X rest (RC4 i n1 n2 n3 ⟨C, O, H0⟩ W (g n1 n2 n3)))
 (hi : X.N[i]? = some x := by rfl) (hx : Loc X.env.scope x := by first | exact Or.inl rfl | exact Or.inr rfl) (hf : X.fn x = true ∨ X.env.scope.names.lookup x = some .local := by first | exact .inr rfl | exact .inl rfl)
 (hs1 : starEach [e1, e2, e3] X.env = (false, eval e1 X.env) :: starEach [e2, e3] X.env := by rfl) (hs2 : starEach [e2, e3] X.env = (false, eval e2 X.env) :: starEach [e3] X.env := by rfl) (hs3 : starEach [e3] X.env = (false, eval e3 X.env) :: starEach [] X.env := by rfl)
 (hs : swapsWith (.List [e1, e2, e3] lpos) (some (.Name x pos')) pos.line X.env = pure false := by rfl) :
 PSsD X ⟨C, O, H0⟩ W (.Assign [.Name x pos'] (.List [e1, e2, e3] lpos) pos :: rest) (svH3 i f1 f2 f3 g) := by
 have gen : ∀ {e : Expr} {f : Ev}, (∀ O H0, PD X ⟨C, O, H0⟩ W e f) → ∀ B' : BC, B'.C = C → PD X B' W e f := fun h B' hB => by
  cases B' with
  | mk C' O' H' =>
   have hB : C' = C := hB
   subst hB
   exact h O' H'
 exact pssd_h3 (B := ⟨C, O, H0⟩) hN hi hx (gen h1) (gen h2) (gen h3) hs1 hs2 hs3 hs hf hr
theorem ws_hset (j : Nat) (hij : i ≠ j) (fx : Fx X C W k) (hN : X.N.Nodup) (he : ∀ O H0, PD X ⟨C, O, H0⟩ W e fe) (hr : PSs X rest (RC4 i n1 n2 n3 ⟨C, O, H0⟩ W g))
 (hi : X.N[j]? = some y := by rfl) (hx : Loc X.env.scope y := by first | exact Or.inl rfl | exact Or.inr rfl) (hs : swapsWith e (some (.Name y p)) pos.line X.env = pure false := by rfl) (hf : X.fn y = true ∨ X.env.scope.names.lookup y = some .local := by first | exact .inr rfl | exact .inl rfl) :
 PSs X (.Assign [.Name y p] e pos :: rest) (RC4 i n1 n2 n3 ⟨C, O, H0⟩ W (svHSet j fe g)) :=
 pss_hset (B := ⟨C, O, H0⟩) hij hN hi hx (fun B' hB => by
  cases B' with
  | mk C' O' H' =>
   have hB : C' = C := hB
   subst hB
   exact he O' H') hr hs hf
theorem ws_hif (ht : PTD X ⟨C, O, H0⟩ W c t) (hr : PSs X rest (RC4 i n1 n2 n3 ⟨C, O, H0⟩ W g)) : PSs X (.If c l1 [] pos :: rest) (RC4 i n1 n2 n3 ⟨C, O, H0⟩ W (svHIf i n1 n2 n3 t g)) := pss_hif (B := ⟨C, O, H0⟩) ht hr
theorem ws_hclr (j : Nat) (hij : i ≠ j) (fx : Fx X C W k) (hN : X.N.Nodup) (hp : PassesOwn (model X.prog X.w) X.A X.env X.xe) (hr : PSsD X ⟨C, O, H0⟩ W rest g)
 (hi : X.N[i]? = some x := by rfl) (hv : Vis X.env.scope x := by first | exact Or.inl rfl | exact Or.inr (Or.inl rfl) | exact Or.inr (Or.inr rfl)) (hd : (x == ("__debug__" : Str)) = false := by decide) (hcd : (x == ("__classdict__" : Str)) = false := by decide)
 (hj : X.N[j]? = some y := by rfl) (hy : Loc X.env.scope y := by first | exact Or.inl rfl | exact Or.inr rfl) (hfy : X.fn y = true ∨ X.env.scope.names.lookup y = some .local := by first | exact .inr rfl | exact .inl rfl)
 (hvy : Vis X.env.scope y := by first | exact Or.inl rfl | exact Or.inr (Or.inl rfl) | exact Or.inr (Or.inr rfl)) (hdy : (y == ("__debug__" : Str)) = false := by decide) (hcy : (y == ("__classdict__" : Str)) = false := by decide)
 (hbase : attributeBase (.Name y p1) "clear" X.env (eval (.Name y p1) X.env) = eval (.Name y p1) X.env := by rfl) (hline : (apos.endLine == cpos.line) = true := by rfl) (hs : swapsWith (.Call (.Attribute (.Name y p1) "clear" apos) [] [] cpos) none epos.line X.env = pure false := by rfl)
 (hs2 : ∀ v, foldedSetIterable (.Name x px) X.env v = pure v := by intro _; rfl) :
 PSs X (.For (.Name y pt) (.Name x px) [.Expr (.Call (.Attribute (.Name y p1) "clear" apos) [] [] cpos) epos] [] pos :: rest) (RC4 i n1 n2 n3 ⟨C, O, H0⟩ W (svHClr j g)) :=
 pss_hclr (B := ⟨C, O, H0⟩) hij fx.calm fx.K hN hj hy hfy hp (pe_var hi hv hd hcd) (pe_var hj hvy hdy hcy) hbase hline hs hs2 hr
end
section
variable {i j : Nat} {f1 f2 f3 fe : Ev} {g : Sv} {t : Tv} {st : DS} {k : KS} {E : EK} {n1 n2 n3 : List Int}
theorem newI_ok {ns : List Int} {st : DS} (h : st.cs.all isDraw = true) : newI (.lst (ns.map DV.int), .new) st = some ns := by
 unfold newI
 dsimp only
 rw [if_pos h, intsD_map]
theorem x_h3 {g : List Int → List Int → List Int → Sv} (h : XE (f1 st) (fun a kd st1 => ∃ n1 : List Int, a = .lst (n1.map DV.int) ∧ kd = .new ∧ st1.cs.all isDraw = true ∧ XE (f2 st1) (fun a kd st2 => ∃ n2 : List Int, a = .lst (n2.map DV.int) ∧ kd = .new ∧ st2.cs.all isDraw = true ∧
 XE (f3 st2) (fun a kd st3 => ∃ n3 : List Int, a = .lst (n3.map DV.int) ∧ kd = .new ∧ st3.cs.all isDraw = true ∧ i < st3.sl.length ∧ XS (g n1 n2 n3 ⟨st3.sl.set i (some (.opq, false)), st3.cs⟩) k E) E) E) E) : XS (svH3 i f1 f2 f3 g st) k E := by
 with_unfolding_all
  refine W.bind (W.imp (show W (f1 st) (fun a st1 => ∃ n1 : List Int, a.1 = .lst (n1.map DV.int) ∧ a.2 = .new ∧ st1.cs.all isDraw = true ∧ W (f2 st1) (fun a st2 => ∃ n2 : List Int, a.1 = .lst (n2.map DV.int) ∧ a.2 = .new ∧ st2.cs.all isDraw = true ∧
   W (f3 st2) (fun a st3 => ∃ n3 : List Int, a.1 = .lst (n3.map DV.int) ∧ a.2 = .new ∧ st3.cs.all isDraw = true ∧ i < st3.sl.length ∧ WS (g n1 n2 n3 ⟨st3.sl.set i (some (.opq, false)), st3.cs⟩) k E) E) E) E from h) fun a st1 h => ?_)
  obtain ⟨d, kd⟩ := a
  obtain ⟨n1, rfl, rfl, hd, h⟩ := h
  rw [newI_ok hd]
  refine W.bind (W.imp h fun a st2 h => ?_)
  obtain ⟨d, kd⟩ := a
  obtain ⟨n2, rfl, rfl, hd, h⟩ := h
  rw [newI_ok hd]
  refine W.bind (W.imp h fun a st3 h => ?_)
  obtain ⟨d, kd⟩ := a
  obtain ⟨n3, rfl, rfl, hd, hl, h⟩ := h
  rw [newI_ok hd]
  show W (if i < st3.sl.length then _ else _) _ _
  rw [if_pos hl]
  exact h
theorem x_hset (h : XE (fe st) (fun a kd st1 => PutT j a kd st1 fun st2 => st2.cs.all isDraw = true ∧ XS (g st2) k E) E) : XS (svHSet j fe g st) k E := by
 with_unfolding_all
  refine W.bind (W.imp (show W (fe st) (fun a st1 => PutT j a.1 a.2 st1 fun st2 => st2.cs.all isDraw = true ∧ WS (g st2) k E) E from h) fun a st1 h => ?_)
  obtain ⟨h1, h2⟩ : (st1.put j a).cs.all isDraw = true ∧ WS (g (st1.put j a)) k E := h
  rw [if_pos h1]
  exact h2
theorem x_hif (h : XT (t (stR i n1 n2 n3 st)) (fun c st1 => c = false ∧ flS st1.sl = flS (stR i n1 n2 n3 st).sl ∧ st1.cs.all isDraw = true ∧ XS (g ⟨st.sl, st1.cs⟩) k E) noX) : XS (svHIf i n1 n2 n3 t g st) k E := by
 with_unfolding_all
  have h : W (t (stR i n1 n2 n3 st)) (fun c st1 => c = false ∧ flS st1.sl = flS (stR i n1 n2 n3 st).sl ∧ st1.cs.all isDraw = true ∧ WS (g ⟨st.sl, st1.cs⟩) k E) noX := h
  show WS (svHIf i n1 n2 n3 t g st) k E
  unfold svHIf
  revert h
  cases t (stR i n1 n2 n3 st) with
  | ok c st1 =>
   rintro ⟨rfl, h1, h2, h⟩
   show WS (if _ then _ else _) k E
   rw [if_pos ⟨h1, h2⟩]
   exact h
  | exc x st1 => exact fun h => h.elim
  | stuck => exact fun h => h.elim
theorem x_hclr (hl : j < st.sl.length) (h : XS (g ⟨st.sl.set j (some (.opq, false)), st.cs⟩) k E) : XS (svHClr j g st) k E := by
 have e : svHClr j g st = g ⟨st.sl.set j (some (.opq, false)), st.cs⟩ := by
  unfold svHClr
  exact if_pos hl
 rw [e]
 exact h
end
end D
namespace Law
open PySem L2 PyProof.Rows D
def topS (i : Nat) : Stmt := PySem.Challenge.pw_endlist_k09_records_rows_ends_written.main.body.getD i (.Pass ⟨0, 0, 0, 0⟩)
def CL : CT := ⟨[20], [0, 1, 2, 3, 4, 5, 6], fun a b => a == b || b == 0, [0, 1, 2, 3, 4, 5, 6], [(20, "name"), (20, "own_data"), (20, "time"), (20, "comment"), (20, "own_check")], []⟩
abbrev s_0b : Stmt := topS 12
abbrev N_0b : List Str := ["thing", "low", "high"]
theorem sc_0b : FnScope N_0b ["thing", "low", "high"] (defScope s_0b) := ⟨rfl, rfl, rfl, by decide +kernel, rfl, by decide +kernel, by decide +kernel⟩
abbrev s_0e : Stmt := topS 13
abbrev N_0e : List Str := ["thing", "one"]
theorem sc_0e : FnScope N_0e ["thing"] (defScope s_0e) := ⟨rfl, rfl, rfl, by decide +kernel, rfl, by decide +kernel, by decide +kernel⟩
abbrev s_0a : Stmt := topS 14
abbrev N_0a : List Str := ["thing"]
theorem sc_0a : FnScope N_0a ["thing"] (defScope s_0a) := ⟨rfl, rfl, rfl, by decide +kernel, rfl, by decide +kernel, by decide +kernel⟩
abbrev s_0d : Stmt := topS 15
abbrev N_0d : List Str := ["number", "size", "found", "rest", "k"]
theorem sc_0d : FnScope N_0d ["number", "size"] (defScope s_0d) := ⟨rfl, rfl, rfl, by decide +kernel, rfl, by decide +kernel, by decide +kernel⟩
abbrev s_0m : Stmt := topS 19
abbrev N_0m : List Str := ["crc", "some", "one"]
theorem sc_0m : FnScope N_0m ["crc", "some"] (defScope s_0m) := ⟨rfl, rfl, rfl, by decide +kernel, rfl, by decide +kernel, by decide +kernel⟩
abbrev s_10 : Stmt := topS 20
abbrev N_10 : List Str := ["data"]
theorem sc_10 : FnScope N_10 ["data"] (defScope s_10) := ⟨rfl, rfl, rfl, by decide +kernel, rfl, by decide +kernel, by decide +kernel⟩
abbrev s_02 : Stmt := topS 28
abbrev N_02 : List Str := ["number"]
theorem sc_02 : FnScope N_02 ["number"] (defScope s_02) := ⟨rfl, rfl, rfl, by decide +kernel, rfl, by decide +kernel, by decide +kernel⟩
abbrev s_0o : Stmt := topS 29
abbrev N_0o : List Str := ["thing", "sign"]
theorem sc_0o : FnScope N_0o ["thing"] (defScope s_0o) := ⟨rfl, rfl, rfl, by decide +kernel, rfl, by decide +kernel, by decide +kernel⟩
abbrev s_0n : Stmt := topS 30
abbrev N_0n : List Str := ["thing"]
theorem sc_0n : FnScope N_0n ["thing"] (defScope s_0n) := ⟨rfl, rfl, rfl, by decide +kernel, rfl, by decide +kernel, by decide +kernel⟩
abbrev s_09 : Stmt := topS 31
abbrev N_09 : List Str := ["thing"]
theorem sc_09 : FnScope N_09 ["thing"] (defScope s_09) := ⟨rfl, rfl, rfl, by decide +kernel, rfl, by decide +kernel, by decide +kernel⟩
abbrev s_01 : Stmt := topS 32
abbrev N_01 : List Str := ["text", "sign"]
theorem sc_01 : FnScope N_01 ["text"] (defScope s_01) := ⟨rfl, rfl, rfl, by decide +kernel, rfl, by decide +kernel, by decide +kernel⟩
abbrev s_0l : Stmt := topS 37
abbrev N_0l : List Str := ["year", "month", "leap"]
theorem sc_0l : FnScope N_0l ["year", "month"] (defScope s_0l) := ⟨rfl, rfl, rfl, by decide +kernel, rfl, by decide +kernel, by decide +kernel⟩
abbrev s_0p : Stmt := topS 38
abbrev N_0p : List Str := ["thing", "year", "month", "day", "hour", "minute", "second"]
theorem sc_0p : FnScope N_0p ["thing"] (defScope s_0p) := ⟨rfl, rfl, rfl, by decide +kernel, rfl, by decide +kernel, by decide +kernel⟩
abbrev s_0k : Stmt := topS 39
abbrev N_0k : List Str := ["time", "year", "month", "day", "hour", "minute", "second"]
theorem sc_0k : FnScope N_0k ["time"] (defScope s_0k) := ⟨rfl, rfl, rfl, by decide +kernel, rfl, by decide +kernel, by decide +kernel⟩
abbrev s_07 : Stmt := inClass (topS 43) 0
abbrev N_07 : List Str := ["self", "name", "data", "time", "comment"]
theorem sc_07 : FnScope N_07 ["self", "name", "data", "time", "comment"] (defScope s_07) := ⟨rfl, rfl, rfl, by decide +kernel, rfl, by decide +kernel, by decide +kernel⟩
abbrev s_06 : Stmt := inClass (topS 43) 1
abbrev N_06 : List Str := ["self"]
theorem sc_06 : FnScope N_06 ["self"] (defScope s_06) := ⟨rfl, rfl, rfl, by decide +kernel, rfl, by decide +kernel, by decide +kernel⟩
abbrev s_08 : Stmt := inClass (topS 43) 2
abbrev N_08 : List Str := ["self"]
theorem sc_08 : FnScope N_08 ["self"] (defScope s_08) := ⟨rfl, rfl, rfl, by decide +kernel, rfl, by decide +kernel, by decide +kernel⟩
abbrev s_04 : Stmt := inClass (topS 43) 3
abbrev N_04 : List Str := ["self"]
theorem sc_04 : FnScope N_04 ["self"] (defScope s_04) := ⟨rfl, rfl, rfl, by decide +kernel, rfl, by decide +kernel, by decide +kernel⟩
abbrev s_03 : Stmt := topS 51
abbrev N_03 : List Str := ["entry", "low", "high", "size", "times"]
theorem sc_03 : FnScope N_03 ["entry"] (defScope s_03) := ⟨rfl, rfl, rfl, by decide +kernel, rfl, by decide +kernel, by decide +kernel⟩
abbrev s_0c : Stmt := topS 52
abbrev N_0c : List Str := ["entry"]
theorem sc_0c : FnScope N_0c ["entry"] (defScope s_0c) := ⟨rfl, rfl, rfl, by decide +kernel, rfl, by decide +kernel, by decide +kernel⟩
abbrev s_05 : Stmt := topS 53
abbrev N_05 : List Str := ["number", "most"]
theorem sc_05 : FnScope N_05 ["number", "most"] (defScope s_05) := ⟨rfl, rfl, rfl, by decide +kernel, rfl, by decide +kernel, by decide +kernel⟩
abbrev s_0y : Stmt := topS 54
abbrev N_0y : List Str := ["entry", "place", "head", "rest"]
theorem sc_0y : FnScope N_0y ["entry", "place"] (defScope s_0y) := ⟨rfl, rfl, rfl, by decide +kernel, rfl, by decide +kernel, by decide +kernel⟩
abbrev s_0s : Stmt := topS 55
abbrev N_0s : List Str := ["number", "size", "place", "comment", "numbers"]
theorem sc_0s : FnScope N_0s ["number", "size", "place", "comment"] (defScope s_0s) := ⟨rfl, rfl, rfl, by decide +kernel, rfl, by decide +kernel, by decide +kernel⟩
abbrev s_l_begun : Stmt := topS 57
abbrev N_l_begun : List Str := ["_law_script", "_law_great", "_law_lump"]
theorem sc_l_begun : FnScope N_l_begun ["_law_script"] (defScope s_l_begun) := ⟨rfl, rfl, rfl, by decide +kernel, rfl, by decide +kernel, by decide +kernel⟩
abbrev s_0u : Stmt := topS 58
abbrev N_0u : List Str := ["_law_draw", "_law_many", "_law_found", "_law_turn", "_law_lump", "_law_mixed"]
theorem sc_0u : FnScope N_0u ["_law_draw", "_law_many"] (defScope s_0u) := ⟨rfl, rfl, rfl, by decide +kernel, rfl, by decide +kernel, by decide +kernel⟩
abbrev s_0w : Stmt := topS 59
abbrev N_0w : List Str := ["_law_draw", "_law_some_here"]
theorem sc_0w : FnScope N_0w ["_law_draw", "_law_some_here"] (defScope s_0w) := ⟨rfl, rfl, rfl, by decide +kernel, rfl, by decide +kernel, by decide +kernel⟩
abbrev s_0r : Stmt := topS 60
abbrev N_0r : List Str := ["_law_signs_here"]
theorem sc_0r : FnScope N_0r [] (defScope s_0r) := ⟨rfl, rfl, rfl, by decide +kernel, rfl, by decide +kernel, by decide +kernel⟩
abbrev s_0j : Stmt := topS 61
abbrev N_0j : List Str := ["_law_draw", "_law_many", "_law_found", "_law_plain", "_law_k", "_law_long", "_law_word", "_law_turn", "_law_tries", "_law_sign", "_law_one"]
theorem sc_0j : FnScope N_0j ["_law_draw", "_law_many"] (defScope s_0j) := ⟨rfl, rfl, rfl, by decide +kernel, rfl, by decide +kernel, by decide +kernel⟩
abbrev s_0v : Stmt := topS 62
abbrev N_0v : List Str := ["_law_draw", "_law_signs_here", "_law_long", "_law_k"]
theorem sc_0v : FnScope N_0v ["_law_draw"] (defScope s_0v) := ⟨rfl, rfl, rfl, by decide +kernel, rfl, by decide +kernel, by decide +kernel⟩
abbrev s_0f : Stmt := topS 63
abbrev N_0f : List Str := ["_law_draw", "_law_some_here", "_law_date"]
theorem sc_0f : FnScope N_0f ["_law_draw"] (defScope s_0f) := ⟨rfl, rfl, rfl, by decide +kernel, rfl, by decide +kernel, by decide +kernel⟩
abbrev s_13 : Stmt := topS 64
abbrev N_13 : List Str := ["_law_amount", "_law_wide", "_law_found", "_law_k"]
theorem sc_13 : FnScope N_13 ["_law_amount", "_law_wide"] (defScope s_13) := ⟨rfl, rfl, rfl, by decide +kernel, rfl, by decide +kernel, by decide +kernel⟩
abbrev s_0g : Stmt := topS 65
abbrev N_0g : List Str := ["_law_text", "_law_sign"]
theorem sc_0g : FnScope N_0g ["_law_text"] (defScope s_0g) := ⟨rfl, rfl, rfl, by decide +kernel, rfl, by decide +kernel, by decide +kernel⟩
abbrev s_11 : Stmt := topS 66
abbrev N_11 : List Str := ["_law_some_here", "_law_crc_here", "_law_one", "_law_k", "_law_odd"]
theorem sc_11 : FnScope N_11 ["_law_some_here"] (defScope s_11) := ⟨rfl, rfl, rfl, by decide +kernel, rfl, by decide +kernel, by decide +kernel⟩
abbrev s_0i : Stmt := topS 67
abbrev N_0i : List Str := ["_law_one", "_law_year", "_law_month", "_law_day", "_law_hour", "_law_minute", "_law_second", "_law_low_here", "_law_high", "_law_wide", "_law_found"]
theorem sc_0i : FnScope N_0i ["_law_one"] (defScope s_0i) := ⟨rfl, rfl, rfl, by decide +kernel, rfl, by decide +kernel, by decide +kernel⟩
abbrev s_0h : Stmt := topS 68
abbrev N_0h : List Str := ["_law_one"]
theorem sc_0h : FnScope N_0h ["_law_one"] (defScope s_0h) := ⟨rfl, rfl, rfl, by decide +kernel, rfl, by decide +kernel, by decide +kernel⟩
abbrev s_14 : Stmt := topS 69
abbrev N_14 : List Str := ["_law_one", "_law_spot", "_law_found"]
theorem sc_14 : FnScope N_14 ["_law_one", "_law_spot"] (defScope s_14) := ⟨rfl, rfl, rfl, by decide +kernel, rfl, by decide +kernel, by decide +kernel⟩
abbrev s_12 : Stmt := topS 70
abbrev N_12 : List Str := ["_law_many", "_law_wide", "_law_spot", "_law_note_here", "_law_found"]
theorem sc_12 : FnScope N_12 ["_law_many", "_law_wide", "_law_spot", "_law_note_here"] (defScope s_12) := ⟨rfl, rfl, rfl, by decide +kernel, rfl, by decide +kernel, by decide +kernel⟩
abbrev s_0x : Stmt := topS 71
abbrev N_0x : List Str := ["_law_draw", "_law_many", "_law_plain", "_law_signs_here", "_law_ways", "_law_k", "_law_way"]
theorem sc_0x : FnScope N_0x ["_law_draw", "_law_many", "_law_plain"] (defScope s_0x) := ⟨rfl, rfl, rfl, by decide +kernel, rfl, by decide +kernel, by decide +kernel⟩
abbrev s_0q : Stmt := topS 72
abbrev N_0q : List Str := ["_law_draw", "_law_title", "_law_many"]
theorem sc_0q : FnScope N_0q ["_law_draw", "_law_title", "_law_many"] (defScope s_0q) := ⟨rfl, rfl, rfl, by decide +kernel, rfl, by decide +kernel, by decide +kernel⟩
abbrev s_0t : Stmt := topS 73
abbrev N_0t : List Str := ["_law_one"]
theorem sc_0t : FnScope N_0t ["_law_one"] (defScope s_0t) := ⟨rfl, rfl, rfl, by decide +kernel, rfl, by decide +kernel, by decide +kernel⟩
abbrev s_l_tried : Stmt := topS 74
abbrev N_l_tried : List Str := ["_law_work", "_law_error", "e", "_law_marks", "_law_word", "_law_mark"]
theorem sc_l_tried : FnScope N_l_tried ["_law_work"] (defScope s_l_tried) := ⟨rfl, rfl, rfl, by decide +kernel, rfl, by decide +kernel, by decide +kernel⟩
abbrev s_00 : Stmt := topS 75
abbrev N_00 : List Str := ["_law_draw", "_law_told", "_law_wide", "_law_most", "_law_odd", "_law_works", "_law_work"]
theorem sc_00 : FnScope N_00 ["_law_draw", "_law_told"] (defScope s_00) := ⟨rfl, rfl, rfl, by decide +kernel, rfl, by decide +kernel, by decide +kernel⟩
abbrev s_16 : Stmt := topS 76
abbrev N_16 : List Str := ["_law_script", "_law_draw", "_law_title", "_law_one", "_law_told", "_law_spot", "_law_many", "_law_other", "_law_found", "_law_due", "_law_part", "_law_again"]
theorem sc_16 : FnScope N_16 ["_law_script"] (defScope s_16) := ⟨rfl, rfl, rfl, by decide +kernel, rfl, by decide +kernel, by decide +kernel⟩
def k_EARLIEST : List DV := [.int 1980, .int 1, .int 1, .int 0, .int 0, .int 0]
def k_END : List DV := [.int 80, .int 75, .int 5, .int 6]
def k_MONTHS : List DV := [.int 31, .int 28, .int 31, .int 30, .int 31, .int 30, .int 31, .int 31, .int 30, .int 31, .int 30, .int 31]
def k_RECORD : List DV := [.int 80, .int 75, .int 3, .int 4]
def k_ROW : List DV := [.int 80, .int 75, .int 1, .int 2]
def k_STEPS : List DV := [.int 0, .int 498536548, .int 997073096, .int 651767980, .int 1994146192, .int 1802195444, .int 1303535960, .int 1342533948, .int 3988292384, .int 4027552580, .int 3604390888, .int 3412177804, .int 2607071920, .int 2262029012, .int 2685067896, .int 3183342108]
abbrev _root_.D.Dt.a_0b (d : Dt) : Addr := d.a 0
abbrev _root_.D.Dt.fd_0b (d : Dt) : FuncData := d.f 0
abbrev _root_.D.Dt.a_0e (d : Dt) : Addr := d.a 1
abbrev _root_.D.Dt.fd_0e (d : Dt) : FuncData := d.f 1
abbrev _root_.D.Dt.a_0a (d : Dt) : Addr := d.a 2
abbrev _root_.D.Dt.fd_0a (d : Dt) : FuncData := d.f 2
abbrev _root_.D.Dt.a_0d (d : Dt) : Addr := d.a 3
abbrev _root_.D.Dt.fd_0d (d : Dt) : FuncData := d.f 3
abbrev _root_.D.Dt.a_0m (d : Dt) : Addr := d.a 4
abbrev _root_.D.Dt.fd_0m (d : Dt) : FuncData := d.f 4
abbrev _root_.D.Dt.a_10 (d : Dt) : Addr := d.a 5
abbrev _root_.D.Dt.fd_10 (d : Dt) : FuncData := d.f 5
abbrev _root_.D.Dt.a_02 (d : Dt) : Addr := d.a 6
abbrev _root_.D.Dt.fd_02 (d : Dt) : FuncData := d.f 6
abbrev _root_.D.Dt.a_0o (d : Dt) : Addr := d.a 7
abbrev _root_.D.Dt.fd_0o (d : Dt) : FuncData := d.f 7
abbrev _root_.D.Dt.a_0n (d : Dt) : Addr := d.a 8
abbrev _root_.D.Dt.fd_0n (d : Dt) : FuncData := d.f 8
abbrev _root_.D.Dt.a_09 (d : Dt) : Addr := d.a 9
abbrev _root_.D.Dt.fd_09 (d : Dt) : FuncData := d.f 9
abbrev _root_.D.Dt.a_01 (d : Dt) : Addr := d.a 10
abbrev _root_.D.Dt.fd_01 (d : Dt) : FuncData := d.f 10
abbrev _root_.D.Dt.a_0l (d : Dt) : Addr := d.a 11
abbrev _root_.D.Dt.fd_0l (d : Dt) : FuncData := d.f 11
abbrev _root_.D.Dt.a_0p (d : Dt) : Addr := d.a 12
abbrev _root_.D.Dt.fd_0p (d : Dt) : FuncData := d.f 12
abbrev _root_.D.Dt.a_0k (d : Dt) : Addr := d.a 13
abbrev _root_.D.Dt.fd_0k (d : Dt) : FuncData := d.f 13
abbrev _root_.D.Dt.a_07 (d : Dt) : Addr := d.a 14
abbrev _root_.D.Dt.fd_07 (d : Dt) : FuncData := d.f 14
abbrev _root_.D.Dt.a_06 (d : Dt) : Addr := d.a 15
abbrev _root_.D.Dt.fd_06 (d : Dt) : FuncData := d.f 15
abbrev _root_.D.Dt.a_08 (d : Dt) : Addr := d.a 16
abbrev _root_.D.Dt.fd_08 (d : Dt) : FuncData := d.f 16
abbrev _root_.D.Dt.a_04 (d : Dt) : Addr := d.a 17
abbrev _root_.D.Dt.fd_04 (d : Dt) : FuncData := d.f 17
abbrev _root_.D.Dt.a_03 (d : Dt) : Addr := d.a 18
abbrev _root_.D.Dt.fd_03 (d : Dt) : FuncData := d.f 18
abbrev _root_.D.Dt.a_0c (d : Dt) : Addr := d.a 19
abbrev _root_.D.Dt.fd_0c (d : Dt) : FuncData := d.f 19
abbrev _root_.D.Dt.a_05 (d : Dt) : Addr := d.a 20
abbrev _root_.D.Dt.fd_05 (d : Dt) : FuncData := d.f 20
abbrev _root_.D.Dt.a_0y (d : Dt) : Addr := d.a 21
abbrev _root_.D.Dt.fd_0y (d : Dt) : FuncData := d.f 21
abbrev _root_.D.Dt.a_0s (d : Dt) : Addr := d.a 22
abbrev _root_.D.Dt.fd_0s (d : Dt) : FuncData := d.f 22
abbrev _root_.D.Dt.a_l_begun (d : Dt) : Addr := d.a 23
abbrev _root_.D.Dt.fd_l_begun (d : Dt) : FuncData := d.f 23
abbrev _root_.D.Dt.a_0u (d : Dt) : Addr := d.a 24
abbrev _root_.D.Dt.fd_0u (d : Dt) : FuncData := d.f 24
abbrev _root_.D.Dt.a_0w (d : Dt) : Addr := d.a 25
abbrev _root_.D.Dt.fd_0w (d : Dt) : FuncData := d.f 25
abbrev _root_.D.Dt.a_0r (d : Dt) : Addr := d.a 26
abbrev _root_.D.Dt.fd_0r (d : Dt) : FuncData := d.f 26
abbrev _root_.D.Dt.a_0j (d : Dt) : Addr := d.a 27
abbrev _root_.D.Dt.fd_0j (d : Dt) : FuncData := d.f 27
abbrev _root_.D.Dt.a_0v (d : Dt) : Addr := d.a 28
abbrev _root_.D.Dt.fd_0v (d : Dt) : FuncData := d.f 28
abbrev _root_.D.Dt.a_0f (d : Dt) : Addr := d.a 29
abbrev _root_.D.Dt.fd_0f (d : Dt) : FuncData := d.f 29
abbrev _root_.D.Dt.a_13 (d : Dt) : Addr := d.a 30
abbrev _root_.D.Dt.fd_13 (d : Dt) : FuncData := d.f 30
abbrev _root_.D.Dt.a_0g (d : Dt) : Addr := d.a 31
abbrev _root_.D.Dt.fd_0g (d : Dt) : FuncData := d.f 31
abbrev _root_.D.Dt.a_11 (d : Dt) : Addr := d.a 32
abbrev _root_.D.Dt.fd_11 (d : Dt) : FuncData := d.f 32
abbrev _root_.D.Dt.a_0i (d : Dt) : Addr := d.a 33
abbrev _root_.D.Dt.fd_0i (d : Dt) : FuncData := d.f 33
abbrev _root_.D.Dt.a_0h (d : Dt) : Addr := d.a 34
abbrev _root_.D.Dt.fd_0h (d : Dt) : FuncData := d.f 34
abbrev _root_.D.Dt.a_14 (d : Dt) : Addr := d.a 35
abbrev _root_.D.Dt.fd_14 (d : Dt) : FuncData := d.f 35
abbrev _root_.D.Dt.a_12 (d : Dt) : Addr := d.a 36
abbrev _root_.D.Dt.fd_12 (d : Dt) : FuncData := d.f 36
abbrev _root_.D.Dt.a_0x (d : Dt) : Addr := d.a 37
abbrev _root_.D.Dt.fd_0x (d : Dt) : FuncData := d.f 37
abbrev _root_.D.Dt.a_0q (d : Dt) : Addr := d.a 38
abbrev _root_.D.Dt.fd_0q (d : Dt) : FuncData := d.f 38
abbrev _root_.D.Dt.a_0t (d : Dt) : Addr := d.a 39
abbrev _root_.D.Dt.fd_0t (d : Dt) : FuncData := d.f 39
abbrev _root_.D.Dt.a_l_tried (d : Dt) : Addr := d.a 40
abbrev _root_.D.Dt.fd_l_tried (d : Dt) : FuncData := d.f 40
abbrev _root_.D.Dt.a_00 (d : Dt) : Addr := d.a 41
abbrev _root_.D.Dt.fd_00 (d : Dt) : FuncData := d.f 41
abbrev _root_.D.Dt.a_16 (d : Dt) : Addr := d.a 42
abbrev _root_.D.Dt.fd_16 (d : Dt) : FuncData := d.f 42
abbrev _root_.D.Dt.co_l_refused_right (d : Dt) : Addr := d.a 43
abbrev _root_.D.Dt.ta_l_refused_right (d : Dt) : Addr := d.a 44
structure G0 (K : PySem.W.Frag) (mg : Str → Option Value) (base : Heap) (d : Dt) : Prop where
 kc : KitC ⟨K, d.cls, d.T⟩ CL
 m_ArchiveError : mg "ArchiveError" = some (.ref (d.cls 0))
 m_NoBytes : mg "NoBytes" = some (.ref (d.cls 1))
 m_NoNumber : mg "NoNumber" = some (.ref (d.cls 2))
 m_NoTime : mg "NoTime" = some (.ref (d.cls 3))
 m_NoName : mg "NoName" = some (.ref (d.cls 4))
 m_NoComment : mg "NoComment" = some (.ref (d.cls 5))
 m_NoData : mg "NoData" = some (.ref (d.cls 6))
 m_Entry : mg "Entry" = some (.ref (d.cls 20))
 c_EARLIEST : ∃ a, mg "EARLIEST" = some (.ref a) ∧ tupIn K a = some k_EARLIEST
 c_END : ∃ a, mg "END" = some (.ref a) ∧ tupIn K a = some k_END
 c_FIRST_SIGN : ∃ t, mg "FIRST_SIGN" = some (.int 32 t)
 c_GREATEST : ∃ t, mg "GREATEST" = some (.int 4294967295 t)
 c_GREATEST_BYTE : ∃ t, mg "GREATEST_BYTE" = some (.int 255 t)
 c_GREATEST_CHECK : ∃ t, mg "GREATEST_CHECK" = some (.int 4294967295 t)
 c_LAST_SIGN : ∃ t, mg "LAST_SIGN" = some (.int 126 t)
 c_LATEST_YEAR : ∃ t, mg "LATEST_YEAR" = some (.int 2107 t)
 c_LONGEST_COMMENT : ∃ t, mg "LONGEST_COMMENT" = some (.int 40 t)
 c_LONGEST_NAME : ∃ t, mg "LONGEST_NAME" = some (.int 24 t)
 c_MONTHS : ∃ a, mg "MONTHS" = some (.ref a) ∧ tupIn K a = some k_MONTHS
 c_MOST_BYTES : ∃ t, mg "MOST_BYTES" = some (.int 8 t)
 c_MOST_DATA : ∃ t, mg "MOST_DATA" = some (.int 1500 t)
 c_MOST_ENTRIES : ∃ t, mg "MOST_ENTRIES" = some (.int 20 t)
 c_PERCENT : ∃ t, mg "PERCENT" = some (.int 37 t)
 c_RECORD : ∃ a, mg "RECORD" = some (.ref a) ∧ tupIn K a = some k_RECORD
 c_ROW : ∃ a, mg "ROW" = some (.ref a) ∧ tupIn K a = some k_ROW
 c_STEPS : ∃ a, mg "STEPS" = some (.ref a) ∧ tupIn K a = some k_STEPS
 c_VERSION : ∃ t, mg "VERSION" = some (.int 20 t)
 z_abs : mg "abs" = none
 z_all : mg "all" = none
structure G1 (K : PySem.W.Frag) (mg : Str → Option Value) (base : Heap) (d : Dt) : Prop where
 z_bool : mg "bool" = none
 z_int : mg "int" = none
 z_isinstance : mg "isinstance" = none
 z_len : mg "len" = none
 z_list : mg "list" = none
 z_ord : mg "ord" = none
 z_range : mg "range" = none
 z_str : mg "str" = none
 z_tuple : mg "tuple" = none
 z_zip : mg "zip" = none
 F_0b : Fun K "is_number" "is_number" s_0b d.a_0b d.fd_0b
 b_0b : Binds K d.fd_0b ["thing", "low", "high"] []
 m_0b : mg "is_number" = some (.ref d.a_0b)
 F_0e : Fun K "is_bytes" "is_bytes" s_0e d.a_0e d.fd_0e
 b_0e : Binds K d.fd_0e ["thing"] []
 m_0e : mg "is_bytes" = some (.ref d.a_0e)
 F_0a : Fun K "need_bytes" "need_bytes" s_0a d.a_0a d.fd_0a
 b_0a : Binds K d.fd_0a ["thing"] []
 m_0a : mg "need_bytes" = some (.ref d.a_0a)
 F_0d : Fun K "bytes_of" "bytes_of" s_0d d.a_0d d.fd_0d
 b_0d : Binds K d.fd_0d ["number", "size"] []
 m_0d : mg "bytes_of" = some (.ref d.a_0d)
 F_0m : Fun K "forward" "forward" s_0m d.a_0m d.fd_0m
 b_0m : Binds K d.fd_0m ["crc", "some"] []
 m_0m : mg "forward" = some (.ref d.a_0m)
 F_10 : Fun K "check" "check" s_10 d.a_10 d.fd_10
 b_10 : Binds K d.fd_10 ["data"] []
 m_10 : mg "check" = some (.ref d.a_10)
 F_02 : Fun K "is_printable" "is_printable" s_02 d.a_02 d.fd_02
 b_02 : Binds K d.fd_02 ["number"] []
structure G2 (K : PySem.W.Frag) (mg : Str → Option Value) (base : Heap) (d : Dt) : Prop where
 m_02 : mg "is_printable" = some (.ref d.a_02)
 F_0o : Fun K "is_text" "is_text" s_0o d.a_0o d.fd_0o
 b_0o : Binds K d.fd_0o ["thing"] []
 m_0o : mg "is_text" = some (.ref d.a_0o)
 F_0n : Fun K "is_name" "is_name" s_0n d.a_0n d.fd_0n
 b_0n : Binds K d.fd_0n ["thing"] []
 m_0n : mg "is_name" = some (.ref d.a_0n)
 F_09 : Fun K "is_comment" "is_comment" s_09 d.a_09 d.fd_09
 b_09 : Binds K d.fd_09 ["thing"] []
 m_09 : mg "is_comment" = some (.ref d.a_09)
 F_01 : Fun K "bytes_of_text" "bytes_of_text" s_01 d.a_01 d.fd_01
 b_01 : Binds K d.fd_01 ["text"] []
 m_01 : mg "bytes_of_text" = some (.ref d.a_01)
 F_0l : Fun K "days_in" "days_in" s_0l d.a_0l d.fd_0l
 b_0l : Binds K d.fd_0l ["year", "month"] []
 m_0l : mg "days_in" = some (.ref d.a_0l)
 F_0p : Fun K "is_time" "is_time" s_0p d.a_0p d.fd_0p
 b_0p : Binds K d.fd_0p ["thing"] []
 m_0p : mg "is_time" = some (.ref d.a_0p)
 F_0k : Fun K "stamp_of" "stamp_of" s_0k d.a_0k d.fd_0k
 b_0k : Binds K d.fd_0k ["time"] []
 m_0k : mg "stamp_of" = some (.ref d.a_0k)
 F_07 : FunY K "__init__" "Entry.__init__" s_07 d.a_07 d.fd_07
 F_06 : Fun K "data" "Entry.data" s_06 d.a_06 d.fd_06
 b_06 : Binds K d.fd_06 ["self"] []
 F_08 : Fun K "size" "Entry.size" s_08 d.a_08 d.fd_08
 b_08 : Binds K d.fd_08 ["self"] []
 F_04 : Fun K "check" "Entry.check" s_04 d.a_04 d.fd_04
 b_04 : Binds K d.fd_04 ["self"] []
 F_03 : Fun K "shared_bytes" "shared_bytes" s_03 d.a_03 d.fd_03
structure G3 (K : PySem.W.Frag) (mg : Str → Option Value) (base : Heap) (d : Dt) : Prop where
 b_03 : Binds K d.fd_03 ["entry"] []
 m_03 : mg "shared_bytes" = some (.ref d.a_03)
 F_0c : Fun K "record_of" "record_of" s_0c d.a_0c d.fd_0c
 b_0c : Binds K d.fd_0c ["entry"] []
 m_0c : mg "record_of" = some (.ref d.a_0c)
 F_05 : Fun K "need_number" "need_number" s_05 d.a_05 d.fd_05
 b_05 : Binds K d.fd_05 ["number", "most"] []
 m_05 : mg "need_number" = some (.ref d.a_05)
 F_0y : Fun K "row_of" "row_of" s_0y d.a_0y d.fd_0y
 b_0y : Binds K d.fd_0y ["entry", "place"] []
 m_0y : mg "row_of" = some (.ref d.a_0y)
 F_0s : Fun K "end_of" "end_of" s_0s d.a_0s d.fd_0s
 b_0s : Binds K d.fd_0s ["number", "size", "place", "comment"] []
 m_0s : mg "end_of" = some (.ref d.a_0s)
 F_l_begun : Fun K "_law_begun" "_law_begun" s_l_begun d.a_l_begun d.fd_l_begun
 b_l_begun : Binds K d.fd_l_begun ["_law_script"] []
 m_l_begun : mg "_law_begun" = some (.ref d.a_l_begun)
 F_0u : Fun K "_law_next" "_law_next" s_0u d.a_0u d.fd_0u
 b_0u : Binds K d.fd_0u ["_law_draw", "_law_many"] []
 m_0u : mg "_law_next" = some (.ref d.a_0u)
 F_0w : Fun K "_law_pick" "_law_pick" s_0w d.a_0w d.fd_0w
 b_0w : Binds K d.fd_0w ["_law_draw", "_law_some_here"] []
 m_0w : mg "_law_pick" = some (.ref d.a_0w)
 F_0r : Fun K "_law_signs" "_law_signs" s_0r d.a_0r d.fd_0r
 b_0r : Binds K d.fd_0r [] []
 m_0r : mg "_law_signs" = some (.ref d.a_0r)
 F_0j : Fun K "_law_titles" "_law_titles" s_0j d.a_0j d.fd_0j
 b_0j : Binds K d.fd_0j ["_law_draw", "_law_many"] []
 m_0j : mg "_law_titles" = some (.ref d.a_0j)
 F_0v : Fun K "_law_note" "_law_note" s_0v d.a_0v d.fd_0v
structure G4 (K : PySem.W.Frag) (mg : Str → Option Value) (base : Heap) (d : Dt) : Prop where
 b_0v : Binds K d.fd_0v ["_law_draw"] []
 m_0v : mg "_law_note" = some (.ref d.a_0v)
 F_0f : Fun K "_law_moment" "_law_moment" s_0f d.a_0f d.fd_0f
 b_0f : Binds K d.fd_0f ["_law_draw"] []
 m_0f : mg "_law_moment" = some (.ref d.a_0f)
 F_13 : Fun K "_law_low" "_law_low" s_13 d.a_13 d.fd_13
 b_13 : Binds K d.fd_13 ["_law_amount", "_law_wide"] []
 m_13 : mg "_law_low" = some (.ref d.a_13)
 F_0g : Fun K "_law_octets" "_law_octets" s_0g d.a_0g d.fd_0g
 b_0g : Binds K d.fd_0g ["_law_text"] []
 m_0g : mg "_law_octets" = some (.ref d.a_0g)
 F_11 : Fun K "_law_crc" "_law_crc" s_11 d.a_11 d.fd_11
 b_11 : Binds K d.fd_11 ["_law_some_here"] []
 m_11 : mg "_law_crc" = some (.ref d.a_11)
 F_0i : Fun K "_law_shared" "_law_shared" s_0i d.a_0i d.fd_0i
 b_0i : Binds K d.fd_0i ["_law_one"] []
 m_0i : mg "_law_shared" = some (.ref d.a_0i)
 F_0h : Fun K "_law_record" "_law_record" s_0h d.a_0h d.fd_0h
 b_0h : Binds K d.fd_0h ["_law_one"] []
 m_0h : mg "_law_record" = some (.ref d.a_0h)
 F_14 : Fun K "_law_row" "_law_row" s_14 d.a_14 d.fd_14
 b_14 : Binds K d.fd_14 ["_law_one", "_law_spot"] []
 m_14 : mg "_law_row" = some (.ref d.a_14)
 F_12 : Fun K "_law_end" "_law_end" s_12 d.a_12 d.fd_12
 b_12 : Binds K d.fd_12 ["_law_many", "_law_wide", "_law_spot", "_law_note_here"] []
 m_12 : mg "_law_end" = some (.ref d.a_12)
 F_0x : Fun K "_law_some" "_law_some" s_0x d.a_0x d.fd_0x
 b_0x : Binds K d.fd_0x ["_law_draw", "_law_many", "_law_plain"] []
 m_0x : mg "_law_some" = some (.ref d.a_0x)
 F_0q : Fun K "_law_entry" "_law_entry" s_0q d.a_0q d.fd_0q
structure G5 (K : PySem.W.Frag) (mg : Str → Option Value) (base : Heap) (d : Dt) : Prop where
 b_0q : Binds K d.fd_0q ["_law_draw", "_law_title", "_law_many"] []
 m_0q : mg "_law_entry" = some (.ref d.a_0q)
 F_0t : Fun K "_law_made" "_law_made" s_0t d.a_0t d.fd_0t
 b_0t : Binds K d.fd_0t ["_law_one"] []
 m_0t : mg "_law_made" = some (.ref d.a_0t)
 F_l_tried : Fun K "_law_tried" "_law_tried" s_l_tried d.a_l_tried d.fd_l_tried
 b_l_tried : Binds K d.fd_l_tried ["_law_work"] []
 m_l_tried : mg "_law_tried" = some (.ref d.a_l_tried)
 F_00 : Fun K "_law_refused_right" "_law_refused_right" s_00 d.a_00 d.fd_00
 b_00 : Binds K d.fd_00 ["_law_draw", "_law_told"] []
 m_00 : mg "_law_refused_right" = some (.ref d.a_00)
 F_16 : Fun K "law" "law" s_16 d.a_16 d.fd_16
 b_16 : Binds K d.fd_16 ["_law_script"] []
 m_16 : mg "law" = some (.ref d.a_16)
 m_check_checks : mg "check_checks" = some (.ref d.a_10)
 bn_Entry_init_1 : BnD ⟨K, d.cls, d.T⟩ K d.fd_07 ["self", "name", "data", "time", "comment"] 3 ["time", "comment"] (0 :: List.map (· + 1) [0, 1, 2, 3]) []
 cl_Entry : Cls K (d.cls 20)
 mk_Entry : Mk K (d.cls 20) d.a_07
 pr_Entry_data : ∃ p, PropOf K (d.cls 20) "data" p d.a_06
 pr_Entry_size : ∃ p, PropOf K (d.cls 20) "size" p d.a_08
 pr_Entry_check : ∃ p, PropOf K (d.cls 20) "check" p d.a_04
 kb_row_of_0 : KwB K d.fd_0y ["entry", "place"] ["place", "entry"] [1, 0]
 kb_record_of_0 : KwB K d.fd_0c ["entry"] ["entry"] [0]
 kb_end_of_0 : KwB K d.fd_0s ["number", "size", "place", "comment"] ["comment", "place", "size", "number"] [3, 2, 1, 0]
 tb_l_refused_right : LamX.TabB base mg d.co_l_refused_right d.ta_l_refused_right
 cd_l_refused_right : d.fd_00.code = .ref d.co_l_refused_right
 tm_l_refused_right : (d.ta_l_refused_right, ("_law_refused_right.<locals>.<lambda>" : Str)) ∈ d.T
 tu_l_refused_right : ∀ p ∈ d.T, p.1 = d.ta_l_refused_right → p.2 = ("_law_refused_right.<locals>.<lambda>" : Str)
structure Gl (K : PySem.W.Frag) (mg : Str → Option Value) (base : Heap) where
 d : Dt
 q0 : G0 K mg base d
 q1 : G1 K mg base d
 q2 : G2 K mg base d
 q3 : G3 K mg base d
 q4 : G4 K mg base d
 q5 : G5 K mg base d
section
variable {K : PySem.W.Frag} {mg : Str → Option Value} {base : Heap}
abbrev Gl.cls (g : Gl K mg base) : Nat → Addr := g.d.cls
abbrev Gl.T (g : Gl K mg base) : List (Addr × Str) := g.d.T
abbrev Gl.a_0b (g : Gl K mg base) : Addr := g.d.a_0b
abbrev Gl.fd_0b (g : Gl K mg base) : FuncData := g.d.fd_0b
abbrev Gl.a_0e (g : Gl K mg base) : Addr := g.d.a_0e
abbrev Gl.fd_0e (g : Gl K mg base) : FuncData := g.d.fd_0e
abbrev Gl.a_0a (g : Gl K mg base) : Addr := g.d.a_0a
abbrev Gl.fd_0a (g : Gl K mg base) : FuncData := g.d.fd_0a
abbrev Gl.a_0d (g : Gl K mg base) : Addr := g.d.a_0d
abbrev Gl.fd_0d (g : Gl K mg base) : FuncData := g.d.fd_0d
abbrev Gl.a_0m (g : Gl K mg base) : Addr := g.d.a_0m
abbrev Gl.fd_0m (g : Gl K mg base) : FuncData := g.d.fd_0m
abbrev Gl.a_10 (g : Gl K mg base) : Addr := g.d.a_10
abbrev Gl.fd_10 (g : Gl K mg base) : FuncData := g.d.fd_10
abbrev Gl.a_02 (g : Gl K mg base) : Addr := g.d.a_02
abbrev Gl.fd_02 (g : Gl K mg base) : FuncData := g.d.fd_02
abbrev Gl.a_0o (g : Gl K mg base) : Addr := g.d.a_0o
abbrev Gl.fd_0o (g : Gl K mg base) : FuncData := g.d.fd_0o
abbrev Gl.a_0n (g : Gl K mg base) : Addr := g.d.a_0n
abbrev Gl.fd_0n (g : Gl K mg base) : FuncData := g.d.fd_0n
abbrev Gl.a_09 (g : Gl K mg base) : Addr := g.d.a_09
abbrev Gl.fd_09 (g : Gl K mg base) : FuncData := g.d.fd_09
abbrev Gl.a_01 (g : Gl K mg base) : Addr := g.d.a_01
abbrev Gl.fd_01 (g : Gl K mg base) : FuncData := g.d.fd_01
abbrev Gl.a_0l (g : Gl K mg base) : Addr := g.d.a_0l
abbrev Gl.fd_0l (g : Gl K mg base) : FuncData := g.d.fd_0l
abbrev Gl.a_0p (g : Gl K mg base) : Addr := g.d.a_0p
abbrev Gl.fd_0p (g : Gl K mg base) : FuncData := g.d.fd_0p
abbrev Gl.a_0k (g : Gl K mg base) : Addr := g.d.a_0k
abbrev Gl.fd_0k (g : Gl K mg base) : FuncData := g.d.fd_0k
abbrev Gl.a_07 (g : Gl K mg base) : Addr := g.d.a_07
abbrev Gl.fd_07 (g : Gl K mg base) : FuncData := g.d.fd_07
abbrev Gl.a_06 (g : Gl K mg base) : Addr := g.d.a_06
abbrev Gl.fd_06 (g : Gl K mg base) : FuncData := g.d.fd_06
abbrev Gl.a_08 (g : Gl K mg base) : Addr := g.d.a_08
abbrev Gl.fd_08 (g : Gl K mg base) : FuncData := g.d.fd_08
abbrev Gl.a_04 (g : Gl K mg base) : Addr := g.d.a_04
abbrev Gl.fd_04 (g : Gl K mg base) : FuncData := g.d.fd_04
abbrev Gl.a_03 (g : Gl K mg base) : Addr := g.d.a_03
abbrev Gl.fd_03 (g : Gl K mg base) : FuncData := g.d.fd_03
abbrev Gl.a_0c (g : Gl K mg base) : Addr := g.d.a_0c
abbrev Gl.fd_0c (g : Gl K mg base) : FuncData := g.d.fd_0c
abbrev Gl.a_05 (g : Gl K mg base) : Addr := g.d.a_05
abbrev Gl.fd_05 (g : Gl K mg base) : FuncData := g.d.fd_05
abbrev Gl.a_0y (g : Gl K mg base) : Addr := g.d.a_0y
abbrev Gl.fd_0y (g : Gl K mg base) : FuncData := g.d.fd_0y
abbrev Gl.a_0s (g : Gl K mg base) : Addr := g.d.a_0s
abbrev Gl.fd_0s (g : Gl K mg base) : FuncData := g.d.fd_0s
abbrev Gl.a_l_begun (g : Gl K mg base) : Addr := g.d.a_l_begun
abbrev Gl.fd_l_begun (g : Gl K mg base) : FuncData := g.d.fd_l_begun
abbrev Gl.a_0u (g : Gl K mg base) : Addr := g.d.a_0u
abbrev Gl.fd_0u (g : Gl K mg base) : FuncData := g.d.fd_0u
abbrev Gl.a_0w (g : Gl K mg base) : Addr := g.d.a_0w
abbrev Gl.fd_0w (g : Gl K mg base) : FuncData := g.d.fd_0w
abbrev Gl.a_0r (g : Gl K mg base) : Addr := g.d.a_0r
abbrev Gl.fd_0r (g : Gl K mg base) : FuncData := g.d.fd_0r
abbrev Gl.a_0j (g : Gl K mg base) : Addr := g.d.a_0j
abbrev Gl.fd_0j (g : Gl K mg base) : FuncData := g.d.fd_0j
abbrev Gl.a_0v (g : Gl K mg base) : Addr := g.d.a_0v
abbrev Gl.fd_0v (g : Gl K mg base) : FuncData := g.d.fd_0v
abbrev Gl.a_0f (g : Gl K mg base) : Addr := g.d.a_0f
abbrev Gl.fd_0f (g : Gl K mg base) : FuncData := g.d.fd_0f
abbrev Gl.a_13 (g : Gl K mg base) : Addr := g.d.a_13
abbrev Gl.fd_13 (g : Gl K mg base) : FuncData := g.d.fd_13
abbrev Gl.a_0g (g : Gl K mg base) : Addr := g.d.a_0g
abbrev Gl.fd_0g (g : Gl K mg base) : FuncData := g.d.fd_0g
abbrev Gl.a_11 (g : Gl K mg base) : Addr := g.d.a_11
abbrev Gl.fd_11 (g : Gl K mg base) : FuncData := g.d.fd_11
abbrev Gl.a_0i (g : Gl K mg base) : Addr := g.d.a_0i
abbrev Gl.fd_0i (g : Gl K mg base) : FuncData := g.d.fd_0i
abbrev Gl.a_0h (g : Gl K mg base) : Addr := g.d.a_0h
abbrev Gl.fd_0h (g : Gl K mg base) : FuncData := g.d.fd_0h
abbrev Gl.a_14 (g : Gl K mg base) : Addr := g.d.a_14
abbrev Gl.fd_14 (g : Gl K mg base) : FuncData := g.d.fd_14
abbrev Gl.a_12 (g : Gl K mg base) : Addr := g.d.a_12
abbrev Gl.fd_12 (g : Gl K mg base) : FuncData := g.d.fd_12
abbrev Gl.a_0x (g : Gl K mg base) : Addr := g.d.a_0x
abbrev Gl.fd_0x (g : Gl K mg base) : FuncData := g.d.fd_0x
abbrev Gl.a_0q (g : Gl K mg base) : Addr := g.d.a_0q
abbrev Gl.fd_0q (g : Gl K mg base) : FuncData := g.d.fd_0q
abbrev Gl.a_0t (g : Gl K mg base) : Addr := g.d.a_0t
abbrev Gl.fd_0t (g : Gl K mg base) : FuncData := g.d.fd_0t
abbrev Gl.a_l_tried (g : Gl K mg base) : Addr := g.d.a_l_tried
abbrev Gl.fd_l_tried (g : Gl K mg base) : FuncData := g.d.fd_l_tried
abbrev Gl.a_00 (g : Gl K mg base) : Addr := g.d.a_00
abbrev Gl.fd_00 (g : Gl K mg base) : FuncData := g.d.fd_00
abbrev Gl.a_16 (g : Gl K mg base) : Addr := g.d.a_16
abbrev Gl.fd_16 (g : Gl K mg base) : FuncData := g.d.fd_16
abbrev Gl.co_l_refused_right (g : Gl K mg base) : Addr := g.d.co_l_refused_right
abbrev Gl.ta_l_refused_right (g : Gl K mg base) : Addr := g.d.ta_l_refused_right
theorem Gl.kc (g : Gl K mg base) : KitC ⟨K, g.cls, g.T⟩ CL := g.q0.kc
theorem Gl.m_ArchiveError (g : Gl K mg base) : mg "ArchiveError" = some (.ref (g.cls 0)) := g.q0.m_ArchiveError
theorem Gl.m_NoBytes (g : Gl K mg base) : mg "NoBytes" = some (.ref (g.cls 1)) := g.q0.m_NoBytes
theorem Gl.m_NoNumber (g : Gl K mg base) : mg "NoNumber" = some (.ref (g.cls 2)) := g.q0.m_NoNumber
theorem Gl.m_NoTime (g : Gl K mg base) : mg "NoTime" = some (.ref (g.cls 3)) := g.q0.m_NoTime
theorem Gl.m_NoName (g : Gl K mg base) : mg "NoName" = some (.ref (g.cls 4)) := g.q0.m_NoName
theorem Gl.m_NoComment (g : Gl K mg base) : mg "NoComment" = some (.ref (g.cls 5)) := g.q0.m_NoComment
theorem Gl.m_NoData (g : Gl K mg base) : mg "NoData" = some (.ref (g.cls 6)) := g.q0.m_NoData
theorem Gl.m_Entry (g : Gl K mg base) : mg "Entry" = some (.ref (g.cls 20)) := g.q0.m_Entry
theorem Gl.c_EARLIEST (g : Gl K mg base) : ∃ a, mg "EARLIEST" = some (.ref a) ∧ tupIn K a = some k_EARLIEST := g.q0.c_EARLIEST
theorem Gl.c_END (g : Gl K mg base) : ∃ a, mg "END" = some (.ref a) ∧ tupIn K a = some k_END := g.q0.c_END
theorem Gl.c_FIRST_SIGN (g : Gl K mg base) : ∃ t, mg "FIRST_SIGN" = some (.int 32 t) := g.q0.c_FIRST_SIGN
theorem Gl.c_GREATEST (g : Gl K mg base) : ∃ t, mg "GREATEST" = some (.int 4294967295 t) := g.q0.c_GREATEST
theorem Gl.c_GREATEST_BYTE (g : Gl K mg base) : ∃ t, mg "GREATEST_BYTE" = some (.int 255 t) := g.q0.c_GREATEST_BYTE
theorem Gl.c_GREATEST_CHECK (g : Gl K mg base) : ∃ t, mg "GREATEST_CHECK" = some (.int 4294967295 t) := g.q0.c_GREATEST_CHECK
theorem Gl.c_LAST_SIGN (g : Gl K mg base) : ∃ t, mg "LAST_SIGN" = some (.int 126 t) := g.q0.c_LAST_SIGN
theorem Gl.c_LATEST_YEAR (g : Gl K mg base) : ∃ t, mg "LATEST_YEAR" = some (.int 2107 t) := g.q0.c_LATEST_YEAR
theorem Gl.c_LONGEST_COMMENT (g : Gl K mg base) : ∃ t, mg "LONGEST_COMMENT" = some (.int 40 t) := g.q0.c_LONGEST_COMMENT
theorem Gl.c_LONGEST_NAME (g : Gl K mg base) : ∃ t, mg "LONGEST_NAME" = some (.int 24 t) := g.q0.c_LONGEST_NAME
theorem Gl.c_MONTHS (g : Gl K mg base) : ∃ a, mg "MONTHS" = some (.ref a) ∧ tupIn K a = some k_MONTHS := g.q0.c_MONTHS
theorem Gl.c_MOST_BYTES (g : Gl K mg base) : ∃ t, mg "MOST_BYTES" = some (.int 8 t) := g.q0.c_MOST_BYTES
theorem Gl.c_MOST_DATA (g : Gl K mg base) : ∃ t, mg "MOST_DATA" = some (.int 1500 t) := g.q0.c_MOST_DATA
theorem Gl.c_MOST_ENTRIES (g : Gl K mg base) : ∃ t, mg "MOST_ENTRIES" = some (.int 20 t) := g.q0.c_MOST_ENTRIES
theorem Gl.c_PERCENT (g : Gl K mg base) : ∃ t, mg "PERCENT" = some (.int 37 t) := g.q0.c_PERCENT
theorem Gl.c_RECORD (g : Gl K mg base) : ∃ a, mg "RECORD" = some (.ref a) ∧ tupIn K a = some k_RECORD := g.q0.c_RECORD
theorem Gl.c_ROW (g : Gl K mg base) : ∃ a, mg "ROW" = some (.ref a) ∧ tupIn K a = some k_ROW := g.q0.c_ROW
theorem Gl.c_STEPS (g : Gl K mg base) : ∃ a, mg "STEPS" = some (.ref a) ∧ tupIn K a = some k_STEPS := g.q0.c_STEPS
theorem Gl.c_VERSION (g : Gl K mg base) : ∃ t, mg "VERSION" = some (.int 20 t) := g.q0.c_VERSION
theorem Gl.z_abs (g : Gl K mg base) : mg "abs" = none := g.q0.z_abs
theorem Gl.z_all (g : Gl K mg base) : mg "all" = none := g.q0.z_all
theorem Gl.z_bool (g : Gl K mg base) : mg "bool" = none := g.q1.z_bool
theorem Gl.z_int (g : Gl K mg base) : mg "int" = none := g.q1.z_int
theorem Gl.z_isinstance (g : Gl K mg base) : mg "isinstance" = none := g.q1.z_isinstance
theorem Gl.z_len (g : Gl K mg base) : mg "len" = none := g.q1.z_len
theorem Gl.z_list (g : Gl K mg base) : mg "list" = none := g.q1.z_list
theorem Gl.z_ord (g : Gl K mg base) : mg "ord" = none := g.q1.z_ord
theorem Gl.z_range (g : Gl K mg base) : mg "range" = none := g.q1.z_range
theorem Gl.z_str (g : Gl K mg base) : mg "str" = none := g.q1.z_str
theorem Gl.z_tuple (g : Gl K mg base) : mg "tuple" = none := g.q1.z_tuple
theorem Gl.z_zip (g : Gl K mg base) : mg "zip" = none := g.q1.z_zip
theorem Gl.F_0b (g : Gl K mg base) : Fun K "is_number" "is_number" s_0b g.a_0b g.fd_0b := g.q1.F_0b
theorem Gl.b_0b (g : Gl K mg base) : Binds K g.fd_0b ["thing", "low", "high"] [] := g.q1.b_0b
theorem Gl.m_0b (g : Gl K mg base) : mg "is_number" = some (.ref g.a_0b) := g.q1.m_0b
theorem Gl.F_0e (g : Gl K mg base) : Fun K "is_bytes" "is_bytes" s_0e g.a_0e g.fd_0e := g.q1.F_0e
theorem Gl.b_0e (g : Gl K mg base) : Binds K g.fd_0e ["thing"] [] := g.q1.b_0e
theorem Gl.m_0e (g : Gl K mg base) : mg "is_bytes" = some (.ref g.a_0e) := g.q1.m_0e
theorem Gl.F_0a (g : Gl K mg base) : Fun K "need_bytes" "need_bytes" s_0a g.a_0a g.fd_0a := g.q1.F_0a
theorem Gl.b_0a (g : Gl K mg base) : Binds K g.fd_0a ["thing"] [] := g.q1.b_0a
theorem Gl.m_0a (g : Gl K mg base) : mg "need_bytes" = some (.ref g.a_0a) := g.q1.m_0a
theorem Gl.F_0d (g : Gl K mg base) : Fun K "bytes_of" "bytes_of" s_0d g.a_0d g.fd_0d := g.q1.F_0d
theorem Gl.b_0d (g : Gl K mg base) : Binds K g.fd_0d ["number", "size"] [] := g.q1.b_0d
theorem Gl.m_0d (g : Gl K mg base) : mg "bytes_of" = some (.ref g.a_0d) := g.q1.m_0d
theorem Gl.F_0m (g : Gl K mg base) : Fun K "forward" "forward" s_0m g.a_0m g.fd_0m := g.q1.F_0m
theorem Gl.b_0m (g : Gl K mg base) : Binds K g.fd_0m ["crc", "some"] [] := g.q1.b_0m
theorem Gl.m_0m (g : Gl K mg base) : mg "forward" = some (.ref g.a_0m) := g.q1.m_0m
theorem Gl.F_10 (g : Gl K mg base) : Fun K "check" "check" s_10 g.a_10 g.fd_10 := g.q1.F_10
theorem Gl.b_10 (g : Gl K mg base) : Binds K g.fd_10 ["data"] [] := g.q1.b_10
theorem Gl.m_10 (g : Gl K mg base) : mg "check" = some (.ref g.a_10) := g.q1.m_10
theorem Gl.F_02 (g : Gl K mg base) : Fun K "is_printable" "is_printable" s_02 g.a_02 g.fd_02 := g.q1.F_02
theorem Gl.b_02 (g : Gl K mg base) : Binds K g.fd_02 ["number"] [] := g.q1.b_02
theorem Gl.m_02 (g : Gl K mg base) : mg "is_printable" = some (.ref g.a_02) := g.q2.m_02
theorem Gl.F_0o (g : Gl K mg base) : Fun K "is_text" "is_text" s_0o g.a_0o g.fd_0o := g.q2.F_0o
theorem Gl.b_0o (g : Gl K mg base) : Binds K g.fd_0o ["thing"] [] := g.q2.b_0o
theorem Gl.m_0o (g : Gl K mg base) : mg "is_text" = some (.ref g.a_0o) := g.q2.m_0o
theorem Gl.F_0n (g : Gl K mg base) : Fun K "is_name" "is_name" s_0n g.a_0n g.fd_0n := g.q2.F_0n
theorem Gl.b_0n (g : Gl K mg base) : Binds K g.fd_0n ["thing"] [] := g.q2.b_0n
theorem Gl.m_0n (g : Gl K mg base) : mg "is_name" = some (.ref g.a_0n) := g.q2.m_0n
theorem Gl.F_09 (g : Gl K mg base) : Fun K "is_comment" "is_comment" s_09 g.a_09 g.fd_09 := g.q2.F_09
theorem Gl.b_09 (g : Gl K mg base) : Binds K g.fd_09 ["thing"] [] := g.q2.b_09
theorem Gl.m_09 (g : Gl K mg base) : mg "is_comment" = some (.ref g.a_09) := g.q2.m_09
theorem Gl.F_01 (g : Gl K mg base) : Fun K "bytes_of_text" "bytes_of_text" s_01 g.a_01 g.fd_01 := g.q2.F_01
theorem Gl.b_01 (g : Gl K mg base) : Binds K g.fd_01 ["text"] [] := g.q2.b_01
theorem Gl.m_01 (g : Gl K mg base) : mg "bytes_of_text" = some (.ref g.a_01) := g.q2.m_01
theorem Gl.F_0l (g : Gl K mg base) : Fun K "days_in" "days_in" s_0l g.a_0l g.fd_0l := g.q2.F_0l
theorem Gl.b_0l (g : Gl K mg base) : Binds K g.fd_0l ["year", "month"] [] := g.q2.b_0l
theorem Gl.m_0l (g : Gl K mg base) : mg "days_in" = some (.ref g.a_0l) := g.q2.m_0l
theorem Gl.F_0p (g : Gl K mg base) : Fun K "is_time" "is_time" s_0p g.a_0p g.fd_0p := g.q2.F_0p
theorem Gl.b_0p (g : Gl K mg base) : Binds K g.fd_0p ["thing"] [] := g.q2.b_0p
theorem Gl.m_0p (g : Gl K mg base) : mg "is_time" = some (.ref g.a_0p) := g.q2.m_0p
theorem Gl.F_0k (g : Gl K mg base) : Fun K "stamp_of" "stamp_of" s_0k g.a_0k g.fd_0k := g.q2.F_0k
theorem Gl.b_0k (g : Gl K mg base) : Binds K g.fd_0k ["time"] [] := g.q2.b_0k
theorem Gl.m_0k (g : Gl K mg base) : mg "stamp_of" = some (.ref g.a_0k) := g.q2.m_0k
theorem Gl.F_07 (g : Gl K mg base) : FunY K "__init__" "Entry.__init__" s_07 g.a_07 g.fd_07 := g.q2.F_07
theorem Gl.F_06 (g : Gl K mg base) : Fun K "data" "Entry.data" s_06 g.a_06 g.fd_06 := g.q2.F_06
theorem Gl.b_06 (g : Gl K mg base) : Binds K g.fd_06 ["self"] [] := g.q2.b_06
theorem Gl.F_08 (g : Gl K mg base) : Fun K "size" "Entry.size" s_08 g.a_08 g.fd_08 := g.q2.F_08
theorem Gl.b_08 (g : Gl K mg base) : Binds K g.fd_08 ["self"] [] := g.q2.b_08
theorem Gl.F_04 (g : Gl K mg base) : Fun K "check" "Entry.check" s_04 g.a_04 g.fd_04 := g.q2.F_04
theorem Gl.b_04 (g : Gl K mg base) : Binds K g.fd_04 ["self"] [] := g.q2.b_04
theorem Gl.F_03 (g : Gl K mg base) : Fun K "shared_bytes" "shared_bytes" s_03 g.a_03 g.fd_03 := g.q2.F_03
theorem Gl.b_03 (g : Gl K mg base) : Binds K g.fd_03 ["entry"] [] := g.q3.b_03
theorem Gl.m_03 (g : Gl K mg base) : mg "shared_bytes" = some (.ref g.a_03) := g.q3.m_03
theorem Gl.F_0c (g : Gl K mg base) : Fun K "record_of" "record_of" s_0c g.a_0c g.fd_0c := g.q3.F_0c
theorem Gl.b_0c (g : Gl K mg base) : Binds K g.fd_0c ["entry"] [] := g.q3.b_0c
theorem Gl.m_0c (g : Gl K mg base) : mg "record_of" = some (.ref g.a_0c) := g.q3.m_0c
theorem Gl.F_05 (g : Gl K mg base) : Fun K "need_number" "need_number" s_05 g.a_05 g.fd_05 := g.q3.F_05
theorem Gl.b_05 (g : Gl K mg base) : Binds K g.fd_05 ["number", "most"] [] := g.q3.b_05
theorem Gl.m_05 (g : Gl K mg base) : mg "need_number" = some (.ref g.a_05) := g.q3.m_05
theorem Gl.F_0y (g : Gl K mg base) : Fun K "row_of" "row_of" s_0y g.a_0y g.fd_0y := g.q3.F_0y
theorem Gl.b_0y (g : Gl K mg base) : Binds K g.fd_0y ["entry", "place"] [] := g.q3.b_0y
theorem Gl.m_0y (g : Gl K mg base) : mg "row_of" = some (.ref g.a_0y) := g.q3.m_0y
theorem Gl.F_0s (g : Gl K mg base) : Fun K "end_of" "end_of" s_0s g.a_0s g.fd_0s := g.q3.F_0s
theorem Gl.b_0s (g : Gl K mg base) : Binds K g.fd_0s ["number", "size", "place", "comment"] [] := g.q3.b_0s
theorem Gl.m_0s (g : Gl K mg base) : mg "end_of" = some (.ref g.a_0s) := g.q3.m_0s
theorem Gl.F_l_begun (g : Gl K mg base) : Fun K "_law_begun" "_law_begun" s_l_begun g.a_l_begun g.fd_l_begun := g.q3.F_l_begun
theorem Gl.b_l_begun (g : Gl K mg base) : Binds K g.fd_l_begun ["_law_script"] [] := g.q3.b_l_begun
theorem Gl.m_l_begun (g : Gl K mg base) : mg "_law_begun" = some (.ref g.a_l_begun) := g.q3.m_l_begun
theorem Gl.F_0u (g : Gl K mg base) : Fun K "_law_next" "_law_next" s_0u g.a_0u g.fd_0u := g.q3.F_0u
theorem Gl.b_0u (g : Gl K mg base) : Binds K g.fd_0u ["_law_draw", "_law_many"] [] := g.q3.b_0u
theorem Gl.m_0u (g : Gl K mg base) : mg "_law_next" = some (.ref g.a_0u) := g.q3.m_0u
theorem Gl.F_0w (g : Gl K mg base) : Fun K "_law_pick" "_law_pick" s_0w g.a_0w g.fd_0w := g.q3.F_0w
theorem Gl.b_0w (g : Gl K mg base) : Binds K g.fd_0w ["_law_draw", "_law_some_here"] [] := g.q3.b_0w
theorem Gl.m_0w (g : Gl K mg base) : mg "_law_pick" = some (.ref g.a_0w) := g.q3.m_0w
theorem Gl.F_0r (g : Gl K mg base) : Fun K "_law_signs" "_law_signs" s_0r g.a_0r g.fd_0r := g.q3.F_0r
theorem Gl.b_0r (g : Gl K mg base) : Binds K g.fd_0r [] [] := g.q3.b_0r
theorem Gl.m_0r (g : Gl K mg base) : mg "_law_signs" = some (.ref g.a_0r) := g.q3.m_0r
theorem Gl.F_0j (g : Gl K mg base) : Fun K "_law_titles" "_law_titles" s_0j g.a_0j g.fd_0j := g.q3.F_0j
theorem Gl.b_0j (g : Gl K mg base) : Binds K g.fd_0j ["_law_draw", "_law_many"] [] := g.q3.b_0j
theorem Gl.m_0j (g : Gl K mg base) : mg "_law_titles" = some (.ref g.a_0j) := g.q3.m_0j
theorem Gl.F_0v (g : Gl K mg base) : Fun K "_law_note" "_law_note" s_0v g.a_0v g.fd_0v := g.q3.F_0v
theorem Gl.b_0v (g : Gl K mg base) : Binds K g.fd_0v ["_law_draw"] [] := g.q4.b_0v
theorem Gl.m_0v (g : Gl K mg base) : mg "_law_note" = some (.ref g.a_0v) := g.q4.m_0v
theorem Gl.F_0f (g : Gl K mg base) : Fun K "_law_moment" "_law_moment" s_0f g.a_0f g.fd_0f := g.q4.F_0f
theorem Gl.b_0f (g : Gl K mg base) : Binds K g.fd_0f ["_law_draw"] [] := g.q4.b_0f
theorem Gl.m_0f (g : Gl K mg base) : mg "_law_moment" = some (.ref g.a_0f) := g.q4.m_0f
theorem Gl.F_13 (g : Gl K mg base) : Fun K "_law_low" "_law_low" s_13 g.a_13 g.fd_13 := g.q4.F_13
theorem Gl.b_13 (g : Gl K mg base) : Binds K g.fd_13 ["_law_amount", "_law_wide"] [] := g.q4.b_13
theorem Gl.m_13 (g : Gl K mg base) : mg "_law_low" = some (.ref g.a_13) := g.q4.m_13
theorem Gl.F_0g (g : Gl K mg base) : Fun K "_law_octets" "_law_octets" s_0g g.a_0g g.fd_0g := g.q4.F_0g
theorem Gl.b_0g (g : Gl K mg base) : Binds K g.fd_0g ["_law_text"] [] := g.q4.b_0g
theorem Gl.m_0g (g : Gl K mg base) : mg "_law_octets" = some (.ref g.a_0g) := g.q4.m_0g
theorem Gl.F_11 (g : Gl K mg base) : Fun K "_law_crc" "_law_crc" s_11 g.a_11 g.fd_11 := g.q4.F_11
theorem Gl.b_11 (g : Gl K mg base) : Binds K g.fd_11 ["_law_some_here"] [] := g.q4.b_11
theorem Gl.m_11 (g : Gl K mg base) : mg "_law_crc" = some (.ref g.a_11) := g.q4.m_11
theorem Gl.F_0i (g : Gl K mg base) : Fun K "_law_shared" "_law_shared" s_0i g.a_0i g.fd_0i := g.q4.F_0i
theorem Gl.b_0i (g : Gl K mg base) : Binds K g.fd_0i ["_law_one"] [] := g.q4.b_0i
theorem Gl.m_0i (g : Gl K mg base) : mg "_law_shared" = some (.ref g.a_0i) := g.q4.m_0i
theorem Gl.F_0h (g : Gl K mg base) : Fun K "_law_record" "_law_record" s_0h g.a_0h g.fd_0h := g.q4.F_0h
theorem Gl.b_0h (g : Gl K mg base) : Binds K g.fd_0h ["_law_one"] [] := g.q4.b_0h
theorem Gl.m_0h (g : Gl K mg base) : mg "_law_record" = some (.ref g.a_0h) := g.q4.m_0h
theorem Gl.F_14 (g : Gl K mg base) : Fun K "_law_row" "_law_row" s_14 g.a_14 g.fd_14 := g.q4.F_14
theorem Gl.b_14 (g : Gl K mg base) : Binds K g.fd_14 ["_law_one", "_law_spot"] [] := g.q4.b_14
theorem Gl.m_14 (g : Gl K mg base) : mg "_law_row" = some (.ref g.a_14) := g.q4.m_14
theorem Gl.F_12 (g : Gl K mg base) : Fun K "_law_end" "_law_end" s_12 g.a_12 g.fd_12 := g.q4.F_12
theorem Gl.b_12 (g : Gl K mg base) : Binds K g.fd_12 ["_law_many", "_law_wide", "_law_spot", "_law_note_here"] [] := g.q4.b_12
theorem Gl.m_12 (g : Gl K mg base) : mg "_law_end" = some (.ref g.a_12) := g.q4.m_12
theorem Gl.F_0x (g : Gl K mg base) : Fun K "_law_some" "_law_some" s_0x g.a_0x g.fd_0x := g.q4.F_0x
theorem Gl.b_0x (g : Gl K mg base) : Binds K g.fd_0x ["_law_draw", "_law_many", "_law_plain"] [] := g.q4.b_0x
theorem Gl.m_0x (g : Gl K mg base) : mg "_law_some" = some (.ref g.a_0x) := g.q4.m_0x
theorem Gl.F_0q (g : Gl K mg base) : Fun K "_law_entry" "_law_entry" s_0q g.a_0q g.fd_0q := g.q4.F_0q
theorem Gl.b_0q (g : Gl K mg base) : Binds K g.fd_0q ["_law_draw", "_law_title", "_law_many"] [] := g.q5.b_0q
theorem Gl.m_0q (g : Gl K mg base) : mg "_law_entry" = some (.ref g.a_0q) := g.q5.m_0q
theorem Gl.F_0t (g : Gl K mg base) : Fun K "_law_made" "_law_made" s_0t g.a_0t g.fd_0t := g.q5.F_0t
theorem Gl.b_0t (g : Gl K mg base) : Binds K g.fd_0t ["_law_one"] [] := g.q5.b_0t
theorem Gl.m_0t (g : Gl K mg base) : mg "_law_made" = some (.ref g.a_0t) := g.q5.m_0t
theorem Gl.F_l_tried (g : Gl K mg base) : Fun K "_law_tried" "_law_tried" s_l_tried g.a_l_tried g.fd_l_tried := g.q5.F_l_tried
theorem Gl.b_l_tried (g : Gl K mg base) : Binds K g.fd_l_tried ["_law_work"] [] := g.q5.b_l_tried
theorem Gl.m_l_tried (g : Gl K mg base) : mg "_law_tried" = some (.ref g.a_l_tried) := g.q5.m_l_tried
theorem Gl.F_00 (g : Gl K mg base) : Fun K "_law_refused_right" "_law_refused_right" s_00 g.a_00 g.fd_00 := g.q5.F_00
theorem Gl.b_00 (g : Gl K mg base) : Binds K g.fd_00 ["_law_draw", "_law_told"] [] := g.q5.b_00
theorem Gl.m_00 (g : Gl K mg base) : mg "_law_refused_right" = some (.ref g.a_00) := g.q5.m_00
theorem Gl.F_16 (g : Gl K mg base) : Fun K "law" "law" s_16 g.a_16 g.fd_16 := g.q5.F_16
theorem Gl.b_16 (g : Gl K mg base) : Binds K g.fd_16 ["_law_script"] [] := g.q5.b_16
theorem Gl.m_16 (g : Gl K mg base) : mg "law" = some (.ref g.a_16) := g.q5.m_16
theorem Gl.m_check_checks (g : Gl K mg base) : mg "check_checks" = some (.ref g.a_10) := g.q5.m_check_checks
theorem Gl.bn_Entry_init_1 (g : Gl K mg base) : BnD ⟨K, g.cls, g.T⟩ K g.fd_07 ["self", "name", "data", "time", "comment"] 3 ["time", "comment"] (0 :: List.map (· + 1) [0, 1, 2, 3]) [] := g.q5.bn_Entry_init_1
theorem Gl.cl_Entry (g : Gl K mg base) : Cls K (g.cls 20) := g.q5.cl_Entry
theorem Gl.mk_Entry (g : Gl K mg base) : Mk K (g.cls 20) g.a_07 := g.q5.mk_Entry
theorem Gl.pr_Entry_data (g : Gl K mg base) : ∃ p, PropOf K (g.cls 20) "data" p g.a_06 := g.q5.pr_Entry_data
theorem Gl.pr_Entry_size (g : Gl K mg base) : ∃ p, PropOf K (g.cls 20) "size" p g.a_08 := g.q5.pr_Entry_size
theorem Gl.pr_Entry_check (g : Gl K mg base) : ∃ p, PropOf K (g.cls 20) "check" p g.a_04 := g.q5.pr_Entry_check
theorem Gl.kb_row_of_0 (g : Gl K mg base) : KwB K g.fd_0y ["entry", "place"] ["place", "entry"] [1, 0] := g.q5.kb_row_of_0
theorem Gl.kb_record_of_0 (g : Gl K mg base) : KwB K g.fd_0c ["entry"] ["entry"] [0] := g.q5.kb_record_of_0
theorem Gl.kb_end_of_0 (g : Gl K mg base) : KwB K g.fd_0s ["number", "size", "place", "comment"] ["comment", "place", "size", "number"] [3, 2, 1, 0] := g.q5.kb_end_of_0
theorem Gl.tb_l_refused_right (g : Gl K mg base) : LamX.TabB base mg g.co_l_refused_right g.ta_l_refused_right := g.q5.tb_l_refused_right
theorem Gl.cd_l_refused_right (g : Gl K mg base) : g.fd_00.code = .ref g.co_l_refused_right := g.q5.cd_l_refused_right
theorem Gl.tm_l_refused_right (g : Gl K mg base) : (g.ta_l_refused_right, ("_law_refused_right.<locals>.<lambda>" : Str)) ∈ g.T := g.q5.tm_l_refused_right
theorem Gl.tu_l_refused_right (g : Gl K mg base) : ∀ p ∈ g.T, p.1 = g.ta_l_refused_right → p.2 = ("_law_refused_right.<locals>.<lambda>" : Str) := g.q5.tu_l_refused_right
end
section
variable {P : Program} {w : World} {K : PySem.W.Frag} {mg : Str → Option Value} {base : Heap}
abbrev Gl.C (g : Gl K mg base) : RC := ⟨K, g.cls, g.T⟩
def sv_0b : Sv := zqw (evAnd (zqp (Blt.run CL .isinstance) (zqa (zqc 0) (zqa (evC (.ty "int")) (zqh)))) (evAnd (evNot (zqp (Blt.run CL .isinstance) (zqa (zqc 0) (zqa (evC (.ty "bool")) (zqh))))) (evChain (dCmp .LtE) (dCmp .LtE) (zqc 1) (zqc 0) (zqc 2))))
def F_0b : Fn := fnSv 3 3 sv_0b
theorem ok_0b (g : Gl K mg base) : FnG P w K mg base 1 g.a_0b g.fd_0b ["thing", "low", "high"] (SpF g.C F_0b) :=
 Fun.okG (C := g.C) (N := N_0b) (sv := sv_0b) g.F_0b sc_0b fun cdv A outer s H E hcd hr hg O =>
  have fx := zqE (C := g.C) hr hg
  zqi (zqu (w_and fx (zqG fx g.kc .isinstance g.z_isinstance (w_k (zqd 0) (w_k (w_ty "int" rfl g.z_int) (zqb)))) (w_and fx (w_not fx (zqG fx g.kc .isinstance g.z_isinstance (w_k (zqd 0) (w_k (w_ty "bool" rfl g.z_bool) (zqb))))) (pd_one (w_chain fx .LtE .LtE (zqd 1) (zqd 0) (zqd 2))))))
def e_0e_1 : Ev := evLc [1] (ivE (zqc 0)) (zqq 1) (tvYes) (evN (zqr F_0b (zqa (zqc 1) (zqa (evC (.int 0)) (zqa (evC (.int 255)) (zqh))))))
def sv_0e : Sv := zqw (evAnd (zqp (Blt.run CL .isinstance) (zqa (zqc 0) (zqa (evTup (zqg (evC (.ty "list")) (zqg (evC (.ty "tuple")) (zqz)))) (zqh)))) (zqp (Blt.run CL .all) (zqa (e_0e_1) (zqh))))
def F_0e : Fn := fnSv 2 1 sv_0e
theorem ok_0e (g : Gl K mg base) : FnG P w K mg base 2 g.a_0e g.fd_0e ["thing"] (SpF g.C F_0e) :=
 Fun.okG (C := g.C) (N := N_0e) (sv := sv_0e) g.F_0e sc_0e fun cdv A outer s H E hcd hr hg O =>
  have fx := zqE (C := g.C) hr hg
  zqi (zqu (w_and fx (zqG fx g.kc .isinstance g.z_isinstance (w_k (zqd 0) (w_k (pd_tup (w_a (w_ty "list" rfl g.z_list) (w_a (w_ty "tuple" rfl g.z_tuple) (w_a0)))) (zqb)))) (pd_one (zqG fx g.kc .all g.z_all (w_k (w_lc [("one", 1)] fx sc_0e.nd (wi_e fx (zqd 0)) (blk_of (by kernel_rfl)) (fun _ _ _ _ _ fx => zqn 1 sc_0e.nd) (fun _ _ _ _ _ fx => w_t0) (fun _ _ _ _ _ fx _ _ => zqv fx (ok_0b g) g.m_0b g.F_0b.kp g.b_0b (w_k (zqd 1) (w_k (zqe) (w_k (w_gint g.c_GREATEST_BYTE) (zqb)))))) (zqb))))))
def sv_0a : Sv := svIf (tvNot (tvE (evN (zqr F_0e (zqa (zqc 0) (zqh)))))) (zqI 1) (svNx)
def F_0a : Fn := fnSv 1 1 sv_0a
theorem ok_0a (g : Gl K mg base) : FnG P w K mg base 3 g.a_0a g.fd_0a ["thing"] (SpF g.C F_0a) :=
 Fun.okG (C := g.C) (N := N_0a) (sv := sv_0a) g.F_0a sc_0a fun cdv A outer s H E hcd hr hg O =>
  have fx := zqE (C := g.C) hr hg
  zqi (ws_if (ptd_not (wt_e fx (zqv fx (ok_0e g) g.m_0e g.F_0e.kp g.b_0e (w_k (zqd 0) (zqb))))) (zqi (ws_raise fx g.kc 1 g.m_NoBytes)) (zqA))
def b_0d_1 : Sv := zqm (svApp 2 (zqk (dBin .Mod) (zqc 3) (evC (.int 256)))) (zqs 3 (zqk (dBin .FloorDiv) (zqc 3) (evC (.int 256))))
def t_0d_4 : Sv := zqw (zqc 2)
def t_0d_3 : Sv := zqm (svIf (tvB (zqk (dCmp .Gt) (zqc 3) (evC (.int 0)))) (zqI 2) (svNx)) (t_0d_4)
def t_0d_2 : Sv := zqm (svFor (ivR1 (zqa (zqc 1) (zqh))) (zqq 4) (b_0d_1)) (t_0d_3)
def t_0d_1 : Sv := zqm (svThen (svPar 2 (zqF (zqz)) (svPar 3 (zqc 0) (svNx)))) (t_0d_2)
def sv_0d : Sv := zqm (svIf (tvOr (tvNot (tvE (evN (zqr F_0b (zqa (zqc 0) (zqa (evC (.int 0)) (zqa (zqk (dBin .Sub) (zqk (dBin .Pow) (evC (.int 256)) (evC (.int 8))) (evC (.int 1))) (zqh)))))))) (tvNot (tvE (evN (zqr F_0b (zqa (zqc 1) (zqa (evC (.int 0)) (zqa (evC (.int 8)) (zqh))))))))) (zqI 2) (svNx)) (t_0d_1)
def F_0d : Fn := fnSv 5 2 sv_0d
theorem ok_0d (g : Gl K mg base) : FnG P w K mg base 2 g.a_0d g.fd_0d ["number", "size"] (SpF g.C F_0d) :=
 Fun.okG (C := g.C) (N := N_0d) (sv := sv_0d) g.F_0d sc_0d fun cdv A outer s H E hcd hr hg O =>
  have fx := zqE (C := g.C) hr hg
  zqf (ws_if (PWD.pt (pwd_or (ptd_not (wt_e fx (zqv fx (ok_0b g) g.m_0b g.F_0b.kp g.b_0b (w_k (zqd 0) (w_k (zqe) (w_k (zqj fx .Sub (zqj fx .Pow (zqe) (zqe)) (zqe)) (zqb))))))) (pwd_or1 (ptd_not (wt_e fx (zqv fx (ok_0b g) g.m_0b g.F_0b.kp g.b_0b (w_k (zqd 1) (w_k (zqe) (w_k (w_gint g.c_MOST_BYTES) (zqb)))))))))) (zqi (ws_raise fx g.kc 2 g.m_NoNumber)) (zqA)) (zqf (ws_par 2 3 fx sc_0d.nd (fun O H0 => pd_lst (w_a0)) (fun O H0 => zqd 0)) (zqf (ws_for fx pas_of (wi_r1 g.z_range (w_k (zqd 1) (zqb))) (zqn 4 sc_0d.nd) (f := b_0d_1) (zqf (ws_append 2 fx (zqj fx .Mod (zqd 3) (zqe))) (zqi (zqt 3 sc_0d.nd (zqj fx .FloorDiv (zqd 3) (zqe)))))) (zqf (ws_if (wt_cmp fx .Gt (zqd 3) (zqe)) (zqi (ws_raise fx g.kc 2 g.m_NoNumber)) (zqA)) (zqi (zqu (zqd 2))))))
def u1_0m_2 : Sv := zqs 0 (zqk (dBin .BitXor) (zqk (dBin .RShift) (zqc 0) (evC (.int 4))) (evN (zqk dIx (evG (.tup k_STEPS)) (zqk (dBin .BitAnd) (zqc 0) (evC (.int 15))))))
def u1_0m_1 : Sv := zqm (zqs 0 (zqk (dBin .BitXor) (zqk (dBin .RShift) (zqc 0) (evC (.int 4))) (evN (zqk dIx (evG (.tup k_STEPS)) (zqk (dBin .BitAnd) (zqc 0) (evC (.int 15))))))) (u1_0m_2)
def b_0m_3 : Sv := zqm (zqs 0 (zqk (dBin .BitXor) (zqc 0) (zqc 2))) (u1_0m_1)
def sv_0m : Sv := zqm (svFor (ivE (zqc 1)) (zqq 2) (b_0m_3)) (zqw (zqc 0))
def F_0m : Fn := fnSv 3 2 sv_0m
theorem ok_0m (g : Gl K mg base) : FnG P w K mg base 1 g.a_0m g.fd_0m ["crc", "some"] (SpF g.C F_0m) :=
 Fun.okG (C := g.C) (N := N_0m) (sv := sv_0m) g.F_0m sc_0m fun cdv A outer s H E hcd hr hg O =>
  have fx := zqE (C := g.C) hr hg
  zqf (ws_for fx pas_of (wi_e fx (zqd 1)) (zqn 2 sc_0m.nd) (f := b_0m_3) (zqf (zqt 0 sc_0m.nd (zqj fx .BitXor (zqd 0) (zqd 2))) (zqf (zqt 0 sc_0m.nd (zqj fx .BitXor (zqj fx .RShift (zqd 0) (zqe)) (w_ix fx (w_gtup g.c_STEPS) (zqj fx .BitAnd (zqd 0) (zqe))))) (zqi (zqt 0 sc_0m.nd (zqj fx .BitXor (zqj fx .RShift (zqd 0) (zqe)) (w_ix fx (w_gtup g.c_STEPS) (zqj fx .BitAnd (zqd 0) (zqe))))))))) (zqi (zqu (zqd 0)))
def sv_10 : Sv := zqm (svExpr (evN (zqr F_0a (zqa (zqc 0) (zqh))))) (zqw (zqk (dBin .BitXor) (evN (zqr F_0m (zqa (evC (.int 4294967295)) (zqa (zqc 0) (zqh))))) (evC (.int 4294967295))))
def F_10 : Fn := fnSv 1 1 sv_10
theorem ok_10 (g : Gl K mg base) : FnG P w K mg base 4 g.a_10 g.fd_10 ["data"] (SpF g.C F_10) :=
 Fun.okG (C := g.C) (N := N_10) (sv := sv_10) g.F_10 sc_10 fun cdv A outer s H E hcd hr hg O =>
  have fx := zqE (C := g.C) hr hg
  zqf (ws_expr (zqv fx (ok_0a g) g.m_0a g.F_0a.kp g.b_0a (w_k (zqd 0) (zqb)))) (zqi (zqu (zqj fx .BitXor (zqv fx (ok_0m g) g.m_0m g.F_0m.kp g.b_0m (w_k (w_gint g.c_GREATEST_CHECK) (w_k (zqd 0) (zqb)))) (w_gint g.c_GREATEST_CHECK))))
def sv_02 : Sv := zqw (evAnd (evChain (dCmp .LtE) (dCmp .LtE) (evC (.int 32)) (zqc 0) (evC (.int 126))) (zqk (dCmp .NotEq) (zqc 0) (evC (.int 37))))
def F_02 : Fn := fnSv 1 1 sv_02
theorem ok_02 (g : Gl K mg base) : FnG P w K mg base 1 g.a_02 g.fd_02 ["number"] (SpF g.C F_02) :=
 Fun.okG (C := g.C) (N := N_02) (sv := sv_02) g.F_02 sc_02 fun cdv A outer s H E hcd hr hg O =>
  have fx := zqE (C := g.C) hr hg
  zqi (zqu (w_and fx (w_chain fx .LtE .LtE (w_gint g.c_FIRST_SIGN) (zqd 0) (w_gint g.c_LAST_SIGN)) (pd_one (w_cmp fx .NotEq (zqd 0) (w_gint g.c_PERCENT)))))
def e_0o_1 : Ev := evLc [1] (ivE (zqc 0)) (zqq 1) (tvYes) (evN (zqr F_02 (zqa (zqp (Blt.run CL .ord) (zqa (zqc 1) (zqh))) (zqh))))
def sv_0o : Sv := zqw (evAnd (zqp (Blt.run CL .isinstance) (zqa (zqc 0) (zqa (evC (.ty "str")) (zqh)))) (zqp (Blt.run CL .all) (zqa (e_0o_1) (zqh))))
def F_0o : Fn := fnSv 2 1 sv_0o
theorem ok_0o (g : Gl K mg base) : FnG P w K mg base 2 g.a_0o g.fd_0o ["thing"] (SpF g.C F_0o) :=
 Fun.okG (C := g.C) (N := N_0o) (sv := sv_0o) g.F_0o sc_0o fun cdv A outer s H E hcd hr hg O =>
  have fx := zqE (C := g.C) hr hg
  zqi (zqu (w_and fx (zqG fx g.kc .isinstance g.z_isinstance (w_k (zqd 0) (w_k (w_ty "str" rfl g.z_str) (zqb)))) (pd_one (zqG fx g.kc .all g.z_all (w_k (w_lc [("sign", 1)] fx sc_0o.nd (wi_e fx (zqd 0)) (blk_of (by kernel_rfl)) (fun _ _ _ _ _ fx => zqn 1 sc_0o.nd) (fun _ _ _ _ _ fx => w_t0) (fun _ _ _ _ _ fx _ _ => zqv fx (ok_02 g) g.m_02 g.F_02.kp g.b_02 (w_k (zqG fx g.kc .ord g.z_ord (w_k (zqd 1) (zqb))) (zqb)))) (zqb))))))
def sv_0n : Sv := zqw (evAnd (evN (zqr F_0o (zqa (zqc 0) (zqh)))) (evChain (dCmp .LtE) (dCmp .LtE) (evC (.int 1)) (zqp (Blt.run CL .len) (zqa (zqc 0) (zqh))) (evC (.int 24))))
def F_0n : Fn := fnSv 1 1 sv_0n
theorem ok_0n (g : Gl K mg base) : FnG P w K mg base 3 g.a_0n g.fd_0n ["thing"] (SpF g.C F_0n) :=
 Fun.okG (C := g.C) (N := N_0n) (sv := sv_0n) g.F_0n sc_0n fun cdv A outer s H E hcd hr hg O =>
  have fx := zqE (C := g.C) hr hg
  zqi (zqu (w_and fx (zqv fx (ok_0o g) g.m_0o g.F_0o.kp g.b_0o (w_k (zqd 0) (zqb))) (pd_one (w_chain fx .LtE .LtE (zqe) (zqG fx g.kc .len g.z_len (w_k (zqd 0) (zqb))) (w_gint g.c_LONGEST_NAME)))))
def sv_09 : Sv := zqw (evAnd (evN (zqr F_0o (zqa (zqc 0) (zqh)))) (zqk (dCmp .LtE) (zqp (Blt.run CL .len) (zqa (zqc 0) (zqh))) (evC (.int 40))))
def F_09 : Fn := fnSv 1 1 sv_09
theorem ok_09 (g : Gl K mg base) : FnG P w K mg base 3 g.a_09 g.fd_09 ["thing"] (SpF g.C F_09) :=
 Fun.okG (C := g.C) (N := N_09) (sv := sv_09) g.F_09 sc_09 fun cdv A outer s H E hcd hr hg O =>
  have fx := zqE (C := g.C) hr hg
  zqi (zqu (w_and fx (zqv fx (ok_0o g) g.m_0o g.F_0o.kp g.b_0o (w_k (zqd 0) (zqb))) (pd_one (w_cmp fx .LtE (zqG fx g.kc .len g.z_len (w_k (zqd 0) (zqb))) (w_gint g.c_LONGEST_COMMENT)))))
def e_01_1 : Ev := evLc [1] (ivE (zqc 0)) (zqq 1) (tvYes) (zqp (Blt.run CL .ord) (zqa (zqc 1) (zqh)))
def sv_01 : Sv := zqw (e_01_1)
def F_01 : Fn := fnSv 2 1 sv_01
theorem ok_01 (g : Gl K mg base) : FnG P w K mg base 1 g.a_01 g.fd_01 ["text"] (SpF g.C F_01) :=
 Fun.okG (C := g.C) (N := N_01) (sv := sv_01) g.F_01 sc_01 fun cdv A outer s H E hcd hr hg O =>
  have fx := zqE (C := g.C) hr hg
  zqi (zqu (w_lc [("sign", 1)] fx sc_01.nd (wi_e fx (zqd 0)) (blk_of (by kernel_rfl)) (fun _ _ _ _ _ fx => zqn 1 sc_01.nd) (fun _ _ _ _ _ fx => w_t0) (fun _ _ _ _ _ fx _ _ => zqG fx g.kc .ord g.z_ord (w_k (zqd 1) (zqb)))))
def sv_0l : Sv := zqm (zqs 2 (evAnd (zqk (dCmp .Eq) (zqk (dBin .Mod) (zqc 0) (evC (.int 4))) (evC (.int 0))) (evOr (zqk (dCmp .NotEq) (zqk (dBin .Mod) (zqc 0) (evC (.int 100))) (evC (.int 0))) (zqk (dCmp .Eq) (zqk (dBin .Mod) (zqc 0) (evC (.int 400))) (evC (.int 0)))))) (zqw (zqk (dBin .Add) (evN (zqk dIx (evG (.tup k_MONTHS)) (zqk (dBin .Sub) (zqc 1) (evC (.int 1))))) (zqp (Blt.run CL .int) (zqa (evAnd (zqk (dCmp .Eq) (zqc 1) (evC (.int 2))) (zqc 2)) (zqh)))))
def F_0l : Fn := fnSv 3 2 sv_0l
theorem ok_0l (g : Gl K mg base) : FnG P w K mg base 1 g.a_0l g.fd_0l ["year", "month"] (SpF g.C F_0l) :=
 Fun.okG (C := g.C) (N := N_0l) (sv := sv_0l) g.F_0l sc_0l fun cdv A outer s H E hcd hr hg O =>
  have fx := zqE (C := g.C) hr hg
  zqf (zqt 2 sc_0l.nd (w_and fx (w_cmp fx .Eq (zqj fx .Mod (zqd 0) (zqe)) (zqe)) (pd_one (w_or fx (w_cmp fx .NotEq (zqj fx .Mod (zqd 0) (zqe)) (zqe)) (pd_one (w_cmp fx .Eq (zqj fx .Mod (zqd 0) (zqe)) (zqe))))))) (zqi (zqu (zqj fx .Add (w_ix fx (w_gtup g.c_MONTHS) (zqj fx .Sub (zqd 1) (zqe))) (zqG fx g.kc .int g.z_int (w_k (w_and fx (w_cmp fx .Eq (zqd 1) (zqe)) (pd_one (zqd 2))) (zqb))))))
def t_0p_4 : Sv := zqw (evAnd (evN (zqr F_0b (zqa (zqc 5) (zqa (evC (.int 0)) (zqa (evC (.int 59)) (zqh)))))) (evAnd (evN (zqr F_0b (zqa (zqc 6) (zqa (evC (.int 0)) (zqa (evC (.int 59)) (zqh)))))) (zqk (dCmp .Eq) (zqk (dBin .Mod) (zqc 6) (evC (.int 2))) (evC (.int 0)))))
def t_0p_3 : Sv := zqm (svIf (tvOr (tvNot (tvE (evN (zqr F_0b (zqa (zqc 3) (zqa (evC (.int 1)) (zqa (evN (zqr F_0l (zqa (zqc 1) (zqa (zqc 2) (zqh))))) (zqh)))))))) (tvNot (tvE (evN (zqr F_0b (zqa (zqc 4) (zqa (evC (.int 0)) (zqa (evC (.int 23)) (zqh))))))))) (zqw (evC (.bl false))) (svNx)) (t_0p_4)
def t_0p_2 : Sv := zqm (svIf (tvOr (tvNot (tvE (evN (zqr F_0b (zqa (zqc 1) (zqa (evN (zqk dIx (evG (.tup k_EARLIEST)) (evC (.int 0)))) (zqa (evC (.int 2107)) (zqh)))))))) (tvNot (tvE (evN (zqr F_0b (zqa (zqc 2) (zqa (evC (.int 1)) (zqa (evC (.int 12)) (zqh))))))))) (zqw (evC (.bl false))) (svNx)) (t_0p_3)
def t_0p_1 : Sv := zqm (svAsg (zqc 0) (gvTup 6 (zqD (zqq 1) (zqD (zqq 2) (zqD (zqq 3) (zqD (zqq 4) (zqD (zqq 5) (zqD (zqq 6) (gvNil))))))))) (t_0p_2)
def sv_0p : Sv := zqm (svIf (tvOr (tvNot (tvE (zqp (Blt.run CL .isinstance) (zqa (zqc 0) (zqa (evC (.ty "tuple")) (zqh)))))) (tvB (zqk (dCmp .NotEq) (zqp (Blt.run CL .len) (zqa (zqc 0) (zqh))) (evC (.int 6))))) (zqw (evC (.bl false))) (svNx)) (t_0p_1)
def F_0p : Fn := fnSv 7 1 sv_0p
theorem ok_0p (g : Gl K mg base) : FnG P w K mg base 2 g.a_0p g.fd_0p ["thing"] (SpF g.C F_0p) :=
 Fun.okG (C := g.C) (N := N_0p) (sv := sv_0p) g.F_0p sc_0p fun cdv A outer s H E hcd hr hg O =>
  have fx := zqE (C := g.C) hr hg
  zqf (ws_if (PWD.pt (pwd_or (ptd_not (wt_e fx (zqG fx g.kc .isinstance g.z_isinstance (w_k (zqd 0) (w_k (w_ty "tuple" rfl g.z_tuple) (zqb)))))) (pwd_or1 (wt_cmp fx .NotEq (zqG fx g.kc .len g.z_len (w_k (zqd 0) (zqb))) (zqe))))) (zqi (zqu (w_bool))) (zqA)) (zqf (ws_asg (zqd 0) (wg_tup fx (n := 6) (wg_n (zqn 1 sc_0p.nd) (wg_n (zqn 2 sc_0p.nd) (wg_n (zqn 3 sc_0p.nd) (wg_n (zqn 4 sc_0p.nd) (wg_n (zqn 5 sc_0p.nd) (wg_n (zqn 6 sc_0p.nd) (wg_n0))))))))) (zqf (ws_if (PWD.pt (pwd_or (ptd_not (wt_e fx (zqv fx (ok_0b g) g.m_0b g.F_0b.kp g.b_0b (w_k (zqd 1) (w_k (w_ix fx (w_gtup g.c_EARLIEST) (zqe)) (w_k (w_gint g.c_LATEST_YEAR) (zqb))))))) (pwd_or1 (ptd_not (wt_e fx (zqv fx (ok_0b g) g.m_0b g.F_0b.kp g.b_0b (w_k (zqd 2) (w_k (zqe) (w_k (zqe) (zqb)))))))))) (zqi (zqu (w_bool))) (zqA)) (zqf (ws_if (PWD.pt (pwd_or (ptd_not (wt_e fx (zqv fx (ok_0b g) g.m_0b g.F_0b.kp g.b_0b (w_k (zqd 3) (w_k (zqe) (w_k (zqv fx (ok_0l g) g.m_0l g.F_0l.kp g.b_0l (w_k (zqd 1) (w_k (zqd 2) (zqb)))) (zqb))))))) (pwd_or1 (ptd_not (wt_e fx (zqv fx (ok_0b g) g.m_0b g.F_0b.kp g.b_0b (w_k (zqd 4) (w_k (zqe) (w_k (zqe) (zqb)))))))))) (zqi (zqu (w_bool))) (zqA)) (zqi (zqu (w_and fx (zqv fx (ok_0b g) g.m_0b g.F_0b.kp g.b_0b (w_k (zqd 5) (w_k (zqe) (w_k (zqe) (zqb))))) (w_and fx (zqv fx (ok_0b g) g.m_0b g.F_0b.kp g.b_0b (w_k (zqd 6) (w_k (zqe) (w_k (zqe) (zqb))))) (pd_one (w_cmp fx .Eq (zqj fx .Mod (zqd 6) (zqe)) (zqe))))))))))
def t_0k_2 : Sv := zqw (evTup (zqg (zqk (dBin .Add) (zqk (dBin .Add) (zqk (dBin .Mult) (zqc 4) (evC (.int 2048))) (zqk (dBin .Mult) (zqc 5) (evC (.int 32)))) (zqk (dBin .FloorDiv) (zqc 6) (evC (.int 2)))) (zqg (zqk (dBin .Add) (zqk (dBin .Add) (zqk (dBin .Mult) (zqk (dBin .Sub) (zqc 1) (evN (zqk dIx (evG (.tup k_EARLIEST)) (evC (.int 0))))) (evC (.int 512))) (zqk (dBin .Mult) (zqc 2) (evC (.int 32)))) (zqc 3)) (zqz))))
def t_0k_1 : Sv := zqm (svAsg (zqc 0) (gvTup 6 (zqD (zqq 1) (zqD (zqq 2) (zqD (zqq 3) (zqD (zqq 4) (zqD (zqq 5) (zqD (zqq 6) (gvNil))))))))) (t_0k_2)
def sv_0k : Sv := zqm (svIf (tvNot (tvE (evN (zqr F_0p (zqa (zqc 0) (zqh)))))) (zqI 3) (svNx)) (t_0k_1)
def F_0k : Fn := fnSv 7 1 sv_0k
theorem ok_0k (g : Gl K mg base) : FnG P w K mg base 3 g.a_0k g.fd_0k ["time"] (SpF g.C F_0k) :=
 Fun.okG (C := g.C) (N := N_0k) (sv := sv_0k) g.F_0k sc_0k fun cdv A outer s H E hcd hr hg O =>
  have fx := zqE (C := g.C) hr hg
  zqf (ws_if (ptd_not (wt_e fx (zqv fx (ok_0p g) g.m_0p g.F_0p.kp g.b_0p (w_k (zqd 0) (zqb))))) (zqi (ws_raise fx g.kc 3 g.m_NoTime)) (zqA)) (zqf (ws_asg (zqd 0) (wg_tup fx (n := 6) (wg_n (zqn 1 sc_0k.nd) (wg_n (zqn 2 sc_0k.nd) (wg_n (zqn 3 sc_0k.nd) (wg_n (zqn 4 sc_0k.nd) (wg_n (zqn 5 sc_0k.nd) (wg_n (zqn 6 sc_0k.nd) (wg_n0))))))))) (zqi (zqu (pd_tup (w_a (zqj fx .Add (zqj fx .Add (zqj fx .Mult (zqd 4) (zqe)) (zqj fx .Mult (zqd 5) (zqe))) (zqj fx .FloorDiv (zqd 6) (zqe))) (w_a (zqj fx .Add (zqj fx .Add (zqj fx .Mult (zqj fx .Sub (zqd 1) (w_ix fx (w_gtup g.c_EARLIEST) (zqe))) (zqe)) (zqj fx .Mult (zqd 2) (zqe))) (zqd 3)) (w_a0)))))))
def t_07_8 : Sv := svSetF CL "own_check" (zqc 0) (evN (zqr F_10 (zqa (evFldC CL "own_data" (zqc 0)) (zqh))))
def t_07_7 : Sv := zqm (svSetF CL "comment" (zqc 0) (zqc 4)) (t_07_8)
def t_07_6 : Sv := zqm (svSetF CL "time" (zqc 0) (zqc 3)) (t_07_7)
def t_07_5 : Sv := zqm (svSetF CL "own_data" (zqc 0) (zqp (Blt.run CL .list) (zqa (zqc 2) (zqh)))) (t_07_6)
def t_07_4 : Sv := zqm (svSetF CL "name" (zqc 0) (zqc 1)) (t_07_5)
def t_07_3 : Sv := zqm (svIf (tvNot (tvE (evN (zqr F_09 (zqa (zqc 4) (zqh)))))) (zqI 5) (svNx)) (t_07_4)
def t_07_2 : Sv := zqm (svIf (tvNot (tvE (evN (zqr F_0p (zqa (zqc 3) (zqh)))))) (zqI 3) (svNx)) (t_07_3)
def t_07_1 : Sv := zqm (svIf (tvOr (tvNot (tvE (evN (zqr F_0e (zqa (zqc 2) (zqh)))))) (tvB (zqk (dCmp .Gt) (zqp (Blt.run CL .len) (zqa (zqc 2) (zqh))) (evC (.int 1500))))) (zqI 6) (svNx)) (t_07_2)
def sv_07 : Sv := zqm (svIf (tvNot (tvE (evN (zqr F_0n (zqa (zqc 1) (zqh)))))) (zqI 4) (svNx)) (t_07_1)
def F_07 : Fn := fnIni 5 5 20 sv_07
theorem ok_07 (g : Gl K mg base) : FnG P w K mg base 5 g.a_07 g.fd_07 ["self", "name", "data", "time", "comment"] (SpI g.C 20 F_07) :=
 FunY.okI (C := g.C) (N := N_07) (sv := sv_07) g.F_07 sc_07 fun cdv A outer s H E hcd hr hg O H0 =>
  have fx := zqE (C := g.C) hr hg
  zqf (ws_if (ptd_not (wt_e fx (zqv fx (ok_0n g) g.m_0n g.F_0n.kp g.b_0n (w_k (zqd 1) (zqb))))) (zqi (ws_raise fx g.kc 4 g.m_NoName)) (zqA)) (zqf (ws_if (PWD.pt (pwd_or (ptd_not (wt_e fx (zqv fx (ok_0e g) g.m_0e g.F_0e.kp g.b_0e (w_k (zqd 2) (zqb))))) (pwd_or1 (wt_cmp fx .Gt (zqG fx g.kc .len g.z_len (w_k (zqd 2) (zqb))) (w_gint g.c_MOST_DATA))))) (zqi (ws_raise fx g.kc 6 g.m_NoData)) (zqA)) (zqf (ws_if (ptd_not (wt_e fx (zqv fx (ok_0p g) g.m_0p g.F_0p.kp g.b_0p (w_k (zqd 3) (zqb))))) (zqi (ws_raise fx g.kc 3 g.m_NoTime)) (zqA)) (zqf (ws_if (ptd_not (wt_e fx (zqv fx (ok_09 g) g.m_09 g.F_09.kp g.b_09 (w_k (zqd 4) (zqb))))) (zqi (ws_raise fx g.kc 5 g.m_NoComment)) (zqA)) (zqf (psd_setF fx.K g.kc (zqd 0) (zqd 1) rfl) (zqf (psd_setF fx.K g.kc (zqd 0) (zqG fx g.kc .list g.z_list (w_k (zqd 2) (zqb))) rfl) (zqf (psd_setF fx.K g.kc (zqd 0) (zqd 3) rfl) (zqf (psd_setF fx.K g.kc (zqd 0) (zqd 4) rfl) (zqi (psd_setF fx.K g.kc (zqd 0) (zqv fx (ok_10 g) g.m_check_checks g.F_10.kp g.b_10 (w_k (pd_fldC fx.K g.kc (zqd 0) rfl) (zqb))) rfl)))))))))
def sv_06 : Sv := zqw (zqp (Blt.run CL .list) (zqa (evFld CL "own_data" (zqc 0)) (zqh)))
def F_06 : Fn := fnSv 1 1 sv_06
theorem ok_06 (g : Gl K mg base) : FnG P w K mg base 1 g.a_06 g.fd_06 ["self"] (SpF g.C F_06) :=
 Fun.okG (C := g.C) (N := N_06) (sv := sv_06) g.F_06 sc_06 fun cdv A outer s H E hcd hr hg O =>
  have fx := zqE (C := g.C) hr hg
  zqi (zqu (zqG fx g.kc .list g.z_list (w_k (w_fld fx g.kc (zqd 0)) (zqb))))
def sv_08 : Sv := zqw (zqp (Blt.run CL .len) (zqa (evFld CL "own_data" (zqc 0)) (zqh)))
def F_08 : Fn := fnSv 1 1 sv_08
theorem ok_08 (g : Gl K mg base) : FnG P w K mg base 1 g.a_08 g.fd_08 ["self"] (SpF g.C F_08) :=
 Fun.okG (C := g.C) (N := N_08) (sv := sv_08) g.F_08 sc_08 fun cdv A outer s H E hcd hr hg O =>
  have fx := zqE (C := g.C) hr hg
  zqi (zqu (zqG fx g.kc .len g.z_len (w_k (w_fld fx g.kc (zqd 0)) (zqb))))
def sv_04 : Sv := zqw (evFld CL "own_check" (zqc 0))
def F_04 : Fn := fnSv 1 1 sv_04
theorem ok_04 (g : Gl K mg base) : FnG P w K mg base 1 g.a_04 g.fd_04 ["self"] (SpF g.C F_04) :=
 Fun.okG (C := g.C) (N := N_04) (sv := sv_04) g.F_04 sc_04 fun cdv A outer s H E hcd hr hg O =>
  have fx := zqE (C := g.C) hr hg
  zqi (zqu (w_fld fx g.kc (zqd 0)))
def P_size_1 : PTab := fun c => if c = 20 then some F_08 else none
theorem lP_size_1 (g : Gl K mg base) : POk' P w K mg base g.C 1 "size" P_size_1 := fun c F h => by
 unfold P_size_1 at h
 by_cases hc : c = 20
 · subst hc
   cases h
   obtain ⟨p, hp⟩ := g.pr_Entry_size
   exact ⟨p, _, _, _, g.cl_Entry, hp, (ok_08 g).mono (by decide), g.b_08⟩
 rw [if_neg hc] at h
 cases h
def P_check_1 : PTab := fun c => if c = 20 then some F_04 else none
theorem lP_check_1 (g : Gl K mg base) : POk' P w K mg base g.C 1 "check" P_check_1 := fun c F h => by
 unfold P_check_1 at h
 by_cases hc : c = 20
 · subst hc
   cases h
   obtain ⟨p, hp⟩ := g.pr_Entry_check
   exact ⟨p, _, _, _, g.cl_Entry, hp, (ok_04 g).mono (by decide), g.b_04⟩
 rw [if_neg hc] at h
 cases h
def t_03_3 : Sv := zqw (zqk (dBin .Add) (zqk (dBin .Add) (zqk (dBin .Add) (zqk (dBin .Add) (zqc 4) (zqc 3)) (zqc 3)) (evN (zqr F_0d (zqa (zqp (Blt.run CL .len) (zqa (evFld CL "name" (zqc 0)) (zqh))) (zqa (evC (.int 2)) (zqh)))))) (zqF (zqg (evC (.int 0)) (zqg (evC (.int 0)) (zqz)))))
def t_03_2 : Sv := zqm (zqs 4 (zqk (dBin .Add) (zqk (dBin .Add) (evN (zqr F_0d (zqa (zqc 1) (zqa (evC (.int 2)) (zqh))))) (evN (zqr F_0d (zqa (zqc 2) (zqa (evC (.int 2)) (zqh)))))) (evN (zqr F_0d (zqa (evN (evPrp P_check_1 (zqc 0))) (zqa (evC (.int 4)) (zqh))))))) (t_03_3)
def t_03_1 : Sv := zqm (zqs 3 (evN (zqr F_0d (zqa (evN (evPrp P_size_1 (zqc 0))) (zqa (evC (.int 4)) (zqh)))))) (t_03_2)
def sv_03 : Sv := zqm (svAsg (evN (zqr F_0k (zqa (evFld CL "time" (zqc 0)) (zqh)))) (gvTup 2 (zqD (zqq 1) (zqD (zqq 2) (gvNil))))) (t_03_1)
def F_03 : Fn := fnSv 5 1 sv_03
theorem ok_03 (g : Gl K mg base) : FnG P w K mg base 4 g.a_03 g.fd_03 ["entry"] (SpF g.C F_03) :=
 Fun.okG (C := g.C) (N := N_03) (sv := sv_03) g.F_03 sc_03 fun cdv A outer s H E hcd hr hg O =>
  have fx := zqE (C := g.C) hr hg
  zqf (ws_asg (zqv fx (ok_0k g) g.m_0k g.F_0k.kp g.b_0k (w_k (w_fld fx g.kc (zqd 0)) (zqb))) (wg_tup fx (n := 2) (wg_n (zqn 1 sc_03.nd) (wg_n (zqn 2 sc_03.nd) (wg_n0))))) (zqf (zqt 3 sc_03.nd (zqv fx (ok_0d g) g.m_0d g.F_0d.kp g.b_0d (w_k (w_prp 1 P_size_1 fx (lP_size_1 g) (zqd 0)) (w_k (zqe) (zqb))))) (zqf (zqt 4 sc_03.nd (zqj fx .Add (zqj fx .Add (zqv fx (ok_0d g) g.m_0d g.F_0d.kp g.b_0d (w_k (zqd 1) (w_k (zqe) (zqb)))) (zqv fx (ok_0d g) g.m_0d g.F_0d.kp g.b_0d (w_k (zqd 2) (w_k (zqe) (zqb))))) (zqv fx (ok_0d g) g.m_0d g.F_0d.kp g.b_0d (w_k (w_prp 1 P_check_1 fx (lP_check_1 g) (zqd 0)) (w_k (zqe) (zqb)))))) (zqi (zqu (zqj fx .Add (zqj fx .Add (zqj fx .Add (zqj fx .Add (zqd 4) (zqd 3)) (zqd 3)) (zqv fx (ok_0d g) g.m_0d g.F_0d.kp g.b_0d (w_k (zqG fx g.kc .len g.z_len (w_k (w_fld fx g.kc (zqd 0)) (zqb))) (w_k (zqe) (zqb))))) (pd_lst (w_a (zqe) (w_a (zqe) (w_a0)))))))))
def P_data_1 : PTab := fun c => if c = 20 then some F_06 else none
theorem lP_data_1 (g : Gl K mg base) : POk' P w K mg base g.C 1 "data" P_data_1 := fun c F h => by
 unfold P_data_1 at h
 by_cases hc : c = 20
 · subst hc
   cases h
   obtain ⟨p, hp⟩ := g.pr_Entry_data
   exact ⟨p, _, _, _, g.cl_Entry, hp, (ok_06 g).mono (by decide), g.b_06⟩
 rw [if_neg hc] at h
 cases h
def sv_0c : Sv := zqw (zqk (dBin .Add) (zqk (dBin .Add) (zqk (dBin .Add) (zqk (dBin .Add) (zqp (Blt.run CL .list) (zqa (evG (.tup k_RECORD)) (zqh))) (evN (zqr F_0d (zqa (evC (.int 20)) (zqa (evC (.int 6)) (zqh)))))) (evN (zqr F_03 (zqa (zqc 0) (zqh))))) (evN (zqr F_01 (zqa (evFld CL "name" (zqc 0)) (zqh))))) (evN (evPrp P_data_1 (zqc 0))))
def F_0c : Fn := fnSv 1 1 sv_0c
theorem ok_0c (g : Gl K mg base) : FnG P w K mg base 5 g.a_0c g.fd_0c ["entry"] (SpF g.C F_0c) :=
 Fun.okG (C := g.C) (N := N_0c) (sv := sv_0c) g.F_0c sc_0c fun cdv A outer s H E hcd hr hg O =>
  have fx := zqE (C := g.C) hr hg
  zqi (zqu (zqj fx .Add (zqj fx .Add (zqj fx .Add (zqj fx .Add (zqG fx g.kc .list g.z_list (w_k (w_gtup g.c_RECORD) (zqb))) (zqv fx (ok_0d g) g.m_0d g.F_0d.kp g.b_0d (w_k (w_gint g.c_VERSION) (w_k (zqe) (zqb))))) (zqv fx (ok_03 g) g.m_03 g.F_03.kp g.b_03 (w_k (zqd 0) (zqb)))) (zqv fx (ok_01 g) g.m_01 g.F_01.kp g.b_01 (w_k (w_fld fx g.kc (zqd 0)) (zqb)))) (w_prp 1 P_data_1 fx (lP_data_1 g) (zqd 0))))
def sv_05 : Sv := svIf (tvNot (tvE (evN (zqr F_0b (zqa (zqc 0) (zqa (evC (.int 0)) (zqa (zqc 1) (zqh)))))))) (zqI 2) (svNx)
def F_05 : Fn := fnSv 2 2 sv_05
theorem ok_05 (g : Gl K mg base) : FnG P w K mg base 2 g.a_05 g.fd_05 ["number", "most"] (SpF g.C F_05) :=
 Fun.okG (C := g.C) (N := N_05) (sv := sv_05) g.F_05 sc_05 fun cdv A outer s H E hcd hr hg O =>
  have fx := zqE (C := g.C) hr hg
  zqi (ws_if (ptd_not (wt_e fx (zqv fx (ok_0b g) g.m_0b g.F_0b.kp g.b_0b (w_k (zqd 0) (w_k (zqe) (w_k (zqd 1) (zqb))))))) (zqi (ws_raise fx g.kc 2 g.m_NoNumber)) (zqA))
def t_0y_3 : Sv := zqw (zqk (dBin .Add) (zqk (dBin .Add) (zqk (dBin .Add) (zqc 2) (zqc 3)) (evN (zqr F_01 (zqa (evFld CL "name" (zqc 0)) (zqh))))) (evN (zqr F_01 (zqa (evFld CL "comment" (zqc 0)) (zqh)))))
def t_0y_2 : Sv := zqm (zqs 3 (zqk (dBin .Add) (zqk (dBin .Add) (evN (zqr F_0d (zqa (zqp (Blt.run CL .len) (zqa (evFld CL "comment" (zqc 0)) (zqh))) (zqa (evC (.int 2)) (zqh))))) (evN (zqr F_0d (zqa (evC (.int 0)) (zqa (evC (.int 8)) (zqh)))))) (evN (zqr F_0d (zqa (zqc 1) (zqa (evC (.int 4)) (zqh))))))) (t_0y_3)
def t_0y_1 : Sv := zqm (zqs 2 (zqk (dBin .Add) (zqk (dBin .Add) (zqk (dBin .Add) (zqp (Blt.run CL .list) (zqa (evG (.tup k_ROW)) (zqh))) (evN (zqr F_0d (zqa (evC (.int 20)) (zqa (evC (.int 2)) (zqh)))))) (evN (zqr F_0d (zqa (evC (.int 20)) (zqa (evC (.int 6)) (zqh)))))) (evN (zqr F_03 (zqa (zqc 0) (zqh)))))) (t_0y_2)
def sv_0y : Sv := zqm (svExpr (evN (zqr F_05 (zqa (zqc 1) (zqa (evC (.int 4294967295)) (zqh)))))) (t_0y_1)
def F_0y : Fn := fnSv 4 2 sv_0y
theorem ok_0y (g : Gl K mg base) : FnG P w K mg base 5 g.a_0y g.fd_0y ["entry", "place"] (SpF g.C F_0y) :=
 Fun.okG (C := g.C) (N := N_0y) (sv := sv_0y) g.F_0y sc_0y fun cdv A outer s H E hcd hr hg O =>
  have fx := zqE (C := g.C) hr hg
  zqf (ws_expr (zqv fx (ok_05 g) g.m_05 g.F_05.kp g.b_05 (w_k (zqd 1) (w_k (w_gint g.c_GREATEST) (zqb))))) (zqf (zqt 2 sc_0y.nd (zqj fx .Add (zqj fx .Add (zqj fx .Add (zqG fx g.kc .list g.z_list (w_k (w_gtup g.c_ROW) (zqb))) (zqv fx (ok_0d g) g.m_0d g.F_0d.kp g.b_0d (w_k (w_gint g.c_VERSION) (w_k (zqe) (zqb))))) (zqv fx (ok_0d g) g.m_0d g.F_0d.kp g.b_0d (w_k (w_gint g.c_VERSION) (w_k (zqe) (zqb))))) (zqv fx (ok_03 g) g.m_03 g.F_03.kp g.b_03 (w_k (zqd 0) (zqb))))) (zqf (zqt 3 sc_0y.nd (zqj fx .Add (zqj fx .Add (zqv fx (ok_0d g) g.m_0d g.F_0d.kp g.b_0d (w_k (zqG fx g.kc .len g.z_len (w_k (w_fld fx g.kc (zqd 0)) (zqb))) (w_k (zqe) (zqb)))) (zqv fx (ok_0d g) g.m_0d g.F_0d.kp g.b_0d (w_k (zqe) (w_k (zqe) (zqb))))) (zqv fx (ok_0d g) g.m_0d g.F_0d.kp g.b_0d (w_k (zqd 1) (w_k (zqe) (zqb)))))) (zqi (zqu (zqj fx .Add (zqj fx .Add (zqj fx .Add (zqd 2) (zqd 3)) (zqv fx (ok_01 g) g.m_01 g.F_01.kp g.b_01 (w_k (w_fld fx g.kc (zqd 0)) (zqb)))) (zqv fx (ok_01 g) g.m_01 g.F_01.kp g.b_01 (w_k (w_fld fx g.kc (zqd 0)) (zqb))))))))
def t_0s_5 : Sv := zqw (zqk (dBin .Add) (zqk (dBin .Add) (zqk (dBin .Add) (zqp (Blt.run CL .list) (zqa (evG (.tup k_END)) (zqh))) (zqc 4)) (evN (zqr F_0d (zqa (zqp (Blt.run CL .len) (zqa (zqc 3) (zqh))) (zqa (evC (.int 2)) (zqh)))))) (evN (zqr F_01 (zqa (zqc 3) (zqh)))))
def t_0s_4 : Sv := zqm (zqs 4 (zqk (dBin .Add) (zqk (dBin .Add) (zqk (dBin .Add) (zqk (dBin .Add) (evN (zqr F_0d (zqa (evC (.int 0)) (zqa (evC (.int 4)) (zqh))))) (evN (zqr F_0d (zqa (zqc 0) (zqa (evC (.int 2)) (zqh)))))) (evN (zqr F_0d (zqa (zqc 0) (zqa (evC (.int 2)) (zqh)))))) (evN (zqr F_0d (zqa (zqc 1) (zqa (evC (.int 4)) (zqh)))))) (evN (zqr F_0d (zqa (zqc 2) (zqa (evC (.int 4)) (zqh))))))) (t_0s_5)
def t_0s_3 : Sv := zqm (svIf (tvNot (tvE (evN (zqr F_09 (zqa (zqc 3) (zqh)))))) (zqI 5) (svNx)) (t_0s_4)
def t_0s_2 : Sv := zqm (svExpr (evN (zqr F_05 (zqa (zqc 2) (zqa (evC (.int 4294967295)) (zqh)))))) (t_0s_3)
def t_0s_1 : Sv := zqm (svExpr (evN (zqr F_05 (zqa (zqc 1) (zqa (evC (.int 4294967295)) (zqh)))))) (t_0s_2)
def sv_0s : Sv := zqm (svExpr (evN (zqr F_05 (zqa (zqc 0) (zqa (evC (.int 20)) (zqh)))))) (t_0s_1)
def F_0s : Fn := fnSv 5 4 sv_0s
theorem ok_0s (g : Gl K mg base) : FnG P w K mg base 4 g.a_0s g.fd_0s ["number", "size", "place", "comment"] (SpF g.C F_0s) :=
 Fun.okG (C := g.C) (N := N_0s) (sv := sv_0s) g.F_0s sc_0s fun cdv A outer s H E hcd hr hg O =>
  have fx := zqE (C := g.C) hr hg
  zqf (ws_expr (zqv fx (ok_05 g) g.m_05 g.F_05.kp g.b_05 (w_k (zqd 0) (w_k (w_gint g.c_MOST_ENTRIES) (zqb))))) (zqf (ws_expr (zqv fx (ok_05 g) g.m_05 g.F_05.kp g.b_05 (w_k (zqd 1) (w_k (w_gint g.c_GREATEST) (zqb))))) (zqf (ws_expr (zqv fx (ok_05 g) g.m_05 g.F_05.kp g.b_05 (w_k (zqd 2) (w_k (w_gint g.c_GREATEST) (zqb))))) (zqf (ws_if (ptd_not (wt_e fx (zqv fx (ok_09 g) g.m_09 g.F_09.kp g.b_09 (w_k (zqd 3) (zqb))))) (zqi (ws_raise fx g.kc 5 g.m_NoComment)) (zqA)) (zqf (zqt 4 sc_0s.nd (zqj fx .Add (zqj fx .Add (zqj fx .Add (zqj fx .Add (zqv fx (ok_0d g) g.m_0d g.F_0d.kp g.b_0d (w_k (zqe) (w_k (zqe) (zqb)))) (zqv fx (ok_0d g) g.m_0d g.F_0d.kp g.b_0d (w_k (zqd 0) (w_k (zqe) (zqb))))) (zqv fx (ok_0d g) g.m_0d g.F_0d.kp g.b_0d (w_k (zqd 0) (w_k (zqe) (zqb))))) (zqv fx (ok_0d g) g.m_0d g.F_0d.kp g.b_0d (w_k (zqd 1) (w_k (zqe) (zqb))))) (zqv fx (ok_0d g) g.m_0d g.F_0d.kp g.b_0d (w_k (zqd 2) (w_k (zqe) (zqb)))))) (zqi (zqu (zqj fx .Add (zqj fx .Add (zqj fx .Add (zqG fx g.kc .list g.z_list (w_k (w_gtup g.c_END) (zqb))) (zqd 4)) (zqv fx (ok_0d g) g.m_0d g.F_0d.kp g.b_0d (w_k (zqG fx g.kc .len g.z_len (w_k (zqd 3) (zqb))) (w_k (zqe) (zqb))))) (zqv fx (ok_01 g) g.m_01 g.F_01.kp g.b_01 (w_k (zqd 3) (zqb))))))))))
abbrev F_l_begun : Fn := D.F_0z
theorem ok_l_begun (g : Gl K mg base) : FnG P w K mg base 1 g.a_l_begun g.fd_l_begun ["_law_script"] (SpF g.C F_l_begun) :=
 Fun.okBegun (C := g.C) g.F_l_begun sc_l_begun fun cdv A outer s H E hr hg =>
  have fx := zqE (C := g.C) hr hg
  ⟨_, _, _, _, _, _, _, _, _, _, _, rfl, fun _ _ => ws_setLc 1 [("_law_lump", 2)] fx sc_l_begun.nd (wi_e fx (zqd 0)) (blk_of (by kernel_rfl)) (fun _ _ _ _ _ fx => zqn 2 sc_l_begun.nd) (fun _ _ _ _ _ fx => w_t1 fun _ _ => wt_cmp fx .GtE (zqG fx g.kc .abs g.z_abs (w_k (zqd 2) (zqb))) (zqj fx .Pow (zqe) (zqe))) (fun _ _ _ _ _ fx _ _ => zqj fx .FloorDiv (zqG fx g.kc .abs g.z_abs (w_k (zqd 2) (zqb))) (zqj fx .Pow (zqe) (zqe))) (sw_true rfl rfl rfl rfl), pe_str, pe_str, pe_str, pe_str, pe_int, pv 1, fun _ _ => w_lc [("_law_lump", 2)] fx sc_l_begun.nd (wi_e fx (zqd 0)) (blk_of (by kernel_rfl)) (fun _ _ _ _ _ fx => zqn 2 sc_l_begun.nd) (fun _ _ _ _ _ fx => w_t0) (fun _ _ _ _ _ fx _ _ => zqj fx .Mod (zqG fx g.kc .abs g.z_abs (w_k (zqd 2) (zqb))) (zqj fx .Pow (zqe) (zqe))), pe_int⟩
def sv_0u : Sv := zqm (svWhile (tvAnd (tvB (zqk (dCmp .Eq) (evCI 0 .digits) (evC (.int 0)))) (tvNE 0 .great)) (svPop0 0) 100) (zqm (svIf (tvB (zqk (dCmp .Gt) (evCI 0 .digits) (evC (.int 0)))) (zqm (zqs 2 (zqk (dBin .Mod) (evCI 0 .digits) (zqc 1))) (zqm (svCSet 0 .digits (zqk (dBin .FloorDiv) (evCI 0 .digits) (zqc 1))) (zqw (zqc 2)))) (svNx)) (zqm (svCAug 0 .turn (evC (.int 1))) (zqm (zqs 3 (evCI 0 .turn)) (zqm (zqs 4 (evC (.int 0))) (zqm (svIf (tvNE 0 .lumps) (zqs 4 (evCIx 0 .lumps (zqk (dBin .Mod) (zqc 3) (evCLen 0 .lumps)))) (svNx)) (zqm (zqs 5 (zqk (dBin .Mod) (zqk (dBin .Pow) (zqk (dBin .Add) (zqk (dBin .Mod) (zqc 4) (evC (.int 2147483629))) (zqk (dBin .Mult) (evC (.int 40009)) (zqc 3))) (evC (.int 3))) (evC (.int 2147483647)))) (zqw (zqk (dBin .Mod) (zqk (dBin .FloorDiv) (zqk (dBin .Mod) (zqk (dBin .Pow) (zqk (dBin .Add) (zqc 5) (zqk (dBin .Mult) (evC (.int 104729)) (zqc 3))) (evC (.int 5))) (evC (.int 2147483629))) (evC (.int 11))) (zqc 1)))))))))
def F_0u : Fn := fnSv 6 2 sv_0u
theorem ok_0u (g : Gl K mg base) : FnG P w K mg base 1 g.a_0u g.fd_0u ["_law_draw", "_law_many"] (SpF g.C F_0u) :=
 Fun.okG (C := g.C) (N := N_0u) (sv := sv_0u) g.F_0u sc_0u fun cdv A outer s H E hcd hr hg O =>
  have fx := zqE (C := g.C) hr hg
  zqf (ws_while 100 pas_of (PWD.pt (pwd_and (wt_cmp fx .Eq (pd_ci fx.hu .digits (pv 0) (fun _ _ => rfl)) (zqe)) (pwd_and1 (ptd_ne fx.K fx.hu .great (pv 0) (fun _ _ => rfl) rfl)))) (zqi (psd_pop0 fx.K fx.hu (pv 0) (pv 0) (fun _ _ => rfl) rfl rfl rfl rfl rfl rfl))) (zqf (ws_if (wt_cmp fx .Gt (pd_ci fx.hu .digits (pv 0) (fun _ _ => rfl)) (zqe)) (zqf (zqt 2 sc_0u.nd (zqj fx .Mod (pd_ci fx.hu .digits (pv 0) (fun _ _ => rfl)) (zqd 1))) (zqf (psd_cset fx.hu .digits (pv 0) (zqj fx .FloorDiv (pd_ci fx.hu .digits (pv 0) (fun _ _ => rfl)) (zqd 1)) rfl) (zqi (zqu (zqd 2))))) (zqA)) (zqf (psd_caug fx.hu .turn (pv 0) (zqe) (by intros; rfl)) (zqf (zqt 3 sc_0u.nd (pd_ci fx.hu .turn (pv 0) (fun _ _ => rfl))) (zqf (zqt 4 sc_0u.nd (zqe)) (zqf (ws_if (ptd_ne fx.K fx.hu .lumps (pv 0) (fun _ _ => rfl) rfl) (zqi (zqt 4 sc_0u.nd (pd_cix fx.K fx.hu .lumps (pv 0) (fun _ _ => rfl) (zqj fx .Mod (zqd 3) (pd_clen fx.hu .lumps rfl g.z_len (pv 0) (fun _ _ => rfl) rfl rfl)) (fun _ _ => rfl)))) (zqA)) (zqf (zqt 5 sc_0u.nd (zqj fx .Mod (zqj fx .Pow (zqj fx .Add (zqj fx .Mod (zqd 4) (zqe)) (zqj fx .Mult (zqe) (zqd 3))) (zqe)) (zqe))) (zqi (zqu (zqj fx .Mod (zqj fx .FloorDiv (zqj fx .Mod (zqj fx .Pow (zqj fx .Add (zqd 5) (zqj fx .Mult (zqe) (zqd 3))) (zqe)) (zqe)) (zqe)) (zqd 1))))))))))
def sv_0w : Sv := zqw (evN (zqk dIx (zqc 1) (evN (zqr F_0u (zqa (zqc 0) (zqa (zqp (Blt.run CL .len) (zqa (zqc 1) (zqh))) (zqh)))))))
def F_0w : Fn := fnSv 2 2 sv_0w
theorem ok_0w (g : Gl K mg base) : FnG P w K mg base 2 g.a_0w g.fd_0w ["_law_draw", "_law_some_here"] (SpF g.C F_0w) :=
 Fun.okG (C := g.C) (N := N_0w) (sv := sv_0w) g.F_0w sc_0w fun cdv A outer s H E hcd hr hg O =>
  have fx := zqE (C := g.C) hr hg
  zqi (zqu (w_ix fx (zqd 1) (zqv fx (ok_0u g) g.m_0u g.F_0u.kp g.b_0u (w_k (zqd 0) (w_k (zqG fx g.kc .len g.z_len (w_k (zqd 1) (zqb))) (zqb))))))
def sv_0r : Sv := zqm (zqs 0 (zqk (dBin .Add) (zqk (dBin .Add) (zqk (dBin .Add) (zqk (dBin .Add) (evC (.str " !")) (evC (.str "\""))) (evC (.str "#$&'()*+,-./0123456789:;<=>?@ABCDEFGHIJKLMNOPQRSTUVWXYZ["))) (evC (.str "\\"))) (evC (.str "]^_")))) (zqw (zqk (dBin .Add) (zqc 0) (evC (.str "`abcdefghijklmnopqrstuvwxyz{|}~"))))
def F_0r : Fn := fnSv 1 0 sv_0r
theorem ok_0r (g : Gl K mg base) : FnG P w K mg base 1 g.a_0r g.fd_0r [] (SpF g.C F_0r) :=
 Fun.okG (C := g.C) (N := N_0r) (sv := sv_0r) g.F_0r sc_0r fun cdv A outer s H E hcd hr hg O =>
  have fx := zqE (C := g.C) hr hg
  zqf (zqt 0 sc_0r.nd (zqj fx .Add (zqj fx .Add (zqj fx .Add (zqj fx .Add (w_str) (w_str)) (w_str)) (w_str)) (w_str))) (zqi (zqu (zqj fx .Add (zqd 0) (w_str))))
def e_0j_1 : Ev := evLc [7] (ivR1 (zqa (zqc 5) (zqh))) (zqq 7) (tvYes) (evN (zqr F_0w (zqa (zqc 0) (zqa (zqc 3) (zqh)))))
def e_0j_2 : Ev := evLc [9] (ivE (evC (.str "abcdefghijklmnopqrstuvwxyzPK01"))) (zqq 9) (tvYes) (zqk (dBin .Add) (evSl (zqc 6) (pvNone) (pvSome (evC (.int 23)))) (zqc 9))
def e_0j_3 : Ev := evLc [10] (ivE (zqc 8)) (zqq 10) (tvB (zqk (dCmp .NotIn) (zqc 10) (zqc 2))) (zqc 10)
def u1_0j_4 : Sv := svApp 2 (evN (zqk dIx (e_0j_3) (evC (.int 0))))
def u1_0j_3 : Sv := zqm (zqs 8 (zqk (dBin .Add) (zqk (dBin .Mult) (zqF (zqg (zqc 6) (zqz))) (zqp (Blt.run CL .int) (zqa (zqk (dCmp .NotEq) (zqc 6) (evC (.str ""))) (zqh)))) (zqc 8))) (u1_0j_4)
def u1_0j_2 : Sv := zqm (zqs 8 (e_0j_2)) (u1_0j_3)
def u1_0j_1 : Sv := zqm (zqs 6 (zqk (dBin .Add) (evMeth isStrD mJoin (evC (.str "")) (zqa (e_0j_1) (zqh))) (evN (zqr F_0w (zqa (zqc 0) (zqa (zqF (zqg (evC (.str "")) (zqg (evC (.str "")) (zqg (evC (.str "PK")) (zqz))))) (zqh))))))) (u1_0j_2)
def b_0j_8 : Sv := zqm (zqs 5 (evN (zqr F_0w (zqa (zqc 0) (zqa (zqF (zqg (evC (.int 0)) (zqg (evC (.int 1)) (zqg (evC (.int 2)) (zqg (evC (.int 3)) (zqg (evC (.int 5)) (zqg (evC (.int 8)) (zqg (evC (.int 22)) (zqz))))))))) (zqh)))))) (u1_0j_1)
def t_0j_3 : Sv := zqw (zqc 2)
def t_0j_2 : Sv := zqm (svFor (ivR1 (zqa (zqc 1) (zqh))) (zqq 4) (b_0j_8)) (t_0j_3)
def t_0j_1 : Sv := zqm (zqs 3 (evN (zqr F_0w (zqa (zqc 0) (zqa (zqF (zqg (evC (.str "abcdef")) (zqg (evC (.str "ab/.")) (zqg (evN (zqr F_0r zqh)) (zqz))))) (zqh)))))) (t_0j_2)
def sv_0j : Sv := zqm (zqs 2 (zqF (zqz))) (t_0j_1)
def F_0j : Fn := fnSv 11 2 sv_0j
theorem ok_0j (g : Gl K mg base) : FnG P w K mg base 3 g.a_0j g.fd_0j ["_law_draw", "_law_many"] (SpF g.C F_0j) :=
 Fun.okG (C := g.C) (N := N_0j) (sv := sv_0j) g.F_0j sc_0j fun cdv A outer s H E hcd hr hg O =>
  have fx := zqE (C := g.C) hr hg
  zqf (zqt 2 sc_0j.nd (pd_lst (w_a0))) (zqf (zqt 3 sc_0j.nd (zqv fx (ok_0w g) g.m_0w g.F_0w.kp g.b_0w (w_k (zqd 0) (w_k (pd_lst (w_a (w_str) (w_a (w_str) (w_a (w_fn0 fx (ok_0r g) g.m_0r g.F_0r.kp g.b_0r) (w_a0))))) (zqb))))) (zqf (ws_for fx pas_of (wi_r1 g.z_range (w_k (zqd 1) (zqb))) (zqn 4 sc_0j.nd) (f := b_0j_8) (zqf (zqt 5 sc_0j.nd (zqv fx (ok_0w g) g.m_0w g.F_0w.kp g.b_0w (w_k (zqd 0) (w_k (pd_lst (w_a (zqe) (w_a (zqe) (w_a (zqe) (w_a (zqe) (w_a (zqe) (w_a (zqe) (w_a (zqe) (w_a0))))))))) (zqb))))) (zqf (zqt 6 sc_0j.nd (zqj fx .Add (w_join fx (w_str) (w_k (w_lc [("_law_turn", 7)] fx sc_0j.nd (wi_r1 g.z_range (w_k (zqd 5) (zqb))) (blk_of (by kernel_rfl)) (fun _ _ _ _ _ fx => zqn 7 sc_0j.nd) (fun _ _ _ _ _ fx => w_t0) (fun _ _ _ _ _ fx _ _ => zqv fx (ok_0w g) g.m_0w g.F_0w.kp g.b_0w (w_k (zqd 0) (w_k (zqd 3) (zqb))))) (zqb))) (zqv fx (ok_0w g) g.m_0w g.F_0w.kp g.b_0w (w_k (zqd 0) (w_k (pd_lst (w_a (w_str) (w_a (w_str) (w_a (w_str) (w_a0))))) (zqb)))))) (zqf (ws_setLc 8 [("_law_sign", 9)] fx sc_0j.nd (wi_e fx (w_str)) (blk_of (by kernel_rfl)) (fun _ _ _ _ _ fx => zqn 9 sc_0j.nd) (fun _ _ _ _ _ fx => w_t0) (fun _ _ _ _ _ fx _ _ => zqj fx .Add (pd_slice fx.K (zqd 6) (pod_none) (pod_some (zqe))) (zqd 9)) (sw_true rfl rfl rfl rfl)) (zqf (zqt 8 sc_0j.nd (zqj fx .Add (zqj fx .Mult (pd_lst (w_a (zqd 6) (w_a0))) (zqG fx g.kc .int g.z_int (w_k (w_cmp fx .NotEq (zqd 6) (w_str)) (zqb)))) (zqd 8))) (zqi (ws_append 2 fx (w_ix fx (w_lc [("_law_one", 10)] fx sc_0j.nd (wi_e fx (zqd 8)) (blk_of (by kernel_rfl)) (fun _ _ _ _ _ fx => zqn 10 sc_0j.nd) (fun _ _ _ _ _ fx => w_t1 fun _ _ => wt_cmp fx .NotIn (zqd 10) (zqd 2)) (fun _ _ _ _ _ fx _ _ => zqd 10)) (zqe))))))))) (zqi (zqu (zqd 2)))))
def e_0v_1 : Ev := evLc [3] (ivR1 (zqa (zqc 2) (zqh))) (zqq 3) (tvYes) (evN (zqr F_0w (zqa (zqc 0) (zqa (zqc 1) (zqh)))))
def sv_0v : Sv := zqm (svThen (svPar 1 (evN (zqr F_0r zqh)) (svPar 2 (evN (zqr F_0w (zqa (zqc 0) (zqa (zqF (zqg (evC (.int 0)) (zqg (evC (.int 0)) (zqg (evC (.int 0)) (zqg (evC (.int 1)) (zqg (evC (.int 2)) (zqg (evC (.int 5)) (zqg (evC (.int 40)) (zqz))))))))) (zqh))))) (svNx)))) (zqw (evMeth isStrD mJoin (evC (.str "")) (zqa (e_0v_1) (zqh))))
def F_0v : Fn := fnSv 4 1 sv_0v
theorem ok_0v (g : Gl K mg base) : FnG P w K mg base 3 g.a_0v g.fd_0v ["_law_draw"] (SpF g.C F_0v) :=
 Fun.okG (C := g.C) (N := N_0v) (sv := sv_0v) g.F_0v sc_0v fun cdv A outer s H E hcd hr hg O =>
  have fx := zqE (C := g.C) hr hg
  zqf (ws_parT 1 2 fx sc_0v.nd (fun O H0 => w_fn0 fx (ok_0r g) g.m_0r g.F_0r.kp g.b_0r) (fun O H0 => zqv fx (ok_0w g) g.m_0w g.F_0w.kp g.b_0w (w_k (zqd 0) (w_k (pd_lst (w_a (zqe) (w_a (zqe) (w_a (zqe) (w_a (zqe) (w_a (zqe) (w_a (zqe) (w_a (zqe) (w_a0))))))))) (zqb))))) (zqi (zqu (w_join fx (w_str) (w_k (w_lc [("_law_k", 3)] fx sc_0v.nd (wi_r1 g.z_range (w_k (zqd 2) (zqb))) (blk_of (by kernel_rfl)) (fun _ _ _ _ _ fx => zqn 3 sc_0v.nd) (fun _ _ _ _ _ fx => w_t0) (fun _ _ _ _ _ fx _ _ => zqv fx (ok_0w g) g.m_0w g.F_0w.kp g.b_0w (w_k (zqd 0) (w_k (zqd 1) (zqb))))) (zqb)))))
def t_0f_2 : Sv := zqw (zqk (dBin .Add) (zqc 2) (evTup (zqg (evN (zqr F_0u (zqa (zqc 0) (zqa (evC (.int 24)) (zqh))))) (zqg (evN (zqr F_0u (zqa (zqc 0) (zqa (evC (.int 60)) (zqh))))) (zqg (zqk (dBin .Mult) (evC (.int 2)) (evN (zqr F_0u (zqa (zqc 0) (zqa (evC (.int 30)) (zqh)))))) (zqz))))))
def t_0f_1 : Sv := zqm (zqs 2 (evTup (zqg (zqk (dBin .Add) (evC (.int 1980)) (evN (zqr F_0u (zqa (zqc 0) (zqa (evC (.int 128)) (zqh)))))) (zqg (zqk (dBin .Add) (evC (.int 1)) (evN (zqr F_0u (zqa (zqc 0) (zqa (evC (.int 12)) (zqh)))))) (zqg (zqk (dBin .Add) (evC (.int 1)) (evN (zqr F_0u (zqa (zqc 0) (zqa (evC (.int 28)) (zqh)))))) (zqz)))))) (t_0f_2)
def sv_0f : Sv := zqm (svIf (tvB (zqk (dCmp .Eq) (evN (zqr F_0u (zqa (zqc 0) (zqa (evC (.int 6)) (zqh))))) (evC (.int 0)))) (zqm (zqs 1 (zqF (zqg (evTup (zqg (evC (.int 2017)) (zqg (evC (.int 10)) (zqg (evC (.int 16)) (zqg (evC (.int 9)) (zqg (evC (.int 26)) (zqg (evC (.int 32)) (zqz)))))))) (zqg (evTup (zqg (evC (.int 1982)) (zqg (evC (.int 10)) (zqg (evC (.int 11)) (zqg (evC (.int 10)) (zqg (evC (.int 0)) (zqg (evC (.int 0)) (zqz)))))))) (zqg (evTup (zqg (evC (.int 2107)) (zqg (evC (.int 12)) (zqg (evC (.int 31)) (zqg (evC (.int 23)) (zqg (evC (.int 59)) (zqg (evC (.int 58)) (zqz)))))))) (zqz)))))) (zqw (evN (zqr F_0w (zqa (zqc 0) (zqa (zqc 1) (zqh))))))) (svNx)) (t_0f_1)
def F_0f : Fn := fnSv 3 1 sv_0f
theorem ok_0f (g : Gl K mg base) : FnG P w K mg base 3 g.a_0f g.fd_0f ["_law_draw"] (SpF g.C F_0f) :=
 Fun.okG (C := g.C) (N := N_0f) (sv := sv_0f) g.F_0f sc_0f fun cdv A outer s H E hcd hr hg O =>
  have fx := zqE (C := g.C) hr hg
  zqf (ws_if (wt_cmp fx .Eq (zqv fx (ok_0u g) g.m_0u g.F_0u.kp g.b_0u (w_k (zqd 0) (w_k (zqe) (zqb)))) (zqe)) (zqf (zqt 1 sc_0f.nd (pd_lst (w_a (pd_tup (w_a (zqe) (w_a (zqe) (w_a (zqe) (w_a (zqe) (w_a (zqe) (w_a (zqe) (w_a0)))))))) (w_a (pd_tup (w_a (zqe) (w_a (zqe) (w_a (zqe) (w_a (zqe) (w_a (zqe) (w_a (zqe) (w_a0)))))))) (w_a (pd_tup (w_a (zqe) (w_a (zqe) (w_a (zqe) (w_a (zqe) (w_a (zqe) (w_a (zqe) (w_a0)))))))) (w_a0)))))) (zqi (zqu (zqv fx (ok_0w g) g.m_0w g.F_0w.kp g.b_0w (w_k (zqd 0) (w_k (zqd 1) (zqb))))))) (zqA)) (zqf (zqt 2 sc_0f.nd (pd_tup (w_a (zqj fx .Add (zqe) (zqv fx (ok_0u g) g.m_0u g.F_0u.kp g.b_0u (w_k (zqd 0) (w_k (zqe) (zqb))))) (w_a (zqj fx .Add (zqe) (zqv fx (ok_0u g) g.m_0u g.F_0u.kp g.b_0u (w_k (zqd 0) (w_k (zqe) (zqb))))) (w_a (zqj fx .Add (zqe) (zqv fx (ok_0u g) g.m_0u g.F_0u.kp g.b_0u (w_k (zqd 0) (w_k (zqe) (zqb))))) (w_a0)))))) (zqi (zqu (zqj fx .Add (zqd 2) (pd_tup (w_a (zqv fx (ok_0u g) g.m_0u g.F_0u.kp g.b_0u (w_k (zqd 0) (w_k (zqe) (zqb)))) (w_a (zqv fx (ok_0u g) g.m_0u g.F_0u.kp g.b_0u (w_k (zqd 0) (w_k (zqe) (zqb)))) (w_a (zqj fx .Mult (zqe) (zqv fx (ok_0u g) g.m_0u g.F_0u.kp g.b_0u (w_k (zqd 0) (w_k (zqe) (zqb))))) (w_a0)))))))))
def b_13_1 : Sv := zqm (svApp 2 (zqk (dBin .Mod) (zqc 0) (evC (.int 256)))) (zqs 0 (zqk (dBin .FloorDiv) (zqc 0) (evC (.int 256))))
def t_13_2 : Sv := zqw (zqc 2)
def t_13_1 : Sv := zqm (svFor (ivR1 (zqa (zqc 1) (zqh))) (zqq 3) (b_13_1)) (t_13_2)
def sv_13 : Sv := zqm (zqs 2 (zqF (zqz))) (t_13_1)
def F_13 : Fn := fnSv 4 2 sv_13
theorem ok_13 (g : Gl K mg base) : FnG P w K mg base 1 g.a_13 g.fd_13 ["_law_amount", "_law_wide"] (SpF g.C F_13) :=
 Fun.okG (C := g.C) (N := N_13) (sv := sv_13) g.F_13 sc_13 fun cdv A outer s H E hcd hr hg O =>
  have fx := zqE (C := g.C) hr hg
  zqf (zqt 2 sc_13.nd (pd_lst (w_a0))) (zqf (ws_for fx pas_of (wi_r1 g.z_range (w_k (zqd 1) (zqb))) (zqn 3 sc_13.nd) (f := b_13_1) (zqf (ws_append 2 fx (zqj fx .Mod (zqd 0) (zqe))) (zqi (zqt 0 sc_13.nd (zqj fx .FloorDiv (zqd 0) (zqe)))))) (zqi (zqu (zqd 2))))
def e_0g_1 : Ev := evLc [1] (ivE (zqc 0)) (zqq 1) (tvYes) (zqp (Blt.run CL .ord) (zqa (zqc 1) (zqh)))
def sv_0g : Sv := zqw (e_0g_1)
def F_0g : Fn := fnSv 2 1 sv_0g
theorem ok_0g (g : Gl K mg base) : FnG P w K mg base 1 g.a_0g g.fd_0g ["_law_text"] (SpF g.C F_0g) :=
 Fun.okG (C := g.C) (N := N_0g) (sv := sv_0g) g.F_0g sc_0g fun cdv A outer s H E hcd hr hg O =>
  have fx := zqE (C := g.C) hr hg
  zqi (zqu (w_lc [("_law_sign", 1)] fx sc_0g.nd (wi_e fx (zqd 0)) (blk_of (by kernel_rfl)) (fun _ _ _ _ _ fx => zqn 1 sc_0g.nd) (fun _ _ _ _ _ fx => w_t0) (fun _ _ _ _ _ fx _ _ => zqG fx g.kc .ord g.z_ord (w_k (zqd 1) (zqb)))))
def u1_11_2 : Sv := svIf (tvB (zqk (dCmp .Eq) (zqc 4) (evC (.int 1)))) (zqs 1 (zqk (dBin .BitXor) (zqc 1) (evC (.int 3988292384)))) (svNx)
def u1_11_1 : Sv := zqm (zqs 1 (zqk (dBin .FloorDiv) (zqc 1) (evC (.int 2)))) (u1_11_2)
def b_11_3 : Sv := zqm (zqs 4 (zqk (dBin .Mod) (zqc 1) (evC (.int 2)))) (u1_11_1)
def b_11_4 : Sv := zqm (zqs 1 (zqk (dBin .BitXor) (zqc 1) (zqc 2))) (svFor (ivR1 (zqa (evC (.int 8)) (zqh))) (zqq 3) (b_11_3))
def t_11_2 : Sv := zqw (zqk (dBin .BitXor) (zqc 1) (evC (.int 4294967295)))
def t_11_1 : Sv := zqm (svFor (ivE (zqc 0)) (zqq 2) (b_11_4)) (t_11_2)
def sv_11 : Sv := zqm (zqs 1 (evC (.int 4294967295))) (t_11_1)
def F_11 : Fn := fnSv 5 1 sv_11
theorem ok_11 (g : Gl K mg base) : FnG P w K mg base 1 g.a_11 g.fd_11 ["_law_some_here"] (SpF g.C F_11) :=
 Fun.okG (C := g.C) (N := N_11) (sv := sv_11) g.F_11 sc_11 fun cdv A outer s H E hcd hr hg O =>
  have fx := zqE (C := g.C) hr hg
  zqf (zqt 1 sc_11.nd (zqe)) (zqf (ws_for fx pas_of (wi_e fx (zqd 0)) (zqn 2 sc_11.nd) (f := b_11_4) (zqf (zqt 1 sc_11.nd (zqj fx .BitXor (zqd 1) (zqd 2))) (zqi (ws_for fx pas_of (wi_r1 g.z_range (w_k (zqe) (zqb))) (zqn 3 sc_11.nd) (f := b_11_3) (zqf (zqt 4 sc_11.nd (zqj fx .Mod (zqd 1) (zqe))) (zqf (zqt 1 sc_11.nd (zqj fx .FloorDiv (zqd 1) (zqe))) (zqi (ws_if (wt_cmp fx .Eq (zqd 4) (zqe)) (zqi (zqt 1 sc_11.nd (zqj fx .BitXor (zqd 1) (zqe)))) (zqA))))))))) (zqi (zqu (zqj fx .BitXor (zqd 1) (zqe)))))
def t_0i_5 : Sv := zqw (zqk (dBin .Add) (zqk (dBin .Add) (zqk (dBin .Add) (zqk (dBin .Add) (zqc 10) (zqc 9)) (zqc 9)) (evN (zqr F_13 (zqa (zqp (Blt.run CL .len) (zqa (evN (zqk dIx (zqc 0) (evC (.int 0)))) (zqh))) (zqa (evC (.int 2)) (zqh)))))) (zqF (zqg (evC (.int 0)) (zqg (evC (.int 0)) (zqz)))))
def t_0i_4 : Sv := zqm (zqs 10 (zqk (dBin .Add) (zqk (dBin .Add) (evN (zqr F_13 (zqa (zqc 7) (zqa (evC (.int 2)) (zqh))))) (evN (zqr F_13 (zqa (zqc 8) (zqa (evC (.int 2)) (zqh)))))) (evN (zqr F_13 (zqa (evN (zqr F_11 (zqa (evN (zqk dIx (zqc 0) (evC (.int 1)))) (zqh)))) (zqa (evC (.int 4)) (zqh))))))) (t_0i_5)
def t_0i_3 : Sv := zqm (zqs 9 (evN (zqr F_13 (zqa (zqp (Blt.run CL .len) (zqa (evN (zqk dIx (zqc 0) (evC (.int 1)))) (zqh))) (zqa (evC (.int 4)) (zqh)))))) (t_0i_4)
def t_0i_2 : Sv := zqm (zqs 8 (zqk (dBin .Add) (zqk (dBin .Add) (zqk (dBin .Mult) (zqk (dBin .Sub) (zqc 1) (evC (.int 1980))) (evC (.int 512))) (zqk (dBin .Mult) (zqc 2) (evC (.int 32)))) (zqc 3))) (t_0i_3)
def t_0i_1 : Sv := zqm (zqs 7 (zqk (dBin .Add) (zqk (dBin .Add) (zqk (dBin .Mult) (zqc 4) (evC (.int 2048))) (zqk (dBin .Mult) (zqc 5) (evC (.int 32)))) (zqk (dBin .FloorDiv) (zqc 6) (evC (.int 2))))) (t_0i_2)
def sv_0i : Sv := zqm (svAsg (evN (zqk dIx (zqc 0) (evC (.int 2)))) (gvTup 6 (zqD (zqq 1) (zqD (zqq 2) (zqD (zqq 3) (zqD (zqq 4) (zqD (zqq 5) (zqD (zqq 6) (gvNil))))))))) (t_0i_1)
def F_0i : Fn := fnSv 11 1 sv_0i
theorem ok_0i (g : Gl K mg base) : FnG P w K mg base 2 g.a_0i g.fd_0i ["_law_one"] (SpF g.C F_0i) :=
 Fun.okG (C := g.C) (N := N_0i) (sv := sv_0i) g.F_0i sc_0i fun cdv A outer s H E hcd hr hg O =>
  have fx := zqE (C := g.C) hr hg
  zqf (ws_asg (w_ix fx (zqd 0) (zqe)) (wg_tup fx (n := 6) (wg_n (zqn 1 sc_0i.nd) (wg_n (zqn 2 sc_0i.nd) (wg_n (zqn 3 sc_0i.nd) (wg_n (zqn 4 sc_0i.nd) (wg_n (zqn 5 sc_0i.nd) (wg_n (zqn 6 sc_0i.nd) (wg_n0))))))))) (zqf (zqt 7 sc_0i.nd (zqj fx .Add (zqj fx .Add (zqj fx .Mult (zqd 4) (zqe)) (zqj fx .Mult (zqd 5) (zqe))) (zqj fx .FloorDiv (zqd 6) (zqe)))) (zqf (zqt 8 sc_0i.nd (zqj fx .Add (zqj fx .Add (zqj fx .Mult (zqj fx .Sub (zqd 1) (zqe)) (zqe)) (zqj fx .Mult (zqd 2) (zqe))) (zqd 3))) (zqf (zqt 9 sc_0i.nd (zqv fx (ok_13 g) g.m_13 g.F_13.kp g.b_13 (w_k (zqG fx g.kc .len g.z_len (w_k (w_ix fx (zqd 0) (zqe)) (zqb))) (w_k (zqe) (zqb))))) (zqf (zqt 10 sc_0i.nd (zqj fx .Add (zqj fx .Add (zqv fx (ok_13 g) g.m_13 g.F_13.kp g.b_13 (w_k (zqd 7) (w_k (zqe) (zqb)))) (zqv fx (ok_13 g) g.m_13 g.F_13.kp g.b_13 (w_k (zqd 8) (w_k (zqe) (zqb))))) (zqv fx (ok_13 g) g.m_13 g.F_13.kp g.b_13 (w_k (zqv fx (ok_11 g) g.m_11 g.F_11.kp g.b_11 (w_k (w_ix fx (zqd 0) (zqe)) (zqb))) (w_k (zqe) (zqb)))))) (zqi (zqu (zqj fx .Add (zqj fx .Add (zqj fx .Add (zqj fx .Add (zqd 10) (zqd 9)) (zqd 9)) (zqv fx (ok_13 g) g.m_13 g.F_13.kp g.b_13 (w_k (zqG fx g.kc .len g.z_len (w_k (w_ix fx (zqd 0) (zqe)) (zqb))) (w_k (zqe) (zqb))))) (pd_lst (w_a (zqe) (w_a (zqe) (w_a0)))))))))))
def sv_0h : Sv := zqw (zqk (dBin .Add) (zqk (dBin .Add) (zqk (dBin .Add) (zqk (dBin .Add) (zqF (zqg (evC (.int 80)) (zqg (evC (.int 75)) (zqg (evC (.int 3)) (zqg (evC (.int 4)) (zqz)))))) (evN (zqr F_13 (zqa (evC (.int 20)) (zqa (evC (.int 6)) (zqh)))))) (evN (zqr F_0i (zqa (zqc 0) (zqh))))) (evN (zqr F_0g (zqa (evN (zqk dIx (zqc 0) (evC (.int 0)))) (zqh))))) (zqp (Blt.run CL .list) (zqa (evN (zqk dIx (zqc 0) (evC (.int 1)))) (zqh))))
def F_0h : Fn := fnSv 1 1 sv_0h
theorem ok_0h (g : Gl K mg base) : FnG P w K mg base 3 g.a_0h g.fd_0h ["_law_one"] (SpF g.C F_0h) :=
 Fun.okG (C := g.C) (N := N_0h) (sv := sv_0h) g.F_0h sc_0h fun cdv A outer s H E hcd hr hg O =>
  have fx := zqE (C := g.C) hr hg
  zqi (zqu (zqj fx .Add (zqj fx .Add (zqj fx .Add (zqj fx .Add (pd_lst (w_a (zqe) (w_a (zqe) (w_a (zqe) (w_a (zqe) (w_a0)))))) (zqv fx (ok_13 g) g.m_13 g.F_13.kp g.b_13 (w_k (zqe) (w_k (zqe) (zqb))))) (zqv fx (ok_0i g) g.m_0i g.F_0i.kp g.b_0i (w_k (zqd 0) (zqb)))) (zqv fx (ok_0g g) g.m_0g g.F_0g.kp g.b_0g (w_k (w_ix fx (zqd 0) (zqe)) (zqb)))) (zqG fx g.kc .list g.z_list (w_k (w_ix fx (zqd 0) (zqe)) (zqb)))))
def t_14_2 : Sv := zqw (zqk (dBin .Add) (zqk (dBin .Add) (zqc 2) (evN (zqr F_0g (zqa (evN (zqk dIx (zqc 0) (evC (.int 0)))) (zqh))))) (evN (zqr F_0g (zqa (evN (zqk dIx (zqc 0) (evC (.int 3)))) (zqh)))))
def t_14_1 : Sv := zqm (zqs 2 (zqk (dBin .Add) (zqk (dBin .Add) (zqk (dBin .Add) (zqc 2) (evN (zqr F_13 (zqa (zqp (Blt.run CL .len) (zqa (evN (zqk dIx (zqc 0) (evC (.int 3)))) (zqh))) (zqa (evC (.int 2)) (zqh)))))) (evN (zqr F_13 (zqa (evC (.int 0)) (zqa (evC (.int 8)) (zqh)))))) (evN (zqr F_13 (zqa (zqc 1) (zqa (evC (.int 4)) (zqh))))))) (t_14_2)
def sv_14 : Sv := zqm (zqs 2 (zqk (dBin .Add) (zqk (dBin .Add) (zqk (dBin .Add) (zqF (zqg (evC (.int 80)) (zqg (evC (.int 75)) (zqg (evC (.int 1)) (zqg (evC (.int 2)) (zqz)))))) (evN (zqr F_13 (zqa (evC (.int 20)) (zqa (evC (.int 2)) (zqh)))))) (evN (zqr F_13 (zqa (evC (.int 20)) (zqa (evC (.int 6)) (zqh)))))) (evN (zqr F_0i (zqa (zqc 0) (zqh)))))) (t_14_1)
def F_14 : Fn := fnSv 3 2 sv_14
theorem ok_14 (g : Gl K mg base) : FnG P w K mg base 3 g.a_14 g.fd_14 ["_law_one", "_law_spot"] (SpF g.C F_14) :=
 Fun.okG (C := g.C) (N := N_14) (sv := sv_14) g.F_14 sc_14 fun cdv A outer s H E hcd hr hg O =>
  have fx := zqE (C := g.C) hr hg
  zqf (zqt 2 sc_14.nd (zqj fx .Add (zqj fx .Add (zqj fx .Add (pd_lst (w_a (zqe) (w_a (zqe) (w_a (zqe) (w_a (zqe) (w_a0)))))) (zqv fx (ok_13 g) g.m_13 g.F_13.kp g.b_13 (w_k (zqe) (w_k (zqe) (zqb))))) (zqv fx (ok_13 g) g.m_13 g.F_13.kp g.b_13 (w_k (zqe) (w_k (zqe) (zqb))))) (zqv fx (ok_0i g) g.m_0i g.F_0i.kp g.b_0i (w_k (zqd 0) (zqb))))) (zqf (zqt 2 sc_14.nd (zqj fx .Add (zqj fx .Add (zqj fx .Add (zqd 2) (zqv fx (ok_13 g) g.m_13 g.F_13.kp g.b_13 (w_k (zqG fx g.kc .len g.z_len (w_k (w_ix fx (zqd 0) (zqe)) (zqb))) (w_k (zqe) (zqb))))) (zqv fx (ok_13 g) g.m_13 g.F_13.kp g.b_13 (w_k (zqe) (w_k (zqe) (zqb))))) (zqv fx (ok_13 g) g.m_13 g.F_13.kp g.b_13 (w_k (zqd 1) (w_k (zqe) (zqb)))))) (zqi (zqu (zqj fx .Add (zqj fx .Add (zqd 2) (zqv fx (ok_0g g) g.m_0g g.F_0g.kp g.b_0g (w_k (w_ix fx (zqd 0) (zqe)) (zqb)))) (zqv fx (ok_0g g) g.m_0g g.F_0g.kp g.b_0g (w_k (w_ix fx (zqd 0) (zqe)) (zqb)))))))
def sv_12 : Sv := zqm (zqs 4 (zqk (dBin .Add) (zqk (dBin .Add) (zqk (dBin .Add) (zqF (zqg (evC (.int 80)) (zqg (evC (.int 75)) (zqg (evC (.int 5)) (zqg (evC (.int 6)) (zqz)))))) (evN (zqr F_13 (zqa (evC (.int 0)) (zqa (evC (.int 4)) (zqh)))))) (evN (zqr F_13 (zqa (zqc 0) (zqa (evC (.int 2)) (zqh)))))) (evN (zqr F_13 (zqa (zqc 0) (zqa (evC (.int 2)) (zqh))))))) (zqw (zqk (dBin .Add) (zqk (dBin .Add) (zqk (dBin .Add) (zqk (dBin .Add) (zqc 4) (evN (zqr F_13 (zqa (zqc 1) (zqa (evC (.int 4)) (zqh)))))) (evN (zqr F_13 (zqa (zqc 2) (zqa (evC (.int 4)) (zqh)))))) (evN (zqr F_13 (zqa (zqp (Blt.run CL .len) (zqa (zqc 3) (zqh))) (zqa (evC (.int 2)) (zqh)))))) (evN (zqr F_0g (zqa (zqc 3) (zqh))))))
def F_12 : Fn := fnSv 5 4 sv_12
theorem ok_12 (g : Gl K mg base) : FnG P w K mg base 2 g.a_12 g.fd_12 ["_law_many", "_law_wide", "_law_spot", "_law_note_here"] (SpF g.C F_12) :=
 Fun.okG (C := g.C) (N := N_12) (sv := sv_12) g.F_12 sc_12 fun cdv A outer s H E hcd hr hg O =>
  have fx := zqE (C := g.C) hr hg
  zqf (zqt 4 sc_12.nd (zqj fx .Add (zqj fx .Add (zqj fx .Add (pd_lst (w_a (zqe) (w_a (zqe) (w_a (zqe) (w_a (zqe) (w_a0)))))) (zqv fx (ok_13 g) g.m_13 g.F_13.kp g.b_13 (w_k (zqe) (w_k (zqe) (zqb))))) (zqv fx (ok_13 g) g.m_13 g.F_13.kp g.b_13 (w_k (zqd 0) (w_k (zqe) (zqb))))) (zqv fx (ok_13 g) g.m_13 g.F_13.kp g.b_13 (w_k (zqd 0) (w_k (zqe) (zqb)))))) (zqi (zqu (zqj fx .Add (zqj fx .Add (zqj fx .Add (zqj fx .Add (zqd 4) (zqv fx (ok_13 g) g.m_13 g.F_13.kp g.b_13 (w_k (zqd 1) (w_k (zqe) (zqb))))) (zqv fx (ok_13 g) g.m_13 g.F_13.kp g.b_13 (w_k (zqd 2) (w_k (zqe) (zqb))))) (zqv fx (ok_13 g) g.m_13 g.F_13.kp g.b_13 (w_k (zqG fx g.kc .len g.z_len (w_k (zqd 3) (zqb))) (w_k (zqe) (zqb))))) (zqv fx (ok_0g g) g.m_0g g.F_0g.kp g.b_0g (w_k (zqd 3) (zqb))))))
def e_0x_1 : Ev := evLc [5] (ivR1 (zqa (evN (zqr F_0u (zqa (zqc 0) (zqa (zqk (dBin .Add) (zqc 1) (evC (.int 1))) (zqh))))) (zqh))) (zqq 5) (tvYes) (evN (zqr F_0u (zqa (zqc 0) (zqa (evC (.int 2)) (zqh)))))
def e_0x_2 : Ev := evLc [6] (ivE (zqc 4)) (zqq 6) (tvYes) (evIf (tvB (zqk (dCmp .Eq) (zqc 6) (evC (.int 0)))) (evN (zqr F_0w (zqa (zqc 0) (zqa (zqc 3) (zqh))))) (evN (zqr F_0u (zqa (zqc 0) (zqa (evC (.int 256)) (zqh))))))
def t_0x_2 : Sv := zqw (e_0x_2)
def t_0x_1 : Sv := zqm (zqs 4 (e_0x_1)) (t_0x_2)
def sv_0x : Sv := zqm (zqs 3 (evIf (tvE (zqc 2)) (zqF (zqg (evC (.int 0)) (zqg (evC (.int 1)) (zqg (evC (.int 255)) (zqg (evC (.int 80)) (zqg (evC (.int 75)) (zqg (evC (.int 5)) (zqg (evC (.int 6)) (zqg (evC (.int 3)) (zqg (evC (.int 4)) (zqz))))))))))) (zqF (zqg (evC (.int 80)) (zqg (evC (.int 75)) (zqg (evC (.int 5)) (zqg (evC (.int 6)) (zqg (evC (.int 0)) (zqg (evC (.int 1)) (zqz)))))))))) (t_0x_1)
def F_0x : Fn := fnSv 7 3 sv_0x
theorem ok_0x (g : Gl K mg base) : FnG P w K mg base 3 g.a_0x g.fd_0x ["_law_draw", "_law_many", "_law_plain"] (SpF g.C F_0x) :=
 Fun.okG (C := g.C) (N := N_0x) (sv := sv_0x) g.F_0x sc_0x fun cdv A outer s H E hcd hr hg O =>
  have fx := zqE (C := g.C) hr hg
  zqf (zqt 3 sc_0x.nd (w_ifExp (wt_e fx (zqd 2)) (pd_lst (w_a (zqe) (w_a (zqe) (w_a (zqe) (w_a (zqe) (w_a (zqe) (w_a (zqe) (w_a (zqe) (w_a (zqe) (w_a (zqe) (w_a0))))))))))) (pd_lst (w_a (zqe) (w_a (zqe) (w_a (zqe) (w_a (zqe) (w_a (zqe) (w_a (zqe) (w_a0)))))))))) (zqf (ws_setLc 4 [("_law_k", 5)] fx sc_0x.nd (wi_r1 g.z_range (w_k (zqv fx (ok_0u g) g.m_0u g.F_0u.kp g.b_0u (w_k (zqd 0) (w_k (zqj fx .Add (zqd 1) (zqe)) (zqb)))) (zqb))) (blk_of (by kernel_rfl)) (fun _ _ _ _ _ fx => zqn 5 sc_0x.nd) (fun _ _ _ _ _ fx => w_t0) (fun _ _ _ _ _ fx _ _ => zqv fx (ok_0u g) g.m_0u g.F_0u.kp g.b_0u (w_k (zqd 0) (w_k (zqe) (zqb)))) (sw_true rfl rfl rfl rfl)) (zqi (zqu (w_lc [("_law_way", 6)] fx sc_0x.nd (wi_e fx (zqd 4)) (blk_of (by kernel_rfl)) (fun _ _ _ _ _ fx => zqn 6 sc_0x.nd) (fun _ _ _ _ _ fx => w_t0) (fun _ _ _ _ _ fx _ _ => w_ifExp (wt_cmp fx .Eq (zqd 6) (zqe)) (zqv fx (ok_0w g) g.m_0w g.F_0w.kp g.b_0w (w_k (zqd 0) (w_k (zqd 3) (zqb)))) (zqv fx (ok_0u g) g.m_0u g.F_0u.kp g.b_0u (w_k (zqd 0) (w_k (zqe) (zqb)))))))))
def sv_0q : Sv := zqw (evTup (zqg (zqc 1) (zqg (evN (zqr F_0x (zqa (zqc 0) (zqa (zqc 2) (zqa (zqk (dCmp .Eq) (evN (zqr F_0u (zqa (zqc 0) (zqa (evC (.int 2)) (zqh))))) (evC (.int 0))) (zqh)))))) (zqg (evN (zqr F_0f (zqa (zqc 0) (zqh)))) (zqg (evN (zqr F_0v (zqa (zqc 0) (zqh)))) (zqz))))))
def F_0q : Fn := fnSv 3 3 sv_0q
theorem ok_0q (g : Gl K mg base) : FnG P w K mg base 4 g.a_0q g.fd_0q ["_law_draw", "_law_title", "_law_many"] (SpF g.C F_0q) :=
 Fun.okG (C := g.C) (N := N_0q) (sv := sv_0q) g.F_0q sc_0q fun cdv A outer s H E hcd hr hg O =>
  have fx := zqE (C := g.C) hr hg
  zqi (zqu (pd_tup (w_a (zqd 1) (w_a (zqv fx (ok_0x g) g.m_0x g.F_0x.kp g.b_0x (w_k (zqd 0) (w_k (zqd 2) (w_k (w_cmp fx .Eq (zqv fx (ok_0u g) g.m_0u g.F_0u.kp g.b_0u (w_k (zqd 0) (w_k (zqe) (zqb)))) (zqe)) (zqb))))) (w_a (zqv fx (ok_0f g) g.m_0f g.F_0f.kp g.b_0f (w_k (zqd 0) (zqb))) (w_a (zqv fx (ok_0v g) g.m_0v g.F_0v.kp g.b_0v (w_k (zqd 0) (zqb))) (w_a0)))))))
def sv_0t : Sv := zqw (evN (zqr F_07 (akArr [0, 1, 2, 3] 2 2 [] (zqa (evN (zqk dIx (zqc 0) (evC (.int 0)))) (zqa (evN (zqk dIx (zqc 0) (evC (.int 1)))) (zqh))) (zqa (evN (zqk dIx (zqc 0) (evC (.int 2)))) (zqa (evN (zqk dIx (zqc 0) (evC (.int 3)))) (zqh))))))
def F_0t : Fn := fnSv 1 1 sv_0t
theorem ok_0t (g : Gl K mg base) : FnG P w K mg base 7 g.a_0t g.fd_0t ["_law_one"] (SpF g.C F_0t) :=
 Fun.okG (C := g.C) (N := N_0t) (sv := sv_0t) g.F_0t sc_0t fun cdv A outer s H E hcd hr hg O =>
  have fx := zqE (C := g.C) hr hg
  zqi (zqu (w_mk 2 ["time", "comment"] [0, 1, 2, 3] [] 20 fx g.mk_Entry (ok_07 g) g.m_Entry g.bn_Entry_init_1 (cwd_ak (w_k (w_ix fx (zqd 0) (zqe)) (w_k (w_ix fx (zqd 0) (zqe)) (zqb))) (pwkd_cons (w_ix fx (zqd 0) (zqe)) (pwkd_cons (w_ix fx (zqd 0) (zqe)) (pwkd_nil))))))
def e_l_tried_1 : Ev := evLc [4, 5] (ivZip (zqa (zqF (zqg (evC (.str "number")) (zqg (evC (.str "comment")) (zqz)))) (zqa (zqc 3) (zqh)))) (gvTup 2 (zqD (zqq 4) (zqD (zqq 5) (gvNil)))) (tvE (zqc 5)) (zqc 4)
def svr_l_tried : Sv := zqm (zqs 3 (zqF (zqg (zqp (Blt.run CL .isinstance) (zqa (zqc 1) (zqa (evCls 2) (zqh)))) (zqg (zqp (Blt.run CL .isinstance) (zqa (zqc 1) (zqa (evCls 5) (zqh)))) (zqz))))) (zqw (e_l_tried_1))
def L_l_tried : LamD := ⟨6, 1, 2, 0, svr_l_tried⟩
theorem get_l_tried (g : Gl K mg base) (cdg : Value) (q : Str) {N' : List Str} {qual' : Str} {sc' : Scope} {f' : Addr} {cdv' : Value} {A' : Around} {outer' : List Env} {s' : Shared} {H' : Hp} {E' : XK} {W : WX} {k : Nat} (fx : Fx (cxOf (L2.CX P w) P w K mg base N' qual' sc' f' cdv' A' outer' s' H' E') g.C W k) (l : Nat) (hl : 0 ≤ l := by decide) :
 Gets (cxOf (L2.CX P w) P w K mg base N' qual' sc' f' cdv' A' outer' s' H' E') l N_l_tried "_law_tried" (defScope s_l_tried) g.a_l_tried cdg (defBody s_l_tried) "_law_work" q (TTL g.C L_l_tried N_l_tried) :=
 w_gets fx l sc_l_tried g.m_ArchiveError rfl fun s H O fx => have fx := fx.down hl; zqf (zqt 3 sc_l_tried.nd (pd_lst (w_a (zqG fx g.kc .isinstance g.z_isinstance (w_k (zqd 1) (w_k (w_cls 2 g.m_NoNumber) (zqb)))) (w_a (zqG fx g.kc .isinstance g.z_isinstance (w_k (zqd 1) (w_k (w_cls 5 g.m_NoComment) (zqb)))) (w_a0))))) (zqi (zqu (w_lc [("_law_word", 4), ("_law_mark", 5)] fx sc_l_tried.nd (w_zip fx g.z_zip (w_k (pd_lst (w_a (w_str) (w_a (w_str) (w_a0)))) (w_k (zqd 3) (zqb)))) (blk_of (by kernel_rfl)) (fun _ _ _ _ _ fx => wg_tup fx (n := 2) (wg_n (zqn 4 sc_l_tried.nd) (wg_n (zqn 5 sc_l_tried.nd) (wg_n0)))) (fun _ _ _ _ _ fx => w_t1 fun _ _ => wt_e fx (zqd 5)) (fun _ _ _ _ _ fx _ _ => zqd 4))))
def e_00_1 : Ev := evWs [6] CL L_l_tried [evN (zqr F_0y (zqa (zqc 1) (zqa (zqc 2) (zqh)))), evN (zqr F_0s (zqa (zqc 3) (zqa (evC (.int 0)) (zqa (evC (.int 0)) (zqa (evC .non) (zqh)))))), evN (zqr F_0s (zqa (evC (.int 1)) (zqa (zqc 2) (zqa (evC (.int 0)) (zqa (evC .non) (zqh)))))), evN (zqr F_0s (zqa (evC (.int 1)) (zqa (evC (.int 0)) (zqa (zqc 2) (zqa (evC .non) (zqh)))))), evN (zqr F_0s (zqa (evC (.int 1)) (zqa (evC (.int 0)) (zqa (evC (.int 0)) (zqa (zqc 4) (zqh))))))]
def t_00_3 : Sv := svW0 5 (zqw (zqk (dCmp .Eq) (e_00_1) (zqk (dBin .Add) (zqk (dBin .Mult) (zqF (zqg (zqF (zqg (evC (.str "number")) (zqz))) (zqz))) (evC (.int 4))) (zqF (zqg (zqF (zqg (evC (.str "comment")) (zqz))) (zqz))))))
def t_00_2 : Sv := zqm (zqs 4 (evN (zqr F_0w (zqa (zqc 0) (zqa (zqF (zqg (zqk (dBin .Mult) (evC (.str "a")) (evC (.int 41))) (zqg (evC .non) (zqg (evC (.int 5)) (zqg (zqF (zqg (evC (.str "a")) (zqz))) (zqg (evTup (zqz)) (zqg (evDct dvNil) (zqg (evC (.bl false)) (zqz))))))))) (zqh)))))) (t_00_3)
def t_00_1 : Sv := zqm (zqs 3 (evN (zqr F_0w (zqa (zqc 0) (zqa (zqF (zqg (evNeg (evC (.int 1))) (zqg (evC (.int 21)) (zqg (evC .non) (zqg (evC (.bl false)) (zqg (evC (.str "1")) (zqg (zqF (zqg (evC (.int 1)) (zqz))) (zqz)))))))) (zqh)))))) (t_00_2)
def sv_00 : Sv := zqm (zqs 2 (evN (zqr F_0w (zqa (zqc 0) (zqa (zqF (zqg (evNeg (evC (.int 1))) (zqg (evC (.int 4294967296)) (zqg (zqk (dBin .Pow) (evC (.int 10)) (evC (.int 20))) (zqg (evC .non) (zqg (evC (.bl true)) (zqg (evC (.str "1")) (zqg (zqF (zqg (evC (.int 1)) (zqz))) (zqz))))))))) (zqh)))))) (t_00_1)
def F_00 : Fn := fnSv 7 2 sv_00
theorem ok_00 (g : Gl K mg base) : FnG P w K mg base 8 g.a_00 g.fd_00 ["_law_draw", "_law_told"] (SpF g.C F_00) :=
 Fun.okG (C := g.C) (N := N_00) (sv := sv_00) g.F_00 sc_00 fun cdv A outer s H E hcd hr hg O =>
  have fx := zqE (C := g.C) hr hg
  zqf (zqt 2 sc_00.nd (zqv fx (ok_0w g) g.m_0w g.F_0w.kp g.b_0w (w_k (zqd 0) (w_k (pd_lst (w_a (pd_neg (zqe)) (w_a (zqe) (w_a (zqj fx .Pow (zqe) (zqe)) (w_a (w_none) (w_a (w_bool) (w_a (w_str) (w_a (pd_lst (w_a (zqe) (w_a0))) (w_a0))))))))) (zqb))))) (zqf (zqt 3 sc_00.nd (zqv fx (ok_0w g) g.m_0w g.F_0w.kp g.b_0w (w_k (zqd 0) (w_k (pd_lst (w_a (pd_neg (zqe)) (w_a (zqe) (w_a (w_none) (w_a (w_bool) (w_a (w_str) (w_a (pd_lst (w_a (zqe) (w_a0))) (w_a0)))))))) (zqb))))) (zqf (zqt 4 sc_00.nd (zqv fx (ok_0w g) g.m_0w g.F_0w.kp g.b_0w (w_k (zqd 0) (w_k (pd_lst (w_a (zqj fx .Mult (w_str) (zqe)) (w_a (w_none) (w_a (zqe) (w_a (pd_lst (w_a (w_str) (w_a0))) (w_a (pd_tup (w_a0)) (w_a (pd_dct0) (w_a (w_bool) (w_a0))))))))) (zqb))))) (ws_w0 5 5 fx sc_00.nd g.tb_l_refused_right (hcd.symm.trans g.cd_l_refused_right) g.tm_l_refused_right g.tu_l_refused_right (fun A outer s H E f c' fx O H0 => zqv fx (ok_0y g) g.m_0y g.F_0y.kp g.b_0y (w_k (zqd 1) (w_k (zqd 2) (zqb)))) (ws_wA fx g.tb_l_refused_right (hcd.symm.trans g.cd_l_refused_right) g.tm_l_refused_right g.tu_l_refused_right (fun A outer s H E f c' fx O H0 => zqv fx (ok_0s g) g.m_0s g.F_0s.kp g.b_0s (w_k (zqd 3) (w_k (zqe) (w_k (zqe) (w_k (w_none) (zqb)))))) (ws_wA fx g.tb_l_refused_right (hcd.symm.trans g.cd_l_refused_right) g.tm_l_refused_right g.tu_l_refused_right (fun A outer s H E f c' fx O H0 => zqv fx (ok_0s g) g.m_0s g.F_0s.kp g.b_0s (w_k (zqe) (w_k (zqd 2) (w_k (zqe) (w_k (w_none) (zqb)))))) (ws_wA fx g.tb_l_refused_right (hcd.symm.trans g.cd_l_refused_right) g.tm_l_refused_right g.tu_l_refused_right (fun A outer s H E f c' fx O H0 => zqv fx (ok_0s g) g.m_0s g.F_0s.kp g.b_0s (w_k (zqe) (w_k (zqe) (w_k (zqd 2) (w_k (w_none) (zqb)))))) (ws_wA fx g.tb_l_refused_right (hcd.symm.trans g.cd_l_refused_right) g.tm_l_refused_right g.tu_l_refused_right (fun A outer s H E f c' fx O H0 => zqv fx (ok_0s g) g.m_0s g.F_0s.kp g.b_0s (w_k (zqe) (w_k (zqe) (w_k (zqe) (w_k (zqd 4) (zqb)))))) (ws_wU (wsf_ret (wf_cmp fx .Eq (w_ws 6 5 fx sc_00.nd g.kc g.F_l_tried g.m_l_tried g.b_l_tried sc_l_tried rfl (fun cdv => get_l_tried g cdv _ fx 6) (blk_of (by kernel_rfl))) (zqj fx .Add (zqj fx .Mult (pd_lst (w_a (pd_lst (w_a (w_str) (w_a0))) (w_a0))) (zqe)) (pd_lst (w_a (pd_lst (w_a (w_str) (w_a0))) (w_a0))))))))))))))
def e_16_1 : Ev := evLc [10] (ivE (zqc 8)) (zqq 10) (tvNot (tvE (zqp (Blt.run CL .isinstance) (zqa (zqc 10) (zqa (evC (.ty "list")) (zqh)))))) (zqc 10)
def r_law_2 : Sv := zqm (zqs 11 (zqF (zqg (evN (zqr F_0c (akPerm [0] (zqa (zqc 4) (zqh))))) (zqg (evN (zqr F_0y (akPerm [1, 0] (zqa (zqc 5) (zqa (zqc 4) (zqh)))))) (zqz))))) (zqm (svApp 11 (evN (zqr F_0s (akPerm [3, 2, 1, 0] (zqa (evN (zqk dIx (zqc 3) (evC (.int 3)))) (zqa (zqc 7) (zqa (zqc 5) (zqa (zqc 6) (zqh))))))))) (svIf (tvOr (tvB (zqk (dCmp .NotEq) (zqc 11) (zqc 9))) (tvNot (tvE (evN (zqr F_00 (zqa (zqc 1) (zqa (zqc 4) (zqh)))))))) (zqw (evC (.bl false))) (svNx)))
def u1_16_4 : Sv := svH3 8 (evN (zqr F_0c (zqa (zqc 4) (zqh)))) (evN (zqr F_0y (zqa (zqc 4) (zqa (zqc 5) (zqh))))) (evN (zqr F_0s (zqa (zqc 6) (zqa (zqc 5) (zqa (zqc 7) (zqa (evN (zqk dIx (zqc 3) (evC (.int 3)))) (zqh))))))) (fun n1 n2 n3 => svHSet 9 (zqF (zqg (evN (zqr F_0h (zqa (zqc 3) (zqh)))) (zqg (evN (zqr F_14 (zqa (zqc 3) (zqa (zqc 5) (zqh))))) (zqg (evN (zqr F_12 (zqa (zqc 6) (zqa (zqc 5) (zqa (zqc 7) (zqa (evN (zqk dIx (zqc 3) (evC (.int 3)))) (zqh))))))) (zqz))))) (svHIf 8 n1 n2 n3 (tvOr (tvB (zqk (dCmp .NotEq) (zqc 8) (zqc 9))) (tvB (zqk (dCmp .NotEq) (e_16_1) (zqF (zqz))))) (svHClr 10 r_law_2)))
def u1_16_3 : Sv := zqm (svThen (svPar 6 (zqk (dBin .Mod) (zqp (Blt.run CL .len) (zqa (zqc 2) (zqh))) (evC (.int 21))) (svPar 7 (zqk (dBin .Mod) (zqk (dBin .Mult) (zqp (Blt.run CL .len) (zqa (zqc 2) (zqh))) (zqc 5)) (evC (.int 4294967296))) (svNx)))) (u1_16_4)
def u1_16_2 : Sv := zqm (svThen (svPar 4 (evN (zqr F_0t (zqa (zqc 3) (zqh)))) (svPar 5 (evN (zqr F_0u (zqa (zqc 1) (zqa (evN (zqr F_0w (zqa (zqc 1) (zqa (zqF (zqg (evC (.int 1000)) (zqg (evC (.int 4294967296)) (zqz)))) (zqh))))) (zqh))))) (svNx)))) (u1_16_3)
def u1_16_1 : Sv := zqm (svIf (tvB (zqk (dCmp .Eq) (evN (zqr F_0u (zqa (zqc 1) (zqa (evC (.int 12)) (zqh))))) (evC (.int 0)))) (zqm (zqs 3 (evTup (zqg (evN (zqk dIx (zqc 3) (evC (.int 0)))) (zqg (zqk (dBin .Mult) (zqk (dBin .Add) (evN (zqk dIx (zqc 3) (evC (.int 1)))) (zqF (zqg (evC (.int 80)) (zqz)))) (evC (.int 1500))) (zqg (evN (zqk dIx (zqc 3) (evC (.int 2)))) (zqg (evN (zqk dIx (zqc 3) (evC (.int 3)))) (zqz))))))) (zqs 3 (evTup (zqg (evN (zqk dIx (zqc 3) (evC (.int 0)))) (zqg (evSl (evN (zqk dIx (zqc 3) (evC (.int 1)))) (pvNone) (pvSome (evC (.int 1500)))) (zqg (evN (zqk dIx (zqc 3) (evC (.int 2)))) (zqg (evN (zqk dIx (zqc 3) (evC (.int 3)))) (zqz)))))))) (svNx)) (u1_16_2)
def b_16_7 : Sv := zqm (zqs 3 (evN (zqr F_0q (zqa (zqc 1) (zqa (zqc 2) (zqa (evC (.int 60)) (zqh))))))) (u1_16_1)
def t_16_2 : Sv := zqw (evAnd (zqk (dCmp .Eq) (evN (zqr F_0s (zqa (evC (.int 0)) (zqa (evC (.int 0)) (zqa (evC (.int 0)) (zqa (evC (.str "")) (zqh))))))) (evN (zqr F_12 (zqa (evC (.int 0)) (zqa (evC (.int 0)) (zqa (evC (.int 0)) (zqa (evC (.str "")) (zqh)))))))) (zqk (dCmp .Eq) (evSl (evN (zqr F_0s (zqa (evC (.int 20)) (zqa (evC (.int 4294967295)) (zqa (evC (.int 0)) (zqa (evC (.str "")) (zqh))))))) (pvSome (evC (.int 8))) (pvSome (evC (.int 10)))) (zqF (zqg (evC (.int 20)) (zqg (evC (.int 0)) (zqz))))))
def t_16_1 : Sv := zqm (svFor (ivE (evN (zqr F_0j (zqa (zqc 1) (zqa (evC (.int 6)) (zqh)))))) (zqq 2) (b_16_7)) (t_16_2)
def sv_16 : Sv := zqm (zqs 1 (evN (zqr F_l_begun (zqa (zqc 0) (zqh))))) (t_16_1)
def F_16 : Fn := fnSv 12 1 sv_16
theorem ok_16 (g : Gl K mg base) : FnG P w K mg base 9 g.a_16 g.fd_16 ["_law_script"] (SpF g.C F_16) :=
 Fun.okG (C := g.C) (N := N_16) (sv := sv_16) g.F_16 sc_16 fun cdv A outer s H E hcd hr hg O =>
  have fx := zqE (C := g.C) hr hg
  zqf (zqt 1 sc_16.nd (zqv fx (ok_l_begun g) g.m_l_begun g.F_l_begun.kp g.b_l_begun (w_k (zqd 0) (zqb)))) (zqf (ws_for fx pas_of (wi_e fx (zqv fx (ok_0j g) g.m_0j g.F_0j.kp g.b_0j (w_k (zqd 1) (w_k (zqe) (zqb))))) (zqn 2 sc_16.nd) (f := b_16_7) (zqf (zqt 3 sc_16.nd (zqv fx (ok_0q g) g.m_0q g.F_0q.kp g.b_0q (w_k (zqd 1) (w_k (zqd 2) (w_k (zqe) (zqb)))))) (zqf (ws_if (wt_cmp fx .Eq (zqv fx (ok_0u g) g.m_0u g.F_0u.kp g.b_0u (w_k (zqd 1) (w_k (zqe) (zqb)))) (zqe)) (zqf (zqt 3 sc_16.nd (pd_tup (w_a (w_ix fx (zqd 3) (zqe)) (w_a (zqj fx .Mult (zqj fx .Add (w_ix fx (zqd 3) (zqe)) (pd_lst (w_a (zqe) (w_a0)))) (zqe)) (w_a (w_ix fx (zqd 3) (zqe)) (w_a (w_ix fx (zqd 3) (zqe)) (w_a0))))))) (zqi (zqt 3 sc_16.nd (pd_tup (w_a (w_ix fx (zqd 3) (zqe)) (w_a (pd_slice fx.K (w_ix fx (zqd 3) (zqe)) (pod_none) (pod_some (zqe))) (w_a (w_ix fx (zqd 3) (zqe)) (w_a (w_ix fx (zqd 3) (zqe)) (w_a0))))))))) (zqA)) (zqf (ws_par 4 5 fx sc_16.nd (fun O H0 => zqv fx (ok_0t g) g.m_0t g.F_0t.kp g.b_0t (w_k (zqd 3) (zqb))) (fun O H0 => zqv fx (ok_0u g) g.m_0u g.F_0u.kp g.b_0u (w_k (zqd 1) (w_k (zqv fx (ok_0w g) g.m_0w g.F_0w.kp g.b_0w (w_k (zqd 1) (w_k (pd_lst (w_a (zqe) (w_a (zqe) (w_a0)))) (zqb)))) (zqb))))) (zqf (ws_par 6 7 fx sc_16.nd (fun O H0 => zqj fx .Mod (zqG fx g.kc .len g.z_len (w_k (zqd 2) (zqb))) (zqe)) (fun O H0 => zqj fx .Mod (zqj fx .Mult (zqG fx g.kc .len g.z_len (w_k (zqd 2) (zqb))) (zqd 5)) (zqe))) (ws_h3 8 fx sc_16.nd (fun O H0 => zqv fx (ok_0c g) g.m_0c g.F_0c.kp g.b_0c (w_k (zqd 4) (zqb))) (fun O H0 => zqv fx (ok_0y g) g.m_0y g.F_0y.kp g.b_0y (w_k (zqd 4) (w_k (zqd 5) (zqb)))) (fun O H0 => zqv fx (ok_0s g) g.m_0s g.F_0s.kp g.b_0s (w_k (zqd 6) (w_k (zqd 5) (w_k (zqd 7) (w_k (w_ix fx (zqd 3) (zqe)) (zqb)))))) (fun n1 n2 n3 => ws_hset 9 (by decide) fx sc_16.nd (fun O H0 => pd_lst (w_a (zqv fx (ok_0h g) g.m_0h g.F_0h.kp g.b_0h (w_k (zqd 3) (zqb))) (w_a (zqv fx (ok_14 g) g.m_14 g.F_14.kp g.b_14 (w_k (zqd 3) (w_k (zqd 5) (zqb)))) (w_a (zqv fx (ok_12 g) g.m_12 g.F_12.kp g.b_12 (w_k (zqd 6) (w_k (zqd 5) (w_k (zqd 7) (w_k (w_ix fx (zqd 3) (zqe)) (zqb)))))) (w_a0))))) (ws_hif (PWD.pt (pwd_or (wt_cmp fx .NotEq (zqd 8) (zqd 9)) (pwd_or1 (wt_cmp fx .NotEq (w_lc [("_law_part", 10)] fx sc_16.nd (wi_e fx (zqd 8)) (blk_of (by kernel_rfl)) (fun _ _ _ _ _ fx => zqn 10 sc_16.nd) (fun _ _ _ _ _ fx => w_t1 fun _ _ => ptd_not (wt_e fx (zqG fx g.kc .isinstance g.z_isinstance (w_k (zqd 10) (w_k (w_ty "list" rfl g.z_list) (zqb)))))) (fun _ _ _ _ _ fx _ _ => zqd 10)) (pd_lst (w_a0)))))) (ws_hclr 10 (by decide) fx sc_16.nd pas_of (g := r_law_2) (zqf (zqt 11 sc_16.nd (pd_lst (w_a (w_fnW [0] ["entry"] fx (ok_0c g) g.m_0c g.F_0c.kp g.kb_record_of_0 (pwkd_cons (zqd 4) (pwkd_nil))) (w_a (w_fnW [1, 0] ["place", "entry"] fx (ok_0y g) g.m_0y g.F_0y.kp g.kb_row_of_0 (pwkd_cons (zqd 5) (pwkd_cons (zqd 4) (pwkd_nil)))) (w_a0))))) (zqf (ws_append 11 fx (w_fnW [3, 2, 1, 0] ["comment", "place", "size", "number"] fx (ok_0s g) g.m_0s g.F_0s.kp g.kb_end_of_0 (pwkd_cons (w_ix fx (zqd 3) (zqe)) (pwkd_cons (zqd 7) (pwkd_cons (zqd 5) (pwkd_cons (zqd 6) (pwkd_nil))))))) (zqi (ws_if (PWD.pt (pwd_or (wt_cmp fx .NotEq (zqd 11) (zqd 9)) (pwd_or1 (ptd_not (wt_e fx (zqv fx (ok_00 g) g.m_00 g.F_00.kp g.b_00 (w_k (zqd 1) (w_k (zqd 4) (zqb))))))))) (zqi (zqu (w_bool))) (zqA)))))))))))))) (zqi (zqu (w_and fx (w_cmp fx .Eq (zqv fx (ok_0s g) g.m_0s g.F_0s.kp g.b_0s (w_k (zqe) (w_k (zqe) (w_k (zqe) (w_k (w_str) (zqb)))))) (zqv fx (ok_12 g) g.m_12 g.F_12.kp g.b_12 (w_k (zqe) (w_k (zqe) (w_k (zqe) (w_k (w_str) (zqb))))))) (pd_one (w_cmp fx .Eq (pd_slice fx.K (zqv fx (ok_0s g) g.m_0s g.F_0s.kp g.b_0s (w_k (zqe) (w_k (zqe) (w_k (zqe) (w_k (w_str) (zqb)))))) (pod_some (zqe)) (pod_some (zqe))) (pd_lst (w_a (zqe) (w_a (zqe) (w_a0))))))))))
end
theorem bx_is_number {K : PySem.W.Frag} {f : Addr} {fd : FuncData} (F : Fun K "is_number" "is_number" s_0b f fd) : Binds K fd ["thing", "low", "high"] [] := F.binds (ps := ["thing", "low", "high"]) fun _ _ _ _ _ _ us hl => match us, hl with | [_, _, _], _ => rfl
theorem bx_is_bytes {K : PySem.W.Frag} {f : Addr} {fd : FuncData} (F : Fun K "is_bytes" "is_bytes" s_0e f fd) : Binds K fd ["thing"] [] := F.binds (ps := ["thing"]) fun _ _ _ _ _ _ us hl => match us, hl with | [_], _ => rfl
theorem bx_need_bytes {K : PySem.W.Frag} {f : Addr} {fd : FuncData} (F : Fun K "need_bytes" "need_bytes" s_0a f fd) : Binds K fd ["thing"] [] := F.binds (ps := ["thing"]) fun _ _ _ _ _ _ us hl => match us, hl with | [_], _ => rfl
theorem bx_bytes_of {K : PySem.W.Frag} {f : Addr} {fd : FuncData} (F : Fun K "bytes_of" "bytes_of" s_0d f fd) : Binds K fd ["number", "size"] [] := F.binds (ps := ["number", "size"]) fun _ _ _ _ _ _ us hl => match us, hl with | [_, _], _ => rfl
theorem bx_forward {K : PySem.W.Frag} {f : Addr} {fd : FuncData} (F : Fun K "forward" "forward" s_0m f fd) : Binds K fd ["crc", "some"] [] := F.binds (ps := ["crc", "some"]) fun _ _ _ _ _ _ us hl => match us, hl with | [_, _], _ => rfl
theorem bx_check {K : PySem.W.Frag} {f : Addr} {fd : FuncData} (F : Fun K "check" "check" s_10 f fd) : Binds K fd ["data"] [] := F.binds (ps := ["data"]) fun _ _ _ _ _ _ us hl => match us, hl with | [_], _ => rfl
theorem bx_is_printable {K : PySem.W.Frag} {f : Addr} {fd : FuncData} (F : Fun K "is_printable" "is_printable" s_02 f fd) : Binds K fd ["number"] [] := F.binds (ps := ["number"]) fun _ _ _ _ _ _ us hl => match us, hl with | [_], _ => rfl
theorem bx_is_text {K : PySem.W.Frag} {f : Addr} {fd : FuncData} (F : Fun K "is_text" "is_text" s_0o f fd) : Binds K fd ["thing"] [] := F.binds (ps := ["thing"]) fun _ _ _ _ _ _ us hl => match us, hl with | [_], _ => rfl
theorem bx_is_name {K : PySem.W.Frag} {f : Addr} {fd : FuncData} (F : Fun K "is_name" "is_name" s_0n f fd) : Binds K fd ["thing"] [] := F.binds (ps := ["thing"]) fun _ _ _ _ _ _ us hl => match us, hl with | [_], _ => rfl
theorem bx_is_comment {K : PySem.W.Frag} {f : Addr} {fd : FuncData} (F : Fun K "is_comment" "is_comment" s_09 f fd) : Binds K fd ["thing"] [] := F.binds (ps := ["thing"]) fun _ _ _ _ _ _ us hl => match us, hl with | [_], _ => rfl
theorem bx_bytes_of_text {K : PySem.W.Frag} {f : Addr} {fd : FuncData} (F : Fun K "bytes_of_text" "bytes_of_text" s_01 f fd) : Binds K fd ["text"] [] := F.binds (ps := ["text"]) fun _ _ _ _ _ _ us hl => match us, hl with | [_], _ => rfl
theorem bx_days_in {K : PySem.W.Frag} {f : Addr} {fd : FuncData} (F : Fun K "days_in" "days_in" s_0l f fd) : Binds K fd ["year", "month"] [] := F.binds (ps := ["year", "month"]) fun _ _ _ _ _ _ us hl => match us, hl with | [_, _], _ => rfl
theorem bx_is_time {K : PySem.W.Frag} {f : Addr} {fd : FuncData} (F : Fun K "is_time" "is_time" s_0p f fd) : Binds K fd ["thing"] [] := F.binds (ps := ["thing"]) fun _ _ _ _ _ _ us hl => match us, hl with | [_], _ => rfl
theorem bx_stamp_of {K : PySem.W.Frag} {f : Addr} {fd : FuncData} (F : Fun K "stamp_of" "stamp_of" s_0k f fd) : Binds K fd ["time"] [] := F.binds (ps := ["time"]) fun _ _ _ _ _ _ us hl => match us, hl with | [_], _ => rfl
theorem bx_Entry_data {K : PySem.W.Frag} {f : Addr} {fd : FuncData} (F : Fun K "data" "Entry.data" s_06 f fd) : Binds K fd ["self"] [] := F.binds (ps := ["self"]) fun _ _ _ _ _ _ us hl => match us, hl with | [_], _ => rfl
theorem bx_Entry_size {K : PySem.W.Frag} {f : Addr} {fd : FuncData} (F : Fun K "size" "Entry.size" s_08 f fd) : Binds K fd ["self"] [] := F.binds (ps := ["self"]) fun _ _ _ _ _ _ us hl => match us, hl with | [_], _ => rfl
theorem bx_Entry_check {K : PySem.W.Frag} {f : Addr} {fd : FuncData} (F : Fun K "check" "Entry.check" s_04 f fd) : Binds K fd ["self"] [] := F.binds (ps := ["self"]) fun _ _ _ _ _ _ us hl => match us, hl with | [_], _ => rfl
theorem bx_shared_bytes {K : PySem.W.Frag} {f : Addr} {fd : FuncData} (F : Fun K "shared_bytes" "shared_bytes" s_03 f fd) : Binds K fd ["entry"] [] := F.binds (ps := ["entry"]) fun _ _ _ _ _ _ us hl => match us, hl with | [_], _ => rfl
theorem bx_record_of {K : PySem.W.Frag} {f : Addr} {fd : FuncData} (F : Fun K "record_of" "record_of" s_0c f fd) : Binds K fd ["entry"] [] := F.binds (ps := ["entry"]) fun _ _ _ _ _ _ us hl => match us, hl with | [_], _ => rfl
theorem bx_need_number {K : PySem.W.Frag} {f : Addr} {fd : FuncData} (F : Fun K "need_number" "need_number" s_05 f fd) : Binds K fd ["number", "most"] [] := F.binds (ps := ["number", "most"]) fun _ _ _ _ _ _ us hl => match us, hl with | [_, _], _ => rfl
theorem bx_row_of {K : PySem.W.Frag} {f : Addr} {fd : FuncData} (F : Fun K "row_of" "row_of" s_0y f fd) : Binds K fd ["entry", "place"] [] := F.binds (ps := ["entry", "place"]) fun _ _ _ _ _ _ us hl => match us, hl with | [_, _], _ => rfl
theorem bx_end_of {K : PySem.W.Frag} {f : Addr} {fd : FuncData} (F : Fun K "end_of" "end_of" s_0s f fd) : Binds K fd ["number", "size", "place", "comment"] [] := F.binds (ps := ["number", "size", "place", "comment"]) fun _ _ _ _ _ _ us hl => match us, hl with | [_, _, _, _], _ => rfl
theorem bx_l_begun {K : PySem.W.Frag} {f : Addr} {fd : FuncData} (F : Fun K "_law_begun" "_law_begun" s_l_begun f fd) : Binds K fd ["_law_script"] [] := F.binds (ps := ["_law_script"]) fun _ _ _ _ _ _ us hl => match us, hl with | [_], _ => rfl
theorem bx_l_next {K : PySem.W.Frag} {f : Addr} {fd : FuncData} (F : Fun K "_law_next" "_law_next" s_0u f fd) : Binds K fd ["_law_draw", "_law_many"] [] := F.binds (ps := ["_law_draw", "_law_many"]) fun _ _ _ _ _ _ us hl => match us, hl with | [_, _], _ => rfl
theorem bx_l_pick {K : PySem.W.Frag} {f : Addr} {fd : FuncData} (F : Fun K "_law_pick" "_law_pick" s_0w f fd) : Binds K fd ["_law_draw", "_law_some_here"] [] := F.binds (ps := ["_law_draw", "_law_some_here"]) fun _ _ _ _ _ _ us hl => match us, hl with | [_, _], _ => rfl
theorem bx_l_signs {K : PySem.W.Frag} {f : Addr} {fd : FuncData} (F : Fun K "_law_signs" "_law_signs" s_0r f fd) : Binds K fd [] [] := F.binds (ps := []) fun _ _ _ _ _ _ us hl => match us, hl with | [], _ => rfl
theorem bx_l_titles {K : PySem.W.Frag} {f : Addr} {fd : FuncData} (F : Fun K "_law_titles" "_law_titles" s_0j f fd) : Binds K fd ["_law_draw", "_law_many"] [] := F.binds (ps := ["_law_draw", "_law_many"]) fun _ _ _ _ _ _ us hl => match us, hl with | [_, _], _ => rfl
theorem bx_l_note {K : PySem.W.Frag} {f : Addr} {fd : FuncData} (F : Fun K "_law_note" "_law_note" s_0v f fd) : Binds K fd ["_law_draw"] [] := F.binds (ps := ["_law_draw"]) fun _ _ _ _ _ _ us hl => match us, hl with | [_], _ => rfl
theorem bx_l_moment {K : PySem.W.Frag} {f : Addr} {fd : FuncData} (F : Fun K "_law_moment" "_law_moment" s_0f f fd) : Binds K fd ["_law_draw"] [] := F.binds (ps := ["_law_draw"]) fun _ _ _ _ _ _ us hl => match us, hl with | [_], _ => rfl
theorem bx_l_low {K : PySem.W.Frag} {f : Addr} {fd : FuncData} (F : Fun K "_law_low" "_law_low" s_13 f fd) : Binds K fd ["_law_amount", "_law_wide"] [] := F.binds (ps := ["_law_amount", "_law_wide"]) fun _ _ _ _ _ _ us hl => match us, hl with | [_, _], _ => rfl
theorem bx_l_octets {K : PySem.W.Frag} {f : Addr} {fd : FuncData} (F : Fun K "_law_octets" "_law_octets" s_0g f fd) : Binds K fd ["_law_text"] [] := F.binds (ps := ["_law_text"]) fun _ _ _ _ _ _ us hl => match us, hl with | [_], _ => rfl
theorem bx_l_crc {K : PySem.W.Frag} {f : Addr} {fd : FuncData} (F : Fun K "_law_crc" "_law_crc" s_11 f fd) : Binds K fd ["_law_some_here"] [] := F.binds (ps := ["_law_some_here"]) fun _ _ _ _ _ _ us hl => match us, hl with | [_], _ => rfl
theorem bx_l_shared {K : PySem.W.Frag} {f : Addr} {fd : FuncData} (F : Fun K "_law_shared" "_law_shared" s_0i f fd) : Binds K fd ["_law_one"] [] := F.binds (ps := ["_law_one"]) fun _ _ _ _ _ _ us hl => match us, hl with | [_], _ => rfl
theorem bx_l_record {K : PySem.W.Frag} {f : Addr} {fd : FuncData} (F : Fun K "_law_record" "_law_record" s_0h f fd) : Binds K fd ["_law_one"] [] := F.binds (ps := ["_law_one"]) fun _ _ _ _ _ _ us hl => match us, hl with | [_], _ => rfl
theorem bx_l_row {K : PySem.W.Frag} {f : Addr} {fd : FuncData} (F : Fun K "_law_row" "_law_row" s_14 f fd) : Binds K fd ["_law_one", "_law_spot"] [] := F.binds (ps := ["_law_one", "_law_spot"]) fun _ _ _ _ _ _ us hl => match us, hl with | [_, _], _ => rfl
theorem bx_l_end {K : PySem.W.Frag} {f : Addr} {fd : FuncData} (F : Fun K "_law_end" "_law_end" s_12 f fd) : Binds K fd ["_law_many", "_law_wide", "_law_spot", "_law_note_here"] [] := F.binds (ps := ["_law_many", "_law_wide", "_law_spot", "_law_note_here"]) fun _ _ _ _ _ _ us hl => match us, hl with | [_, _, _, _], _ => rfl
theorem bx_l_some {K : PySem.W.Frag} {f : Addr} {fd : FuncData} (F : Fun K "_law_some" "_law_some" s_0x f fd) : Binds K fd ["_law_draw", "_law_many", "_law_plain"] [] := F.binds (ps := ["_law_draw", "_law_many", "_law_plain"]) fun _ _ _ _ _ _ us hl => match us, hl with | [_, _, _], _ => rfl
theorem bx_l_entry {K : PySem.W.Frag} {f : Addr} {fd : FuncData} (F : Fun K "_law_entry" "_law_entry" s_0q f fd) : Binds K fd ["_law_draw", "_law_title", "_law_many"] [] := F.binds (ps := ["_law_draw", "_law_title", "_law_many"]) fun _ _ _ _ _ _ us hl => match us, hl with | [_, _, _], _ => rfl
theorem bx_l_made {K : PySem.W.Frag} {f : Addr} {fd : FuncData} (F : Fun K "_law_made" "_law_made" s_0t f fd) : Binds K fd ["_law_one"] [] := F.binds (ps := ["_law_one"]) fun _ _ _ _ _ _ us hl => match us, hl with | [_], _ => rfl
theorem bx_l_tried {K : PySem.W.Frag} {f : Addr} {fd : FuncData} (F : Fun K "_law_tried" "_law_tried" s_l_tried f fd) : Binds K fd ["_law_work"] [] := F.binds (ps := ["_law_work"]) fun _ _ _ _ _ _ us hl => match us, hl with | [_], _ => rfl
theorem all_mk {l : PySem.W.OpenLaw} {q : Program} {w : World} {K : PySem.W.Frag} {h : Heap} {mg : Str → Option Value} {fa : Addr} (X : K.In h) (G : h.Ns mainGlobals mg) (hfa : mg "law" = some (.ref fa))
 {x_ArchiveError : Addr} (e_ArchiveError : PySem.W.nsIn K mainGlobals "ArchiveError" = some (some (.ref x_ArchiveError)))
 {x_NoBytes : Addr} (e_NoBytes : PySem.W.nsIn K mainGlobals "NoBytes" = some (some (.ref x_NoBytes)))
 {x_NoNumber : Addr} (e_NoNumber : PySem.W.nsIn K mainGlobals "NoNumber" = some (some (.ref x_NoNumber)))
 {x_NoTime : Addr} (e_NoTime : PySem.W.nsIn K mainGlobals "NoTime" = some (some (.ref x_NoTime)))
 {x_NoName : Addr} (e_NoName : PySem.W.nsIn K mainGlobals "NoName" = some (some (.ref x_NoName)))
 {x_NoComment : Addr} (e_NoComment : PySem.W.nsIn K mainGlobals "NoComment" = some (some (.ref x_NoComment)))
 {x_NoData : Addr} (e_NoData : PySem.W.nsIn K mainGlobals "NoData" = some (some (.ref x_NoData)))
 {x_Entry : Addr} (e_Entry : PySem.W.nsIn K mainGlobals "Entry" = some (some (.ref x_Entry)))
 (pg_Entry : PySem.W.plainGet K x_Entry Str.empty = true) (hd_Entry : PySem.W.hasDictIn K x_Entry = true) (po_Entry : PySem.W.plainOver K x_Entry = true) (sa_Entry : PySem.W.findIn K (.ref x_Entry) "__setattr__" = some (some (.builtin "object.__setattr__")))
 (mk_Entry : PySem.W.makesIn K x_Entry = true) (ck_Entry : PySem.W.keepIn K (.ref x_Entry) = true)
 (nf_Entry_name : PySem.W.findIn K (.ref x_Entry) "name" = some none)
 (nf_Entry_own_data : PySem.W.findIn K (.ref x_Entry) "own_data" = some none)
 (nf_Entry_time : PySem.W.findIn K (.ref x_Entry) "time" = some none)
 (nf_Entry_comment : PySem.W.findIn K (.ref x_Entry) "comment" = some none)
 (nf_Entry_own_check : PySem.W.findIn K (.ref x_Entry) "own_check" = some none)
 (kcB : kitCB K (clsOf [(0, x_ArchiveError), (1, x_NoBytes), (2, x_NoNumber), (3, x_NoTime), (4, x_NoName), (5, x_NoComment), (6, x_NoData), (20, x_Entry)]) CL = true)
 {f_is_number : Addr} {fd_0b : FuncData}
 (a_0b : PySem.W.nsIn K mainGlobals "is_number" = some (some (.ref f_is_number)))
 (F_0b : Fun K "is_number" "is_number" s_0b f_is_number fd_0b)
 {f_is_bytes : Addr} {fd_0e : FuncData}
 (a_0e : PySem.W.nsIn K mainGlobals "is_bytes" = some (some (.ref f_is_bytes)))
 (F_0e : Fun K "is_bytes" "is_bytes" s_0e f_is_bytes fd_0e)
 {f_need_bytes : Addr} {fd_0a : FuncData}
 (a_0a : PySem.W.nsIn K mainGlobals "need_bytes" = some (some (.ref f_need_bytes)))
 (F_0a : Fun K "need_bytes" "need_bytes" s_0a f_need_bytes fd_0a)
 {f_bytes_of : Addr} {fd_0d : FuncData}
 (a_0d : PySem.W.nsIn K mainGlobals "bytes_of" = some (some (.ref f_bytes_of)))
 (F_0d : Fun K "bytes_of" "bytes_of" s_0d f_bytes_of fd_0d)
 {f_forward : Addr} {fd_0m : FuncData}
 (a_0m : PySem.W.nsIn K mainGlobals "forward" = some (some (.ref f_forward)))
 (F_0m : Fun K "forward" "forward" s_0m f_forward fd_0m)
 {f_check : Addr} {fd_10 : FuncData}
 (a_10 : PySem.W.nsIn K mainGlobals "check" = some (some (.ref f_check)))
 (F_10 : Fun K "check" "check" s_10 f_check fd_10)
 {f_is_printable : Addr} {fd_02 : FuncData}
 (a_02 : PySem.W.nsIn K mainGlobals "is_printable" = some (some (.ref f_is_printable)))
 (F_02 : Fun K "is_printable" "is_printable" s_02 f_is_printable fd_02)
 {f_is_text : Addr} {fd_0o : FuncData}
 (a_0o : PySem.W.nsIn K mainGlobals "is_text" = some (some (.ref f_is_text)))
 (F_0o : Fun K "is_text" "is_text" s_0o f_is_text fd_0o)
 {f_is_name : Addr} {fd_0n : FuncData}
 (a_0n : PySem.W.nsIn K mainGlobals "is_name" = some (some (.ref f_is_name)))
 (F_0n : Fun K "is_name" "is_name" s_0n f_is_name fd_0n)
 {f_is_comment : Addr} {fd_09 : FuncData}
 (a_09 : PySem.W.nsIn K mainGlobals "is_comment" = some (some (.ref f_is_comment)))
 (F_09 : Fun K "is_comment" "is_comment" s_09 f_is_comment fd_09)
 {f_bytes_of_text : Addr} {fd_01 : FuncData}
 (a_01 : PySem.W.nsIn K mainGlobals "bytes_of_text" = some (some (.ref f_bytes_of_text)))
 (F_01 : Fun K "bytes_of_text" "bytes_of_text" s_01 f_bytes_of_text fd_01)
 {f_days_in : Addr} {fd_0l : FuncData}
 (a_0l : PySem.W.nsIn K mainGlobals "days_in" = some (some (.ref f_days_in)))
 (F_0l : Fun K "days_in" "days_in" s_0l f_days_in fd_0l)
 {f_is_time : Addr} {fd_0p : FuncData}
 (a_0p : PySem.W.nsIn K mainGlobals "is_time" = some (some (.ref f_is_time)))
 (F_0p : Fun K "is_time" "is_time" s_0p f_is_time fd_0p)
 {f_stamp_of : Addr} {fd_0k : FuncData}
 (a_0k : PySem.W.nsIn K mainGlobals "stamp_of" = some (some (.ref f_stamp_of)))
 (F_0k : Fun K "stamp_of" "stamp_of" s_0k f_stamp_of fd_0k)
 {f_Entry_init : Addr} {od_Entry_init an_Entry_init : Option Addr} {sl_Entry_init : Array (Option Value)} {oc_Entry_init  dc_Entry_init pm_Entry_init ct_Entry_init : Value}
 {cd_Entry_init : Value}
 (a_07 : PySem.W.findIn K (.ref x_Entry) "__init__" = some (some (.ref f_Entry_init)))
 (i_Entry_init : PySem.W.isFn K (.ref f_Entry_init) = true)
 {kd_Entry_init : Addr}
 (l_Entry_init : K.lookup f_Entry_init = some ⟨oc_Entry_init, od_Entry_init, .func (PySem.W.fnOf "__init__" "Entry.__init__" (defArgs s_07) (defBody s_07) (defScope s_07) .none (.ref kd_Entry_init) dc_Entry_init pm_Entry_init an_Entry_init cd_Entry_init ct_Entry_init), sl_Entry_init⟩)
 (c_Entry_init : PySem.W.codeIn K cd_Entry_init "Entry.__init__" = true) (k_Entry_init : PySem.W.keepIn K (.ref f_Entry_init) = true)
 {u_Entry_init_time : Addr} (kw_Entry_init_time : PySem.W.nsIn K kd_Entry_init "time" = some (some (.ref u_Entry_init_time)))
 {u_Entry_init_comment : Tok} (kw_Entry_init_comment : PySem.W.nsIn K kd_Entry_init "comment" = some (some (.str "" u_Entry_init_comment)))
 {f_Entry_data : Addr} {fd_06 : FuncData}
 {p_Entry_data : Addr} {r_Entry_data : List Value} (a_06 : PySem.W.findIn K (.ref x_Entry) "data" = some (some (.ref p_Entry_data))) (pg_Entry_data : PySem.W.specialIn K (.ref p_Entry_data) "__get__" = some (some (.builtin "property.__get__"))) (pt_Entry_data : PySem.W.takesIn K (.ref p_Entry_data) = some true) (pr_Entry_data : PySem.W.recIn K p_Entry_data "property" = some (.ref f_Entry_data :: r_Entry_data))
 (F_06 : Fun K "data" "Entry.data" s_06 f_Entry_data fd_06)
 {f_Entry_size : Addr} {fd_08 : FuncData}
 {p_Entry_size : Addr} {r_Entry_size : List Value} (a_08 : PySem.W.findIn K (.ref x_Entry) "size" = some (some (.ref p_Entry_size))) (pg_Entry_size : PySem.W.specialIn K (.ref p_Entry_size) "__get__" = some (some (.builtin "property.__get__"))) (pt_Entry_size : PySem.W.takesIn K (.ref p_Entry_size) = some true) (pr_Entry_size : PySem.W.recIn K p_Entry_size "property" = some (.ref f_Entry_size :: r_Entry_size))
 (F_08 : Fun K "size" "Entry.size" s_08 f_Entry_size fd_08)
 {f_Entry_check : Addr} {fd_04 : FuncData}
 {p_Entry_check : Addr} {r_Entry_check : List Value} (a_04 : PySem.W.findIn K (.ref x_Entry) "check" = some (some (.ref p_Entry_check))) (pg_Entry_check : PySem.W.specialIn K (.ref p_Entry_check) "__get__" = some (some (.builtin "property.__get__"))) (pt_Entry_check : PySem.W.takesIn K (.ref p_Entry_check) = some true) (pr_Entry_check : PySem.W.recIn K p_Entry_check "property" = some (.ref f_Entry_check :: r_Entry_check))
 (F_04 : Fun K "check" "Entry.check" s_04 f_Entry_check fd_04)
 {f_shared_bytes : Addr} {fd_03 : FuncData}
 (a_03 : PySem.W.nsIn K mainGlobals "shared_bytes" = some (some (.ref f_shared_bytes)))
 (F_03 : Fun K "shared_bytes" "shared_bytes" s_03 f_shared_bytes fd_03)
 {f_record_of : Addr} {fd_0c : FuncData}
 (a_0c : PySem.W.nsIn K mainGlobals "record_of" = some (some (.ref f_record_of)))
 (F_0c : Fun K "record_of" "record_of" s_0c f_record_of fd_0c)
 {f_need_number : Addr} {fd_05 : FuncData}
 (a_05 : PySem.W.nsIn K mainGlobals "need_number" = some (some (.ref f_need_number)))
 (F_05 : Fun K "need_number" "need_number" s_05 f_need_number fd_05)
 {f_row_of : Addr} {fd_0y : FuncData}
 (a_0y : PySem.W.nsIn K mainGlobals "row_of" = some (some (.ref f_row_of)))
 (F_0y : Fun K "row_of" "row_of" s_0y f_row_of fd_0y)
 {f_end_of : Addr} {fd_0s : FuncData}
 (a_0s : PySem.W.nsIn K mainGlobals "end_of" = some (some (.ref f_end_of)))
 (F_0s : Fun K "end_of" "end_of" s_0s f_end_of fd_0s)
 {f_l_begun : Addr} {fd_l_begun : FuncData}
 (a_l_begun : PySem.W.nsIn K mainGlobals "_law_begun" = some (some (.ref f_l_begun)))
 (F_l_begun : Fun K "_law_begun" "_law_begun" s_l_begun f_l_begun fd_l_begun)
 {f_l_next : Addr} {fd_0u : FuncData}
 (a_0u : PySem.W.nsIn K mainGlobals "_law_next" = some (some (.ref f_l_next)))
 (F_0u : Fun K "_law_next" "_law_next" s_0u f_l_next fd_0u)
 {f_l_pick : Addr} {fd_0w : FuncData}
 (a_0w : PySem.W.nsIn K mainGlobals "_law_pick" = some (some (.ref f_l_pick)))
 (F_0w : Fun K "_law_pick" "_law_pick" s_0w f_l_pick fd_0w)
 {f_l_signs : Addr} {fd_0r : FuncData}
 (a_0r : PySem.W.nsIn K mainGlobals "_law_signs" = some (some (.ref f_l_signs)))
 (F_0r : Fun K "_law_signs" "_law_signs" s_0r f_l_signs fd_0r)
 {f_l_titles : Addr} {fd_0j : FuncData}
 (a_0j : PySem.W.nsIn K mainGlobals "_law_titles" = some (some (.ref f_l_titles)))
 (F_0j : Fun K "_law_titles" "_law_titles" s_0j f_l_titles fd_0j)
 {f_l_note : Addr} {fd_0v : FuncData}
 (a_0v : PySem.W.nsIn K mainGlobals "_law_note" = some (some (.ref f_l_note)))
 (F_0v : Fun K "_law_note" "_law_note" s_0v f_l_note fd_0v)
 {f_l_moment : Addr} {fd_0f : FuncData}
 (a_0f : PySem.W.nsIn K mainGlobals "_law_moment" = some (some (.ref f_l_moment)))
 (F_0f : Fun K "_law_moment" "_law_moment" s_0f f_l_moment fd_0f)
 {f_l_low : Addr} {fd_13 : FuncData}
 (a_13 : PySem.W.nsIn K mainGlobals "_law_low" = some (some (.ref f_l_low)))
 (F_13 : Fun K "_law_low" "_law_low" s_13 f_l_low fd_13)
 {f_l_octets : Addr} {fd_0g : FuncData}
 (a_0g : PySem.W.nsIn K mainGlobals "_law_octets" = some (some (.ref f_l_octets)))
 (F_0g : Fun K "_law_octets" "_law_octets" s_0g f_l_octets fd_0g)
 {f_l_crc : Addr} {fd_11 : FuncData}
 (a_11 : PySem.W.nsIn K mainGlobals "_law_crc" = some (some (.ref f_l_crc)))
 (F_11 : Fun K "_law_crc" "_law_crc" s_11 f_l_crc fd_11)
 {f_l_shared : Addr} {fd_0i : FuncData}
 (a_0i : PySem.W.nsIn K mainGlobals "_law_shared" = some (some (.ref f_l_shared)))
 (F_0i : Fun K "_law_shared" "_law_shared" s_0i f_l_shared fd_0i)
 {f_l_record : Addr} {fd_0h : FuncData}
 (a_0h : PySem.W.nsIn K mainGlobals "_law_record" = some (some (.ref f_l_record)))
 (F_0h : Fun K "_law_record" "_law_record" s_0h f_l_record fd_0h)
 {f_l_row : Addr} {fd_14 : FuncData}
 (a_14 : PySem.W.nsIn K mainGlobals "_law_row" = some (some (.ref f_l_row)))
 (F_14 : Fun K "_law_row" "_law_row" s_14 f_l_row fd_14)
 {f_l_end : Addr} {fd_12 : FuncData}
 (a_12 : PySem.W.nsIn K mainGlobals "_law_end" = some (some (.ref f_l_end)))
 (F_12 : Fun K "_law_end" "_law_end" s_12 f_l_end fd_12)
 {f_l_some : Addr} {fd_0x : FuncData}
 (a_0x : PySem.W.nsIn K mainGlobals "_law_some" = some (some (.ref f_l_some)))
 (F_0x : Fun K "_law_some" "_law_some" s_0x f_l_some fd_0x)
 {f_l_entry : Addr} {fd_0q : FuncData}
 (a_0q : PySem.W.nsIn K mainGlobals "_law_entry" = some (some (.ref f_l_entry)))
 (F_0q : Fun K "_law_entry" "_law_entry" s_0q f_l_entry fd_0q)
 {f_l_made : Addr} {fd_0t : FuncData}
 (a_0t : PySem.W.nsIn K mainGlobals "_law_made" = some (some (.ref f_l_made)))
 (F_0t : Fun K "_law_made" "_law_made" s_0t f_l_made fd_0t)
 {f_l_tried : Addr} {fd_l_tried : FuncData}
 (a_l_tried : PySem.W.nsIn K mainGlobals "_law_tried" = some (some (.ref f_l_tried)))
 (F_l_tried : Fun K "_law_tried" "_law_tried" s_l_tried f_l_tried fd_l_tried)
 {f_l_refused_right : Addr} {od_l_refused_right an_l_refused_right : Option Addr} {sl_l_refused_right : Array (Option Value)} {oc_l_refused_right kV_l_refused_right dc_l_refused_right pm_l_refused_right ct_l_refused_right : Value}
 {co_l_refused_right ta_l_refused_right : Addr} {o2_l_refused_right : Value} {d2_l_refused_right : Option Addr} {s2_l_refused_right : Array (Option Value)} {vs_l_refused_right : Array Value}
 (a_00 : PySem.W.nsIn K mainGlobals "_law_refused_right" = some (some (.ref f_l_refused_right)))
 (l_l_refused_right : K.lookup f_l_refused_right = some ⟨oc_l_refused_right, od_l_refused_right, .func (PySem.W.fnOf "_law_refused_right" "_law_refused_right" (defArgs s_00) (defBody s_00) (defScope s_00) .none kV_l_refused_right dc_l_refused_right pm_l_refused_right an_l_refused_right (.ref co_l_refused_right) ct_l_refused_right), sl_l_refused_right⟩)
 (c_l_refused_right : PySem.W.codeIn K (.ref co_l_refused_right) "_law_refused_right" = true) (k_l_refused_right : PySem.W.keepIn K (.ref f_l_refused_right) = true)
 (lc_l_refused_right : K.lookup co_l_refused_right = some ⟨o2_l_refused_right, d2_l_refused_right, .fields vs_l_refused_right, s2_l_refused_right⟩) (vp_l_refused_right : vs_l_refused_right[11]? = some (.ref ta_l_refused_right)) (nt_l_refused_right : K.lookup ta_l_refused_right = none) (rc_l_refused_right : ((recsOf q).find? (fun e => e.name == ("_law_refused_right" : Str))).isSome = true)
 {f_law : Addr} {od_law an_law : Option Addr} {sl_law : Array (Option Value)} {oc_law kV_law dc_law pm_law ct_law : Value}
 {cd_law : Value}
 (a_16 : PySem.W.nsIn K mainGlobals "law" = some (some (.ref f_law)))
 (l_law : K.lookup f_law = some ⟨oc_law, od_law, .func (PySem.W.fnOf "law" "law" (defArgs s_16) (defBody s_16) (defScope s_16) .none kV_law dc_law pm_law an_law cd_law ct_law), sl_law⟩)
 (c_law : PySem.W.codeIn K cd_law "law" = true) (k_law : PySem.W.keepIn K (.ref f_law) = true)
 (a_check_checks : PySem.W.nsIn K mainGlobals "check_checks" = some (some (.ref f_check)))
 {t_EARLIEST : Addr} (v_EARLIEST : PySem.W.nsIn K mainGlobals "EARLIEST" = some (some (.ref t_EARLIEST))) (u_EARLIEST : tupIn K t_EARLIEST = some k_EARLIEST)
 {t_END : Addr} (v_END : PySem.W.nsIn K mainGlobals "END" = some (some (.ref t_END))) (u_END : tupIn K t_END = some k_END)
 {t_FIRST_SIGN : Tok} (v_FIRST_SIGN : PySem.W.nsIn K mainGlobals "FIRST_SIGN" = some (some (.int 32 t_FIRST_SIGN)))
 {t_GREATEST : Tok} (v_GREATEST : PySem.W.nsIn K mainGlobals "GREATEST" = some (some (.int 4294967295 t_GREATEST)))
 {t_GREATEST_BYTE : Tok} (v_GREATEST_BYTE : PySem.W.nsIn K mainGlobals "GREATEST_BYTE" = some (some (.int 255 t_GREATEST_BYTE)))
 {t_GREATEST_CHECK : Tok} (v_GREATEST_CHECK : PySem.W.nsIn K mainGlobals "GREATEST_CHECK" = some (some (.int 4294967295 t_GREATEST_CHECK)))
 {t_LAST_SIGN : Tok} (v_LAST_SIGN : PySem.W.nsIn K mainGlobals "LAST_SIGN" = some (some (.int 126 t_LAST_SIGN)))
 {t_LATEST_YEAR : Tok} (v_LATEST_YEAR : PySem.W.nsIn K mainGlobals "LATEST_YEAR" = some (some (.int 2107 t_LATEST_YEAR)))
 {t_LONGEST_COMMENT : Tok} (v_LONGEST_COMMENT : PySem.W.nsIn K mainGlobals "LONGEST_COMMENT" = some (some (.int 40 t_LONGEST_COMMENT)))
 {t_LONGEST_NAME : Tok} (v_LONGEST_NAME : PySem.W.nsIn K mainGlobals "LONGEST_NAME" = some (some (.int 24 t_LONGEST_NAME)))
 {t_MONTHS : Addr} (v_MONTHS : PySem.W.nsIn K mainGlobals "MONTHS" = some (some (.ref t_MONTHS))) (u_MONTHS : tupIn K t_MONTHS = some k_MONTHS)
 {t_MOST_BYTES : Tok} (v_MOST_BYTES : PySem.W.nsIn K mainGlobals "MOST_BYTES" = some (some (.int 8 t_MOST_BYTES)))
 {t_MOST_DATA : Tok} (v_MOST_DATA : PySem.W.nsIn K mainGlobals "MOST_DATA" = some (some (.int 1500 t_MOST_DATA)))
 {t_MOST_ENTRIES : Tok} (v_MOST_ENTRIES : PySem.W.nsIn K mainGlobals "MOST_ENTRIES" = some (some (.int 20 t_MOST_ENTRIES)))
 {t_PERCENT : Tok} (v_PERCENT : PySem.W.nsIn K mainGlobals "PERCENT" = some (some (.int 37 t_PERCENT)))
 {t_RECORD : Addr} (v_RECORD : PySem.W.nsIn K mainGlobals "RECORD" = some (some (.ref t_RECORD))) (u_RECORD : tupIn K t_RECORD = some k_RECORD)
 {t_ROW : Addr} (v_ROW : PySem.W.nsIn K mainGlobals "ROW" = some (some (.ref t_ROW))) (u_ROW : tupIn K t_ROW = some k_ROW)
 {t_STEPS : Addr} (v_STEPS : PySem.W.nsIn K mainGlobals "STEPS" = some (some (.ref t_STEPS))) (u_STEPS : tupIn K t_STEPS = some k_STEPS)
 {t_VERSION : Tok} (v_VERSION : PySem.W.nsIn K mainGlobals "VERSION" = some (some (.int 20 t_VERSION)))
 (z_abs : PySem.W.nsIn K mainGlobals "abs" = some none)
 (z_all : PySem.W.nsIn K mainGlobals "all" = some none)
 (z_bool : PySem.W.nsIn K mainGlobals "bool" = some none)
 (z_int : PySem.W.nsIn K mainGlobals "int" = some none)
 (z_isinstance : PySem.W.nsIn K mainGlobals "isinstance" = some none)
 (z_len : PySem.W.nsIn K mainGlobals "len" = some none)
 (z_list : PySem.W.nsIn K mainGlobals "list" = some none)
 (z_ord : PySem.W.nsIn K mainGlobals "ord" = some none)
 (z_range : PySem.W.nsIn K mainGlobals "range" = some none)
 (z_str : PySem.W.nsIn K mainGlobals "str" = some none)
 (z_tuple : PySem.W.nsIn K mainGlobals "tuple" = some none)
 (z_zip : PySem.W.nsIn K mainGlobals "zip" = some none)
 : ∃ (fd : FuncData) (cls : Nat → Addr) (T : List (Addr × Str)) (ts : List (Addr × Addr)), (∀ (s : Shared) (v : Value), BindsTo s fd ⟨[v], []⟩ [("_law_script", v)]) ∧
  (∀ p ∈ ts, ∃ y d', (recsOf q).find? (fun e => e.name == y) = some d' ∧ PySem.W.tabIn K y = some p) ∧ (∀ p ∈ ts, K.lookup p.2 = none) ∧ (∀ t ∈ T, ∃ p ∈ ts, p.2 = t.1) ∧
  ∀ base : Heap, K.In base → base.Ns mainGlobals mg → (∀ p ∈ ts, LamX.TabB base mg p.1 p.2) → FnG l.prog w K mg base 9 fa fd ["_law_script"] (SpF ⟨K, cls, T⟩ Law.F_16) := by
 have e := hfa.symm.trans (PySem.W.mg_of X G a_16)
 cases e
 have F_07 : FunX K "__init__" "Entry.__init__" s_07 [] [("time", V.ref u_Entry_init_time), ("comment", V.str "")] f_Entry_init _ := ⟨⟨_, _, _, _, _, _, _, _, _, _, rfl, l_Entry_init, c_Entry_init, .inl ⟨rfl, rfl⟩, .inr ⟨kd_Entry_init, rfl, fun q hq => by simp only [List.mem_cons, List.not_mem_nil, or_false] at hq; rcases hq with rfl | rfl <;> first | exact ⟨_, kw_Entry_init_time, rfl⟩ | exact ⟨_, kw_Entry_init_comment, ⟨_, rfl⟩⟩⟩⟩, k_Entry_init⟩
 have F_00 := fun_mk (st := s_00) l_l_refused_right c_l_refused_right k_l_refused_right
 have b_00 := F_00.binds (ps := ["_law_draw", "_law_told"]) fun _ _ _ _ _ _ us hl => match us, hl with | [_, _], _ => rfl
 have F_16 := fun_mk (st := s_16) l_law c_law k_law
 have b_16 := F_16.binds (ps := ["_law_script"]) fun _ _ _ _ _ _ us hl => match us, hl with | [_], _ => rfl
 have bn_Entry_init_1 : ∀ T, BnD ⟨K, clsOf [(0, x_ArchiveError), (1, x_NoBytes), (2, x_NoNumber), (3, x_NoTime), (4, x_NoName), (5, x_NoComment), (6, x_NoData), (20, x_Entry)], T⟩ K _ ["self", "name", "data", "time", "comment"] 3 ["time", "comment"] [0, 1, 2, 3, 4] [] := fun T => by
  obtain ⟨ds, hv, hb⟩ := bindN_k (ps := ["self", "name", "data", "time", "comment"]) F_07 3 ["time", "comment"] [] [0, 1, 2, 3, 4] (fun e => nomatch e) (fun _ h => nomatch h) fun _ _ _ _ _ _ us mv ws hu hm hw => match us, hu, mv, hm, ws, hw with | [_, _, _], _, [], _, [_, _], _ => rfl
  exact ⟨_, ds, (fun _ _ _ => .nil), hv, hb⟩
 have kb_row_of_0 := fun_kwb F_0y (ps := ["entry", "place"]) (ks := ["place", "entry"]) (π := [1, 0]) fun _ _ _ _ _ _ us hl => match us, hl with | [_, _], _ => rfl
 have kb_record_of_0 := fun_kwb F_0c (ps := ["entry"]) (ks := ["entry"]) (π := [0]) fun _ _ _ _ _ _ us hl => match us, hl with | [_], _ => rfl
 have kb_end_of_0 := fun_kwb F_0s (ps := ["number", "size", "place", "comment"]) (ks := ["comment", "place", "size", "number"]) (π := [3, 2, 1, 0]) fun _ _ _ _ _ _ us hl => match us, hl with | [_, _, _, _], _ => rfl
 have mk : ∀ base : Heap, (∀ p ∈ ([(co_l_refused_right, ta_l_refused_right)] : List (Addr × Addr)), LamX.TabB base mg p.1 p.2) → FnG l.prog w K mg base 9 fa _ ["_law_script"] (SpF ⟨K, clsOf [(0, x_ArchiveError), (1, x_NoBytes), (2, x_NoNumber), (3, x_NoTime), (4, x_NoName), (5, x_NoComment), (6, x_NoData), (20, x_Entry)], [(ta_l_refused_right, ("_law_refused_right.<locals>.<lambda>" : Str))]⟩ Law.F_16) := fun base htb => ok_16 (base := base) {
  d := ⟨clsOf [(0, x_ArchiveError), (1, x_NoBytes), (2, x_NoNumber), (3, x_NoTime), (4, x_NoName), (5, x_NoComment), (6, x_NoData), (20, x_Entry)], [(ta_l_refused_right, ("_law_refused_right.<locals>.<lambda>" : Str))], ixA [f_is_number, f_is_bytes, f_need_bytes, f_bytes_of, f_forward, f_check, f_is_printable, f_is_text, f_is_name, f_is_comment, f_bytes_of_text, f_days_in, f_is_time, f_stamp_of, f_Entry_init, f_Entry_data, f_Entry_size, f_Entry_check, f_shared_bytes, f_record_of, f_need_number, f_row_of, f_end_of, f_l_begun, f_l_next, f_l_pick, f_l_signs, f_l_titles, f_l_note, f_l_moment, f_l_low, f_l_octets, f_l_crc, f_l_shared, f_l_record, f_l_row, f_l_end, f_l_some, f_l_entry, f_l_made, f_l_tried, f_l_refused_right, fa, co_l_refused_right, ta_l_refused_right], ixF (fdOf F_0b) [fdOf F_0b, fdOf F_0e, fdOf F_0a, fdOf F_0d, fdOf F_0m, fdOf F_10, fdOf F_02, fdOf F_0o, fdOf F_0n, fdOf F_09, fdOf F_01, fdOf F_0l, fdOf F_0p, fdOf F_0k, fdOfX F_07, fdOf F_06, fdOf F_08, fdOf F_04, fdOf F_03, fdOf F_0c, fdOf F_05, fdOf F_0y, fdOf F_0s, fdOf F_l_begun, fdOf F_0u, fdOf F_0w, fdOf F_0r, fdOf F_0j, fdOf F_0v, fdOf F_0f, fdOf F_13, fdOf F_0g, fdOf F_11, fdOf F_0i, fdOf F_0h, fdOf F_14, fdOf F_12, fdOf F_0x, fdOf F_0q, fdOf F_0t, fdOf F_l_tried, fdOf F_00, fdOf F_16]⟩
  q0 := {
   kc := kitCB_ok kcB (fun c h => by simp only [CL, List.mem_cons, List.not_mem_nil, or_false] at h; rcases h with rfl <;> first | exact ⟨pg_Entry, hd_Entry, po_Entry, sa_Entry⟩) (fun p h => by simp only [CL, List.mem_cons, List.not_mem_nil, or_false] at h; rcases h with rfl | rfl | rfl | rfl | rfl <;> exact ⟨by decide, by first | exact nf_Entry_name | exact nf_Entry_own_data | exact nf_Entry_time | exact nf_Entry_comment | exact nf_Entry_own_check⟩)
   m_ArchiveError := PySem.W.mg_of X G e_ArchiveError
   m_NoBytes := PySem.W.mg_of X G e_NoBytes
   m_NoNumber := PySem.W.mg_of X G e_NoNumber
   m_NoTime := PySem.W.mg_of X G e_NoTime
   m_NoName := PySem.W.mg_of X G e_NoName
   m_NoComment := PySem.W.mg_of X G e_NoComment
   m_NoData := PySem.W.mg_of X G e_NoData
   m_Entry := PySem.W.mg_of X G e_Entry
   c_EARLIEST := ⟨_, PySem.W.mg_of X G v_EARLIEST, u_EARLIEST⟩
   c_END := ⟨_, PySem.W.mg_of X G v_END, u_END⟩
   c_FIRST_SIGN := ⟨_, PySem.W.mg_of X G v_FIRST_SIGN⟩
   c_GREATEST := ⟨_, PySem.W.mg_of X G v_GREATEST⟩
   c_GREATEST_BYTE := ⟨_, PySem.W.mg_of X G v_GREATEST_BYTE⟩
   c_GREATEST_CHECK := ⟨_, PySem.W.mg_of X G v_GREATEST_CHECK⟩
   c_LAST_SIGN := ⟨_, PySem.W.mg_of X G v_LAST_SIGN⟩
   c_LATEST_YEAR := ⟨_, PySem.W.mg_of X G v_LATEST_YEAR⟩
   c_LONGEST_COMMENT := ⟨_, PySem.W.mg_of X G v_LONGEST_COMMENT⟩
   c_LONGEST_NAME := ⟨_, PySem.W.mg_of X G v_LONGEST_NAME⟩
   c_MONTHS := ⟨_, PySem.W.mg_of X G v_MONTHS, u_MONTHS⟩
   c_MOST_BYTES := ⟨_, PySem.W.mg_of X G v_MOST_BYTES⟩
   c_MOST_DATA := ⟨_, PySem.W.mg_of X G v_MOST_DATA⟩
   c_MOST_ENTRIES := ⟨_, PySem.W.mg_of X G v_MOST_ENTRIES⟩
   c_PERCENT := ⟨_, PySem.W.mg_of X G v_PERCENT⟩
   c_RECORD := ⟨_, PySem.W.mg_of X G v_RECORD, u_RECORD⟩
   c_ROW := ⟨_, PySem.W.mg_of X G v_ROW, u_ROW⟩
   c_STEPS := ⟨_, PySem.W.mg_of X G v_STEPS, u_STEPS⟩
   c_VERSION := ⟨_, PySem.W.mg_of X G v_VERSION⟩
   z_abs := PySem.W.mg_none_of X G z_abs
   z_all := PySem.W.mg_none_of X G z_all
  }
  q1 := {
   z_bool := PySem.W.mg_none_of X G z_bool
   z_int := PySem.W.mg_none_of X G z_int
   z_isinstance := PySem.W.mg_none_of X G z_isinstance
   z_len := PySem.W.mg_none_of X G z_len
   z_list := PySem.W.mg_none_of X G z_list
   z_ord := PySem.W.mg_none_of X G z_ord
   z_range := PySem.W.mg_none_of X G z_range
   z_str := PySem.W.mg_none_of X G z_str
   z_tuple := PySem.W.mg_none_of X G z_tuple
   z_zip := PySem.W.mg_none_of X G z_zip
   F_0b := F_0b
   b_0b := bx_is_number F_0b
   m_0b := PySem.W.mg_of X G a_0b
   F_0e := F_0e
   b_0e := bx_is_bytes F_0e
   m_0e := PySem.W.mg_of X G a_0e
   F_0a := F_0a
   b_0a := bx_need_bytes F_0a
   m_0a := PySem.W.mg_of X G a_0a
   F_0d := F_0d
   b_0d := bx_bytes_of F_0d
   m_0d := PySem.W.mg_of X G a_0d
   F_0m := F_0m
   b_0m := bx_forward F_0m
   m_0m := PySem.W.mg_of X G a_0m
   F_10 := F_10
   b_10 := bx_check F_10
   m_10 := PySem.W.mg_of X G a_10
   F_02 := F_02
   b_02 := bx_is_printable F_02
  }
  q2 := {
   m_02 := PySem.W.mg_of X G a_02
   F_0o := F_0o
   b_0o := bx_is_text F_0o
   m_0o := PySem.W.mg_of X G a_0o
   F_0n := F_0n
   b_0n := bx_is_name F_0n
   m_0n := PySem.W.mg_of X G a_0n
   F_09 := F_09
   b_09 := bx_is_comment F_09
   m_09 := PySem.W.mg_of X G a_09
   F_01 := F_01
   b_01 := bx_bytes_of_text F_01
   m_01 := PySem.W.mg_of X G a_01
   F_0l := F_0l
   b_0l := bx_days_in F_0l
   m_0l := PySem.W.mg_of X G a_0l
   F_0p := F_0p
   b_0p := bx_is_time F_0p
   m_0p := PySem.W.mg_of X G a_0p
   F_0k := F_0k
   b_0k := bx_stamp_of F_0k
   m_0k := PySem.W.mg_of X G a_0k
   F_07 := ⟨_, _, F_07⟩
   F_06 := F_06
   b_06 := bx_Entry_data F_06
   F_08 := F_08
   b_08 := bx_Entry_size F_08
   F_04 := F_04
   b_04 := bx_Entry_check F_04
   F_03 := F_03
  }
  q3 := {
   b_03 := bx_shared_bytes F_03
   m_03 := PySem.W.mg_of X G a_03
   F_0c := F_0c
   b_0c := bx_record_of F_0c
   m_0c := PySem.W.mg_of X G a_0c
   F_05 := F_05
   b_05 := bx_need_number F_05
   m_05 := PySem.W.mg_of X G a_05
   F_0y := F_0y
   b_0y := bx_row_of F_0y
   m_0y := PySem.W.mg_of X G a_0y
   F_0s := F_0s
   b_0s := bx_end_of F_0s
   m_0s := PySem.W.mg_of X G a_0s
   F_l_begun := F_l_begun
   b_l_begun := bx_l_begun F_l_begun
   m_l_begun := PySem.W.mg_of X G a_l_begun
   F_0u := F_0u
   b_0u := bx_l_next F_0u
   m_0u := PySem.W.mg_of X G a_0u
   F_0w := F_0w
   b_0w := bx_l_pick F_0w
   m_0w := PySem.W.mg_of X G a_0w
   F_0r := F_0r
   b_0r := bx_l_signs F_0r
   m_0r := PySem.W.mg_of X G a_0r
   F_0j := F_0j
   b_0j := bx_l_titles F_0j
   m_0j := PySem.W.mg_of X G a_0j
   F_0v := F_0v
  }
  q4 := {
   b_0v := bx_l_note F_0v
   m_0v := PySem.W.mg_of X G a_0v
   F_0f := F_0f
   b_0f := bx_l_moment F_0f
   m_0f := PySem.W.mg_of X G a_0f
   F_13 := F_13
   b_13 := bx_l_low F_13
   m_13 := PySem.W.mg_of X G a_13
   F_0g := F_0g
   b_0g := bx_l_octets F_0g
   m_0g := PySem.W.mg_of X G a_0g
   F_11 := F_11
   b_11 := bx_l_crc F_11
   m_11 := PySem.W.mg_of X G a_11
   F_0i := F_0i
   b_0i := bx_l_shared F_0i
   m_0i := PySem.W.mg_of X G a_0i
   F_0h := F_0h
   b_0h := bx_l_record F_0h
   m_0h := PySem.W.mg_of X G a_0h
   F_14 := F_14
   b_14 := bx_l_row F_14
   m_14 := PySem.W.mg_of X G a_14
   F_12 := F_12
   b_12 := bx_l_end F_12
   m_12 := PySem.W.mg_of X G a_12
   F_0x := F_0x
   b_0x := bx_l_some F_0x
   m_0x := PySem.W.mg_of X G a_0x
   F_0q := F_0q
  }
  q5 := {
   b_0q := bx_l_entry F_0q
   m_0q := PySem.W.mg_of X G a_0q
   F_0t := F_0t
   b_0t := bx_l_made F_0t
   m_0t := PySem.W.mg_of X G a_0t
   F_l_tried := F_l_tried
   b_l_tried := bx_l_tried F_l_tried
   m_l_tried := PySem.W.mg_of X G a_l_tried
   F_00 := F_00
   b_00 := b_00
   m_00 := PySem.W.mg_of X G a_00
   F_16 := F_16
   b_16 := b_16
   m_16 := PySem.W.mg_of X G a_16
   m_check_checks := PySem.W.mg_of X G a_check_checks
   bn_Entry_init_1 := bn_Entry_init_1 _
   cl_Entry := ⟨pg_Entry, hd_Entry, po_Entry, sa_Entry⟩
   mk_Entry := ⟨mk_Entry, a_07, i_Entry_init, ck_Entry⟩
   pr_Entry_data := ⟨p_Entry_data, a_06, pg_Entry_data, pt_Entry_data, _, pr_Entry_data⟩
   pr_Entry_size := ⟨p_Entry_size, a_08, pg_Entry_size, pt_Entry_size, _, pr_Entry_size⟩
   pr_Entry_check := ⟨p_Entry_check, a_04, pg_Entry_check, pt_Entry_check, _, pr_Entry_check⟩
   kb_row_of_0 := kb_row_of_0
   kb_record_of_0 := kb_record_of_0
   kb_end_of_0 := kb_end_of_0
   tb_l_refused_right := htb (co_l_refused_right, ta_l_refused_right) (by simp)
   cd_l_refused_right := rfl
   tm_l_refused_right := List.mem_cons_self
   tu_l_refused_right := (fun p hp e => by have hp : p ∈ ([(ta_l_refused_right, ("_law_refused_right.<locals>.<lambda>" : Str))] : List (Addr × Str)) := hp; have e : p.1 = ta_l_refused_right := e; simp only [List.mem_cons, List.not_mem_nil, or_false] at hp; rw [hp])
  }
 }
 refine ⟨_, clsOf [(0, x_ArchiveError), (1, x_NoBytes), (2, x_NoNumber), (3, x_NoTime), (4, x_NoName), (5, x_NoComment), (6, x_NoData), (20, x_Entry)], [(ta_l_refused_right, ("_law_refused_right.<locals>.<lambda>" : Str))], [(co_l_refused_right, ta_l_refused_right)], fun s v => .of_eq rfl, fun p hp => ?_, fun p hp => ?_, fun t ht => ?_, fun base _ _ htb => mk base htb⟩
 · simp only [List.mem_cons, List.not_mem_nil, or_false] at hp
   rcases hp with rfl
   · obtain ⟨d, hd⟩ := Option.isSome_iff_exists.mp rc_l_refused_right
     exact ⟨_, d, hd, tabIn_of a_00 l_l_refused_right rfl lc_l_refused_right vp_l_refused_right⟩
 · simp only [List.mem_cons, List.not_mem_nil, or_false] at hp
   rcases hp with rfl
   · exact nt_l_refused_right
 · simp only [List.mem_cons, List.not_mem_nil, or_false] at ht
   rcases ht with rfl
   · exact ⟨(co_l_refused_right, ta_l_refused_right), by simp, rfl⟩
end Law
section
open PySem PySem.W PyProof.Rows
set_option maxHeartbeats 0 in
theorem Law.end_of (hK : D.KeptBy Law.F_16 63) : PySem.Challenge.rw_endlist_k09_records_rows_ends_written.Holds := by
 w_on
 refine Law.top ?_
 k_fill
 refine D.walkT (l := PySem.Challenge.rw_endlist_k09_records_rows_ends_written) (n := 63) (k := 9) (x := "_law_script") (F := Law.F_16) rfl (by decide) rfl ⟨rfl, by decide, by decide⟩ (fun w h Y => PySem.W.km_in_of Y) ?F ?K
 case F =>
  intro w mg fa h KX G hmg
  refine' Law.all_mk KX G hmg ?e_ArchiveError ?e_NoBytes ?e_NoNumber ?e_NoTime ?e_NoName ?e_NoComment ?e_NoData ?e_Entry ?pg_Entry ?hd_Entry ?po_Entry ?sa_Entry ?mk_Entry ?ck_Entry ?nf_Entry_name ?nf_Entry_own_data ?nf_Entry_time ?nf_Entry_comment ?nf_Entry_own_check ?kcB ?a_0b ?F_0b ?a_0e ?F_0e ?a_0a ?F_0a ?a_0d ?F_0d ?a_0m ?F_0m ?a_10 ?F_10 ?a_02 ?F_02 ?a_0o ?F_0o ?a_0n ?F_0n ?a_09 ?F_09 ?a_01 ?F_01 ?a_0l ?F_0l ?a_0p ?F_0p ?a_0k ?F_0k ?a_07 ?i_Entry_init ?l_Entry_init ?c_Entry_init ?k_Entry_init ?kw_Entry_init_time ?kw_Entry_init_comment ?a_06 ?pg_Entry_data ?pt_Entry_data ?pr_Entry_data ?F_06 ?a_08 ?pg_Entry_size ?pt_Entry_size ?pr_Entry_size ?F_08 ?a_04 ?pg_Entry_check ?pt_Entry_check ?pr_Entry_check ?F_04 ?a_03 ?F_03 ?a_0c ?F_0c ?a_05 ?F_05 ?a_0y ?F_0y ?a_0s ?F_0s ?a_l_begun ?F_l_begun ?a_0u ?F_0u ?a_0w ?F_0w ?a_0r ?F_0r ?a_0j ?F_0j ?a_0v ?F_0v ?a_0f ?F_0f ?a_13 ?F_13 ?a_0g ?F_0g ?a_11 ?F_11 ?a_0i ?F_0i ?a_0h ?F_0h ?a_14 ?F_14 ?a_12 ?F_12 ?a_0x ?F_0x ?a_0q ?F_0q ?a_0t ?F_0t ?a_l_tried ?F_l_tried ?a_00 ?l_l_refused_right ?c_l_refused_right ?k_l_refused_right ?lc_l_refused_right ?vp_l_refused_right ?nt_l_refused_right ?rc_l_refused_right ?a_16 ?l_law ?c_law ?k_law ?a_check_checks ?v_EARLIEST ?u_EARLIEST ?v_END ?u_END ?v_FIRST_SIGN ?v_GREATEST ?v_GREATEST_BYTE ?v_GREATEST_CHECK ?v_LAST_SIGN ?v_LATEST_YEAR ?v_LONGEST_COMMENT ?v_LONGEST_NAME ?v_MONTHS ?u_MONTHS ?v_MOST_BYTES ?v_MOST_DATA ?v_MOST_ENTRIES ?v_PERCENT ?v_RECORD ?u_RECORD ?v_ROW ?u_ROW ?v_STEPS ?u_STEPS ?v_VERSION ?z_abs ?z_all ?z_bool ?z_int ?z_isinstance ?z_len ?z_list ?z_ord ?z_range ?z_str ?z_tuple ?z_zip
  (case e_ArchiveError => k_is); (case e_NoBytes => k_is); (case e_NoNumber => k_is); (case e_NoTime => k_is); (case e_NoName => k_is); (case e_NoComment => k_is); (case e_NoData => k_is); (case e_Entry => k_is); (case pg_Entry => k_is); (case hd_Entry => k_is); (case po_Entry => k_is); (case sa_Entry => k_is); (case mk_Entry => k_is); (case ck_Entry => k_is); (case nf_Entry_name => k_is); (case nf_Entry_own_data => k_is); (case nf_Entry_time => k_is); (case nf_Entry_comment => k_is); (case nf_Entry_own_check => k_is); (case a_0b => k_is); (case F_0b => (refine' L2.fun_mk ?l ?c ?k; (case l => k_is); (case c => k_is); (case k => k_is))); (case a_0e => k_is); (case F_0e => (refine' L2.fun_mk ?l ?c ?k; (case l => k_is); (case c => k_is); (case k => k_is))); (case a_0a => k_is); (case F_0a => (refine' L2.fun_mk ?l ?c ?k; (case l => k_is); (case c => k_is); (case k => k_is))); (case a_0d => k_is); (case F_0d => (refine' L2.fun_mk ?l ?c ?k; (case l => k_is); (case c => k_is); (case k => k_is))); (case a_0m => k_is); (case F_0m => (refine' L2.fun_mk ?l ?c ?k; (case l => k_is); (case c => k_is); (case k => k_is))); (case a_10 => k_is); (case F_10 => (refine' L2.fun_mk ?l ?c ?k; (case l => k_is); (case c => k_is); (case k => k_is))); (case a_02 => k_is); (case F_02 => (refine' L2.fun_mk ?l ?c ?k; (case l => k_is); (case c => k_is); (case k => k_is))); (case a_0o => k_is); (case F_0o => (refine' L2.fun_mk ?l ?c ?k; (case l => k_is); (case c => k_is); (case k => k_is))); (case a_0n => k_is); (case F_0n => (refine' L2.fun_mk ?l ?c ?k; (case l => k_is); (case c => k_is); (case k => k_is))); (case a_09 => k_is); (case F_09 => (refine' L2.fun_mk ?l ?c ?k; (case l => k_is); (case c => k_is); (case k => k_is))); (case a_01 => k_is); (case F_01 => (refine' L2.fun_mk ?l ?c ?k; (case l => k_is); (case c => k_is); (case k => k_is))); (case a_0l => k_is); (case F_0l => (refine' L2.fun_mk ?l ?c ?k; (case l => k_is); (case c => k_is); (case k => k_is))); (case a_0p => k_is); (case F_0p => (refine' L2.fun_mk ?l ?c ?k; (case l => k_is); (case c => k_is); (case k => k_is))); (case a_0k => k_is); (case F_0k => (refine' L2.fun_mk ?l ?c ?k; (case l => k_is); (case c => k_is); (case k => k_is))); (case a_07 => k_is); (case i_Entry_init => k_is); (case l_Entry_init => k_is); (case c_Entry_init => k_is); (case k_Entry_init => k_is); (case kw_Entry_init_time => k_is); (case kw_Entry_init_comment => k_is); (case a_06 => k_is); (case pg_Entry_data => k_is); (case pt_Entry_data => k_is); (case pr_Entry_data => k_is); (case F_06 => (refine' L2.fun_mk ?l ?c ?k; (case l => k_is); (case c => k_is); (case k => k_is))); (case a_08 => k_is); (case pg_Entry_size => k_is); (case pt_Entry_size => k_is); (case pr_Entry_size => k_is); (case F_08 => (refine' L2.fun_mk ?l ?c ?k; (case l => k_is); (case c => k_is); (case k => k_is))); (case a_04 => k_is); (case pg_Entry_check => k_is); (case pt_Entry_check => k_is); (case pr_Entry_check => k_is); (case F_04 => (refine' L2.fun_mk ?l ?c ?k; (case l => k_is); (case c => k_is); (case k => k_is))); (case a_03 => k_is); (case F_03 => (refine' L2.fun_mk ?l ?c ?k; (case l => k_is); (case c => k_is); (case k => k_is))); (case a_0c => k_is); (case F_0c => (refine' L2.fun_mk ?l ?c ?k; (case l => k_is); (case c => k_is); (case k => k_is))); (case a_05 => k_is); (case F_05 => (refine' L2.fun_mk ?l ?c ?k; (case l => k_is); (case c => k_is); (case k => k_is))); (case a_0y => k_is); (case F_0y => (refine' L2.fun_mk ?l ?c ?k; (case l => k_is); (case c => k_is); (case k => k_is))); (case a_0s => k_is); (case F_0s => (refine' L2.fun_mk ?l ?c ?k; (case l => k_is); (case c => k_is); (case k => k_is))); (case a_l_begun => k_is); (case F_l_begun => (refine' L2.fun_mk ?l ?c ?k; (case l => k_is); (case c => k_is); (case k => k_is))); (case a_0u => k_is); (case F_0u => (refine' L2.fun_mk ?l ?c ?k; (case l => k_is); (case c => k_is); (case k => k_is))); (case a_0w => k_is); (case F_0w => (refine' L2.fun_mk ?l ?c ?k; (case l => k_is); (case c => k_is); (case k => k_is))); (case a_0r => k_is); (case F_0r => (refine' L2.fun_mk ?l ?c ?k; (case l => k_is); (case c => k_is); (case k => k_is))); (case a_0j => k_is); (case F_0j => (refine' L2.fun_mk ?l ?c ?k; (case l => k_is); (case c => k_is); (case k => k_is))); (case a_0v => k_is); (case F_0v => (refine' L2.fun_mk ?l ?c ?k; (case l => k_is); (case c => k_is); (case k => k_is))); (case a_0f => k_is); (case F_0f => (refine' L2.fun_mk ?l ?c ?k; (case l => k_is); (case c => k_is); (case k => k_is))); (case a_13 => k_is); (case F_13 => (refine' L2.fun_mk ?l ?c ?k; (case l => k_is); (case c => k_is); (case k => k_is))); (case a_0g => k_is); (case F_0g => (refine' L2.fun_mk ?l ?c ?k; (case l => k_is); (case c => k_is); (case k => k_is))); (case a_11 => k_is); (case F_11 => (refine' L2.fun_mk ?l ?c ?k; (case l => k_is); (case c => k_is); (case k => k_is))); (case a_0i => k_is); (case F_0i => (refine' L2.fun_mk ?l ?c ?k; (case l => k_is); (case c => k_is); (case k => k_is))); (case a_0h => k_is); (case F_0h => (refine' L2.fun_mk ?l ?c ?k; (case l => k_is); (case c => k_is); (case k => k_is))); (case a_14 => k_is); (case F_14 => (refine' L2.fun_mk ?l ?c ?k; (case l => k_is); (case c => k_is); (case k => k_is))); (case a_12 => k_is); (case F_12 => (refine' L2.fun_mk ?l ?c ?k; (case l => k_is); (case c => k_is); (case k => k_is))); (case a_0x => k_is); (case F_0x => (refine' L2.fun_mk ?l ?c ?k; (case l => k_is); (case c => k_is); (case k => k_is))); (case a_0q => k_is); (case F_0q => (refine' L2.fun_mk ?l ?c ?k; (case l => k_is); (case c => k_is); (case k => k_is))); (case a_0t => k_is); (case F_0t => (refine' L2.fun_mk ?l ?c ?k; (case l => k_is); (case c => k_is); (case k => k_is))); (case a_l_tried => k_is); (case F_l_tried => (refine' L2.fun_mk ?l ?c ?k; (case l => k_is); (case c => k_is); (case k => k_is))); (case a_00 => k_is); (case l_l_refused_right => k_is); (case c_l_refused_right => k_is); (case k_l_refused_right => k_is); (case lc_l_refused_right => k_is); (case a_16 => k_is); (case l_law => k_is); (case c_law => k_is); (case k_law => k_is); (case a_check_checks => k_is); (case v_EARLIEST => k_is); (case v_END => k_is); (case v_FIRST_SIGN => k_is); (case v_GREATEST => k_is); (case v_GREATEST_BYTE => k_is); (case v_GREATEST_CHECK => k_is); (case v_LAST_SIGN => k_is); (case v_LATEST_YEAR => k_is); (case v_LONGEST_COMMENT => k_is); (case v_LONGEST_NAME => k_is); (case v_MONTHS => k_is); (case v_MOST_BYTES => k_is); (case v_MOST_DATA => k_is); (case v_MOST_ENTRIES => k_is); (case v_PERCENT => k_is); (case v_RECORD => k_is); (case v_ROW => k_is); (case v_STEPS => k_is); (case v_VERSION => k_is); (case z_abs => k_is); (case z_all => k_is); (case z_bool => k_is); (case z_int => k_is); (case z_isinstance => k_is); (case z_len => k_is); (case z_list => k_is); (case z_ord => k_is); (case z_range => k_is); (case z_str => k_is); (case z_tuple => k_is); (case z_zip => k_is)
  (case kcB => kernel_rfl)
  (case vp_l_refused_right => rfl)
  (case nt_l_refused_right => kernel_rfl)
  (case rc_l_refused_right => kernel_rfl)
  (case u_EARLIEST => kernel_rfl)
  (case u_END => kernel_rfl)
  (case u_MONTHS => kernel_rfl)
  (case u_RECORD => kernel_rfl)
  (case u_ROW => kernel_rfl)
  (case u_STEPS => kernel_rfl)
 case K => exact hK
end
namespace Crc
theorem xc (a b c : Nat) : a ^^^ (b ^^^ c) = b ^^^ (a ^^^ c) := by rw [← Nat.xor_assoc, Nat.xor_comm a b, Nat.xor_assoc]
theorem xx (a b : Nat) : a ^^^ (a ^^^ b) = b := by rw [← Nat.xor_assoc, Nat.xor_self, Nat.zero_xor]
theorem xx' (a b : Nat) : (a ^^^ b) ^^^ b = a := by rw [Nat.xor_assoc, Nat.xor_self, Nat.xor_zero]
theorem add_xor {i a b : Nat} (h : b < 2 ^ i) : 2 ^ i * a + b = 2 ^ i * a ^^^ b := by
 apply Nat.eq_of_testBit_eq
 intro j
 rw [Nat.testBit_two_pow_mul_add a h, Nat.testBit_xor, Nat.testBit_two_pow_mul]
 by_cases hj : j < i
 · rw [if_pos hj]
   have : decide (i ≤ j) = false := decide_eq_false (by omega)
   simp [this]
 · rw [if_neg hj]
   have : decide (i ≤ j) = true := decide_eq_true (by omega)
   rw [this, Nat.testBit_lt_two_pow (Nat.lt_of_lt_of_le h (Nat.pow_le_pow_right (by decide) (by omega)))]
   simp
abbrev P : Nat := 3988292384
def s (c : Nat) : Nat := if c % 2 = 1 then c / 2 ^^^ P else c / 2
theorem s_xor (a b : Nat) : s (a ^^^ b) = s a ^^^ s b := by
 have h1 : (a ^^^ b) / 2 = a / 2 ^^^ b / 2 := Nat.xor_div_two
 have h2 := @Nat.xor_mod_two_eq_one a b
 unfold s
 rcases Nat.mod_two_eq_zero_or_one a with ha | ha <;> rcases Nat.mod_two_eq_zero_or_one b with hb | hb <;> simp only [h2, ha, hb, h1] <;> simp
 · rw [Nat.xor_assoc]
 · rw [Nat.xor_assoc, Nat.xor_comm (b / 2), Nat.xor_assoc]
 · rw [Nat.xor_assoc, xc P, ← Nat.xor_assoc, ← Nat.xor_assoc, xx']
theorem s_even (x : Nat) : s (2 * x) = x := by
 unfold s
 rw [if_neg (by omega)]
 omega
theorem s_lt {c : Nat} (h : c < 2 ^ 32) : s c < 2 ^ 32 := by
 unfold s
 split
 · exact Nat.xor_lt_two_pow (by omega) (by decide)
 · omega
def T : List Nat := [0, 498536548, 997073096, 651767980, 1994146192, 1802195444, 1303535960, 1342533948, 3988292384, 4027552580, 3604390888, 3412177804, 2607071920, 2262029012, 2685067896, 3183342108]
theorem T_s : ∀ l, l < 16 → T[l]? = some (s (s (s (s l)))) := by decide
theorem T_get {l : Nat} (h : l < 16) : T.getD l 0 = s (s (s (s l))) := by rw [List.getD_eq_getElem?_getD, T_s l h]; rfl
theorem nib (c : Nat) : c / 16 ^^^ T.getD (c % 16) 0 = s (s (s (s c))) := by
 rw [T_get (Nat.mod_lt _ (by decide))]
 have e : c = 2 * (2 * (2 * (2 * (c / 16)))) ^^^ c % 16 := by
  rw [show 2 * (2 * (2 * (2 * (c / 16)))) = 2 ^ 4 * (c / 16) by omega, ← add_xor (Nat.mod_lt _ (by decide))]
  omega
 rw [show s (s (s (s c))) = s (s (s (s (2 * (2 * (2 * (2 * (c / 16)))) ^^^ c % 16)))) from by rw [← e]]
 rw [s_xor, s_xor, s_xor, s_xor, s_even, s_even, s_even, s_even]
def s4 (c : Nat) : Nat := s (s (s (s c)))
def s8 (c : Nat) : Nat := s4 (s4 c)
theorem s4_lt {c : Nat} (h : c < 2 ^ 32) : s4 c < 2 ^ 32 := s_lt (s_lt (s_lt (s_lt h)))
theorem s8_lt {c : Nat} (h : c < 2 ^ 32) : s8 c < 2 ^ 32 := s4_lt (s4_lt h)
def step (c b : Nat) : Nat := s8 (c ^^^ b)
def fw (c : Nat) (bs : List Nat) : Nat := bs.foldl step c
abbrev M : Nat := 4294967295
def crc (bs : List Nat) : Nat := fw M bs ^^^ M
def okB (bs : List Nat) : Prop := ∀ b ∈ bs, b < 256
theorem step_lt {c b : Nat} (hc : c < 2 ^ 32) (hb : b < 256) : step c b < 2 ^ 32 := s8_lt (Nat.xor_lt_two_pow hc (Nat.lt_of_lt_of_le hb (by decide)))
theorem fw_lt {bs : List Nat} : ∀ {c : Nat}, c < 2 ^ 32 → okB bs → fw c bs < 2 ^ 32 := by
 induction bs with
 | nil => exact fun hc _ => hc
 | cons b bs ih => exact fun hc h => ih (step_lt hc (h b (by simp))) fun x hx => h x (by simp [hx])
theorem crc_lt {bs : List Nat} (h : okB bs) : crc bs < 2 ^ 32 := Nat.xor_lt_two_pow (fw_lt (by decide) h) (by decide)
def B28 : List Nat := T.map (· / 2 ^ 28)
def at28 (u : Nat) : Nat := (B28.findIdx (· == u))
def bk (c : Nat) : Nat := (c ^^^ T.getD (at28 (c / 2 ^ 28)) 0) * 16 + at28 (c / 2 ^ 28)
def low : Nat → Nat → List Nat
 | 0, _ => []
 | n + 1, c => c % 256 :: low n (c / 256)
theorem low_ok : ∀ n c, okB (low n c)
 | 0, _ => fun x hx => by simp [low] at hx
 | n + 1, c => fun x hx => by
  rcases List.mem_cons.mp hx with rfl | hx
  · omega
  · exact low_ok n _ x hx
theorem low_length : ∀ n c, (low n c).length = n
 | 0, _ => rfl
 | n + 1, c => by rw [low, List.length_cons, low_length]
end Crc
namespace Law
open PySem L2 PyProof.Rows D
def pl : DV → Bool
 | .non => true
 | .bl _ => true
 | .int _ => true
 | .str _ => true
 | .lst _ => true
 | .tup _ => true
 | .dct _ _ => true
 | _ => false
def numD (lo hi : Int) : DV → Bool
 | .int n => decide (lo ≤ n) && decide (n ≤ hi)
 | _ => false
theorem sp_is_number {a : DV} {lo hi : Int} {cs : List CellC} {q : QF} {E : EK} (hp : pl a = true) (h : q (.bl (numD lo hi a)) .new cs) : XF F_0b [a, .int lo, .int hi] cs q E := by
 unfold F_0b
 refine zqB rfl ?_
 unfold sv_0b
 cases a with
 | int n =>
  walk_at "wx"
  refine IfK.dec (fun h1 => ?_) (fun h1 => ?_)
  · walk_at "wx"
    simpa [numD, h1, RetT] using h
  · simpa [numD, h1, RetT] using h
 | _ => first | (cases hp; done) | (walk_at "wx"; exact h)
def byteD (a : DV) : Bool := numD 0 255 a
def bytesD : DV → Bool
 | .lst ds => ds.all byteD
 | .tup ds => ds.all byteD
 | _ => false
theorem fm_map {f : DV → Bool} : ∀ ds : List DV, ds.filterMap (fun d => some (DV.bl (f d))) = (ds.map f).map DV.bl
 | [] => rfl
 | d :: ds => by rw [List.filterMap_cons, fm_map ds]; rfl
theorem sp_is_bytes {a : DV} {cs : List CellC} {q : QF} {E : EK} (hp : pl a = true) (hs : ∀ ds, a = .lst ds ∨ a = .tup ds → ds.length ≤ sizeLine ∧ ∀ d ∈ ds, pl d = true) (h : q (.bl (bytesD a)) .new cs) : XF F_0e [a] cs q E := by
 have key : ∀ ds, (a = .lst ds ∨ a = .tup ds) → bytesD a = ds.all byteD → XE (zqp (Blt.run CL .all) (zqa (e_0e_1) (zqh)) ⟨zql 2 [a], cs⟩) (fun a kd st => q a (RetT kd st) st.cs) E := fun ds hd hb => by
  obtain ⟨h1, h2⟩ := hs ds hd
  unfold e_0e_1
  walk_at "wx"
  refine x_we_lc ?_
  walk_at "wx"
  refine ⟨ds, by rcases hd with rfl | rfl <;> rfl, h1, ?_⟩
  refine x_wl_fm (fun d => some (.bl (byteD d))) _ ds [] (fun d hd => ?_) ?_
  · walk_at "wx"
    refine sp_is_number (h2 d hd) ?_
    walk_at "wx"
    exact ⟨rfl, rfl⟩
  · walk_at "wx"
    refine x_wo_all (bs := ds.map byteD) (fm_map ds) ?_
    rw [show ((ds.map byteD).all id) = bytesD a from by rw [hb, List.all_map]; rfl]
    exact h
 unfold F_0e
 refine zqB rfl ?_
 unfold sv_0e
 cases a with
 | lst ds =>
  have k := key ds (.inl rfl) rfl
  generalize (zqp (Blt.run CL .all) (zqa (e_0e_1) (zqh))) = X at k ⊢
  walk_at "wx"
  exact k
 | tup ds =>
  have k := key ds (.inr rfl) rfl
  generalize (zqp (Blt.run CL .all) (zqa (e_0e_1) (zqh))) = X at k ⊢
  walk_at "wx"
  exact k
 | _ => first | (cases hp; done) | (clear key; generalize (zqp (Blt.run CL .all) (zqa (e_0e_1) (zqh))) = X; walk_at "wx"; exact h)
theorem sp_next {d : DrawSt} {n : Nat} {many : Int} {q : QF} {E : EK} (ok : zqo d (n + 1)) (hm : 0 < many) (hm2 : many < 2 ^ 64) (h : ∀ r d' kd, 0 ≤ r → r < many → zqo d' n → q (.int r) kd [.draw d']) : XF F_0u [.cel 0, .int many] [.draw d] q E := x_next_eqD ok hm hm2 h
theorem sp_pick {ds : List DV} {d : DrawSt} {n : Nat} {q : QF} {E : EK} (ok : zqo d (n + 1)) (hne : 0 < ds.length) (hl : ds.length < 2 ^ 62) (h : ∀ x d', x ∈ ds → zqo d' n → q x (nk x .fro) [.draw d']) : XF F_0w [.cel 0, .lst ds] [.draw d] q E := by
 unfold F_0w
 refine zqB rfl ?_
 unfold sv_0w
 walk_at "wx"
 refine sp_next ok (by omega) (by omega) fun r d' kd r0 r1 ok' => ?_
 walk_at "wx"
 refine x_wo_ix r0 r1 fun x _ hx => ?_
 walk_at "wx"
 rw [retT_k]
 exact h x d' hx ok'
theorem sp_need {a : DV} {cs : List CellC} {q : QF} {E : EK} (hp : pl a = true) (hs : ∀ ds, a = .lst ds ∨ a = .tup ds → ds.length ≤ sizeLine ∧ ∀ d ∈ ds, pl d = true) (h1 : bytesD a = true → q .non .new cs) (h2 : bytesD a = false → E ⟨1, [], []⟩ cs) : XF F_0a [a] cs q E := by
 unfold F_0a
 refine zqB rfl ?_
 unfold sv_0a
 walk_at "wx"
 refine sp_is_bytes hp hs ?_
 walk_at "wx"
 refine IfK.bool (fun hb => ?_) (fun hb => ?_)
 · walk_at "wx"
   exact h1 hb
 · walk_at "wx"
   exact h2 hb
abbrev nL (bs : List Nat) : List DV := bs.map fun b => DV.int (b : Nat)
structure IsB (a : DV) (bs : List Nat) : Prop where
 e : a = .lst (nL bs) ∨ a = .tup (nL bs)
 ok : Crc.okB bs
 l : bs.length ≤ sizeLine
theorem nL_byte {bs : List Nat} (h : Crc.okB bs) : (nL bs).all byteD = true := by
 rw [List.all_eq_true]
 intro x hx
 obtain ⟨b, hb, rfl⟩ := List.mem_map.mp hx
 have := h b hb
 simp [byteD, numD]
 omega
theorem IsB.bytes {a : DV} {bs : List Nat} (h : IsB a bs) : bytesD a = true := by
 rcases h.e with rfl | rfl
 · exact nL_byte h.ok
 · exact nL_byte h.ok
theorem IsB.pl {a : DV} {bs : List Nat} (h : IsB a bs) : pl a = true := by rcases h.e with rfl | rfl <;> rfl
theorem IsB.hs {a : DV} {bs : List Nat} (h : IsB a bs) : ∀ ds, a = .lst ds ∨ a = .tup ds → ds.length ≤ sizeLine ∧ ∀ d ∈ ds, Law.pl d = true := fun ds hd => by
 have e : ds = nL bs := by rcases h.e with rfl | rfl <;> rcases hd with e | e <;> cases e <;> rfl
 subst e
 refine ⟨by simpa using h.l, fun d hd => ?_⟩
 obtain ⟨b, _, rfl⟩ := List.mem_map.mp hd
 rfl
theorem sp_need_ok {a : DV} {bs : List Nat} {cs : List CellC} {q : QF} {E : EK} (h : IsB a bs) (h1 : q .non .new cs) : XF F_0a [a] cs q E :=
 sp_need h.pl h.hs (fun _ => h1) fun hf => by rw [h.bytes] at hf; cases hf
theorem bxor (a b : Nat) : Builtin.bitXor (a : Int) (b : Int) = ((a ^^^ b : Nat) : Int) := by
 rw [Bits.bitXor_pp (Int.natCast_nonneg a) (Int.natCast_nonneg b), Int.toNat_natCast, Int.toNat_natCast]
theorem bxorL (a : Nat) : Builtin.bitXor (a : Int) 4294967295 = ((a ^^^ Crc.M : Nat) : Int) := bxor a Crc.M
theorem steps_ix (x : Nat) : dIx (.tup k_STEPS) (.int (Builtin.bitAnd (x : Int) 15)) = some (.int ((Crc.T.getD (x % 16) 0 : Nat) : Int), .fro) := by
 rw [bitAnd_m4]
 have h : x % 16 < 16 := Nat.mod_lt _ (by decide)
 have e : (x : Int) % 16 = ((x % 16 : Nat) : Int) := by omega
 rw [e]
 generalize x % 16 = z at h ⊢
 revert z
 have : ∀ z : Fin 16, dIx (.tup k_STEPS) (.int ((z.val : Nat) : Int)) = some (.int ((Crc.T.getD z.val 0 : Nat) : Int), .fro) := by
  intro z
  obtain ⟨z, hz⟩ := z
  have h : z = 0 ∨ z = 1 ∨ z = 2 ∨ z = 3 ∨ z = 4 ∨ z = 5 ∨ z = 6 ∨ z = 7 ∨ z = 8 ∨ z = 9 ∨ z = 10 ∨ z = 11 ∨ z = 12 ∨ z = 13 ∨ z = 14 ∨ z = 15 := (show ∀ z : Fin 16, z.val = 0 ∨ z.val = 1 ∨ z.val = 2 ∨ z.val = 3 ∨ z.val = 4 ∨ z.val = 5 ∨ z.val = 6 ∨ z.val = 7 ∨ z.val = 8 ∨ z.val = 9 ∨ z.val = 10 ∨ z.val = 11 ∨ z.val = 12 ∨ z.val = 13 ∨ z.val = 14 ∨ z.val = 15 from by decide +kernel) ⟨z, hz⟩
  rcases h with rfl | rfl | rfl | rfl | rfl | rfl | rfl | rfl | rfl | rfl | rfl | rfl | rfl | rfl | rfl | rfl <;> rfl
 exact fun z hz => this ⟨z, hz⟩
theorem nibI (x : Nat) : Builtin.bitXor ((x : Int) / 2 ^ Int.toNat 4) ((Crc.T.getD (x % 16) 0 : Nat) : Int) = ((Crc.s4 x : Nat) : Int) := by
 have e : (x : Int) / 2 ^ Int.toNat 4 = ((x / 16 : Nat) : Int) := by
  show (x : Int) / 16 = _
  omega
 rw [e, bxor, Crc.nib]
 rfl
theorem fw_run {c b : Nat} {s1 : D.Slot} {cs : List CellC} {k : KS} {E : EK} (h : k.nx ⟨[some (.int (Crc.step c b : Nat), false), s1, some (.int b, false)], cs⟩) : XS (b_0m_3 ⟨[some (.int c, false), s1, some (.int (b : Nat), false)], cs⟩) k E := by
 obtain ⟨nx, bk, ct, rt⟩ := k
 unfold b_0m_3 u1_0m_1 u1_0m_2
 walk_at "wx"
 rw [bxor]
 refine x_wo (steps_ix _) ?_
 walk_at "wx"
 rw [nibI]
 refine x_wo (steps_ix _) ?_
 walk_at "wx"
 rw [nibI]
 exact h
theorem sp_forward {a : DV} {bs : List Nat} {c : Nat} {cs : List CellC} {q : QF} {E : EK} (he : a = .lst (nL bs) ∨ a = .tup (nL bs)) (hl : bs.length ≤ sizeLine) (h : ∀ kd, q (.int (Crc.fw c bs : Nat)) kd cs) : XF F_0m [.int c, a] cs q E := by
 unfold F_0m
 refine zqB rfl ?_
 unfold sv_0m
 have hit : itemsD a = some (nL bs) := by rcases he with rfl | rfl <;> rfl
 walk_at "wx"
 refine ⟨nL bs, hit, ?_⟩
 refine x_wfor (fun r st => ∃ (d : Nat) (rs : List Nat) (s2 : D.Slot), r = nL rs ∧ st = ⟨[some (.int (d : Nat), false), some (a, false), s2], cs⟩ ∧ Crc.fw d rs = Crc.fw c bs) _ _ ⟨c, bs, none, rfl, rfl, rfl⟩ ?_ ?_
 · rintro x r st ⟨d, rs, s2, hr, rfl, hd⟩
   cases rs with
   | nil => cases hr
   | cons b rs =>
    rw [nL, List.map_cons, List.cons.injEq] at hr
    obtain ⟨rfl, rfl⟩ := hr
    walk_at "wx"
    exact fw_run ⟨Crc.step d b, rs, _, rfl, rfl, hd⟩
 · rintro st ⟨d, rs, s2, hr, rfl, hd⟩
   cases rs with
   | cons b rs => cases hr
   | nil =>
    walk_at "wx"
    rw [← hd] at h
    exact h _
theorem sp_check {a : DV} {bs : List Nat} {cs : List CellC} {q : QF} {E : EK} (ha : IsB a bs) (h : q (.int (Crc.crc bs : Nat)) .new cs) : XF F_10 [a] cs q E := by
 unfold F_10
 refine zqB rfl ?_
 unfold sv_10
 walk_at "wx"
 refine sp_need_ok ha ?_
 walk_at "wx"
 refine sp_forward (c := Crc.M) ha.e ha.l fun kd => ?_
 walk_at "wx"
 rw [bxorL]
 exact h
def itS : Nat → Nat → Nat
 | 0, c => c
 | n + 1, c => itS n (Crc.s c)
theorem sp_l_crc {bs : List Nat} {cs : List CellC} {q : QF} {E : EK} (hl : bs.length ≤ sizeLine) (h : q (.int (Crc.crc bs : Nat)) .new cs) : XF F_11 [.lst (nL bs)] cs q E := by
 unfold F_11
 refine zqB rfl ?_
 unfold sv_11 t_11_1 t_11_2
 walk_at "wx"
 refine x_wfor (fun r st => ∃ (d : Nat) (rs : List Nat) (s2 s3 s4 : D.Slot), r = nL rs ∧ st = ⟨[some (.lst (nL bs), false), some (.int (d : Nat), false), s2, s3, s4], cs⟩ ∧ Crc.fw d rs = Crc.fw Crc.M bs) _ _ ⟨Crc.M, bs, none, none, none, rfl, rfl, rfl⟩ ?_ ?_
 · rintro x r st ⟨d, rs, s2, s3, s4, hr, rfl, hd⟩
   cases rs with
   | nil => cases hr
   | cons b rs =>
    rw [nL, List.map_cons, List.cons.injEq] at hr
    obtain ⟨rfl, rfl⟩ := hr
    unfold b_11_4
    walk_at "wx"
    refine ⟨by decide, ?_⟩
    rw [bxor]
    refine x_wfor (fun r st => ∃ (y : Nat) (s3 s4 : D.Slot), st = ⟨[some (.lst (nL bs), false), some (.int (y : Nat), false), some (.int (b : Nat), false), s3, s4], cs⟩ ∧ itS r.length y = Crc.step d b) _ _ ⟨d ^^^ b, s3, s4, rfl, rfl⟩ ?_ ?_
    · rintro x r st ⟨y, s3, s4, rfl, hy⟩
      unfold b_11_3 u1_11_1 u1_11_2
      walk_at "wx"
      have e2 : (y : Int) / 2 = ((y / 2 : Nat) : Int) := by omega
      rw [e2]
      refine IfK.dec (fun ho => ?_) (fun ho => ?_)
      · walk_at "wx"
        rw [show Builtin.bitXor ((y / 2 : Nat) : Int) 3988292384 = ((y / 2 ^^^ Crc.P : Nat) : Int) from bxor _ Crc.P]
        refine ⟨y / 2 ^^^ Crc.P, _, _, rfl, ?_⟩
        rw [← hy]
        show itS r.length _ = itS r.length (Crc.s y)
        unfold Crc.s
        rw [if_pos (by omega)]
      · walk_at "wx"
        refine ⟨y / 2, _, _, rfl, ?_⟩
        rw [← hy]
        show itS r.length _ = itS r.length (Crc.s y)
        unfold Crc.s
        rw [if_neg (by omega)]
    · rintro st ⟨y, s3, s4, rfl, hy⟩
      have hy : y = Crc.step d b := hy
      subst hy
      exact ⟨_, rs, _, _, _, rfl, rfl, hd⟩
 · rintro st ⟨d, rs, s2, s3, s4, hr, rfl, hd⟩
   cases rs with
   | cons b rs => cases hr
   | nil =>
    walk_at "wx"
    have hd : d = Crc.fw Crc.M bs := hd
    subst hd
    rw [bxorL]
    exact h
theorem nats_of : ∀ {ys : List DV}, (∀ y ∈ ys, ∃ b : Nat, y = .int b ∧ b < 256) → ∃ bs : List Nat, ys = nL bs ∧ Crc.okB bs
 | [], _ => ⟨[], rfl, fun _ h => by simp at h⟩
 | y :: ys, h => by
  obtain ⟨b, rfl, hb⟩ := h y (by simp)
  obtain ⟨bs, rfl, hbs⟩ := nats_of (ys := ys) fun z hz => h z (by simp [hz])
  exact ⟨b :: bs, rfl, fun z hz => by rcases List.mem_cons.mp hz with rfl | hz; exact hb; exact hbs z hz⟩
theorem nL_mem {bs : List Nat} {x : DV} (h : x ∈ nL bs) : ∃ b ∈ bs, x = .int (b : Nat) := by
 obtain ⟨b, hb, rfl⟩ := List.mem_map.mp h
 exact ⟨b, hb, rfl⟩
theorem nat_of {r : Int} {m : Nat} (h0 : 0 ≤ r) (h1 : r < m) : ∃ b : Nat, r = b ∧ b < m := ⟨r.toNat, by omega, by omega⟩
theorem bk_v2 {sl : List Slot} {cs : List CellC} {a0 a1 a : DV} {kd : Kd} {j : Nat} {q : QE} (h1 : q a (kdO kd) ⟨sl, cs⟩) (h2 : q a (kdO kd) ⟨dropSl sl j, cs⟩) : BkT sl [(a0, .fro), (a1, .view j)] a kd cs q := by
 unfold BkT
 split
 · exact h1
 · exact h2
theorem sp_l_some {plain : Bool} {m : Nat} {d : DrawSt} {n : Nat} {q : QF} {E : EK} (ok : zqo d (n + 2 * m + 1)) (hm : m ≤ 100000) (h : ∀ bs d', Crc.okB bs → bs.length ≤ m → zqo d' n → q (.lst (nL bs)) .new [.draw d']) :
 XF F_0x [.cel 0, .int (m : Nat), .bl plain] [.draw d] q E := by
 have key : ∀ sg : List Nat, Crc.okB sg → 0 < sg.length → sg.length ≤ 100 → XS (t_0x_1 ⟨[some (.cel 0, false), some (.int (m : Nat), false), some (.bl plain, false), some (.lst (nL sg), true), none, none, none], [.draw d]⟩) ⟨fun st => q .non .new st.cs, fun _ => False, fun _ => False, fun a kd st => q a (RetT kd st) st.cs⟩ E := fun sg hs s0 s1 => by
  unfold t_0x_1 e_0x_1
  walk_at "wx"
  refine x_we_lc ?_
  walk_at "wx"
  refine sp_next (n := n + 2 * m) ok (by omega) (by omega) fun r d1 kd r0 r1 ok1 => ?_
  walk_at "wx"
  refine ⟨by omega, ?_⟩
  have hlen : (rangeL 0 r.toNat).length = r.toNat := by simp [rangeL]
  refine ⟨by rw [hlen, zqy]; omega, ?_⟩
  refine x_wl_inv (fun j st => ∃ d, st = ⟨[some (.cel 0, false), some (.int (m : Nat), false), some (.bl plain, false), some (.lst (nL sg), true), none, none, none], [.draw d]⟩ ∧ zqo d (n + r.toNat + j)) (fun y => ∃ b : Int, y = .int b) _ _ ⟨d1, rfl, ok1.mono (by omega)⟩ (fun y j st _ ⟨d2, e, ok2⟩ => ?_) fun ys st hl hy ⟨d2, e, ok2⟩ => ?_
  · subst e
    walk_at "wx"
    refine sp_next (n := n + r.toNat + j) ok2 (by decide) (by decide) fun x d3 kd x0 x1 ok3 => ?_
    walk_at "wx"
    exact ⟨⟨_, rfl⟩, d3, rfl, ok3⟩
  · subst e
    rw [hlen] at hl
    unfold t_0x_2 e_0x_2
    walk_at "wx"
    refine x_we_lc ?_
    walk_at "wx"
    refine x_wl_inv (fun j st => ∃ d b3 s4, st = ⟨[some (.cel 0, false), some (.int (m : Nat), false), some (.bl plain, false), some (.lst (nL sg), b3), s4, none, none], [.draw d]⟩ ∧ zqo d (n + j)) (fun y => ∃ b : Nat, y = .int b ∧ b < 256) _ _ ⟨d2, true, _, rfl, ok2.mono (by omega)⟩ (fun y j st hy' ⟨d4, b3, s4, e, ok4⟩ => ?_) fun zs st hl' hz ⟨d4, b3, s4, e, ok4⟩ => ?_
    · subst e
      obtain ⟨b, rfl⟩ := hy y hy'
      walk_at "wx"
      refine IfK.dec (fun hb => ?_) (fun hb => ?_)
      · cases b3
        · walk_at "wx"
          refine sp_pick (n := n + j) ok4 (by simpa using s0) (by simp; omega) fun x d5 hx ok5 => ?_
          obtain ⟨b, hb, rfl⟩ := nL_mem hx
          walk_at "wx"
          exact ⟨⟨b, rfl, hs b hb⟩, d5, _, _, rfl, ok5⟩
        · walk_at "wx"
          refine sp_pick (n := n + j) ok4 (by simpa using s0) (by simp; omega) fun x d5 hx ok5 => ?_
          obtain ⟨b, hb, rfl⟩ := nL_mem hx
          refine bk_v2 ?_ ?_
          · walk_at "wx"
            exact ⟨⟨b, rfl, hs b hb⟩, d5, _, _, rfl, ok5⟩
          · walk_at "wx"
            exact ⟨⟨b, rfl, hs b hb⟩, d5, _, _, rfl, ok5⟩
      · walk_at "wx"
        refine sp_next (n := n + j) ok4 (by decide) (by decide) fun x d5 kd x0 x1 ok5 => ?_
        walk_at "wx"
        obtain ⟨b, rfl, hb⟩ := nat_of x0 x1
        exact ⟨⟨b, rfl, hb⟩, d5, _, _, rfl, ok5⟩
    · subst e
      obtain ⟨bs, rfl, hbs⟩ := nats_of hz
      walk_at "wx"
      exact h bs d4 hbs (by simp at hl'; omega) (by simpa using ok4)
 unfold F_0x
 refine zqB rfl ?_
 unfold sv_0x
 walk_at "wx"
 cases plain
 · walk_at "wx"
   exact key [80, 75, 5, 6, 0, 1] (by unfold Crc.okB; decide) (by decide) (by decide)
 · walk_at "wx"
   exact key [0, 1, 255, 80, 75, 5, 6, 3, 4] (by unfold Crc.okB; decide) (by decide) (by decide)
theorem nL_oks {bs : List Nat} (h : Crc.okB bs) : dOks (nL bs) = true := by
 have := dOks_ints (xs := bs.map fun b : Nat => (b : Int)) fun x hx => by
  obtain ⟨b, hb, rfl⟩ := List.mem_map.mp hx
  have := h b hb
  omega
 rw [List.map_map] at this
 exact this
theorem nL_dps {bs : List Nat} : dDps (nL bs) = 0 := by
 have := dDps_ints (xs := bs.map fun b : Nat => (b : Int))
 rw [List.map_map] at this
 exact this
def daysI (y m : Int) : Int := if m = 2 then (if y % 4 = 0 ∧ y ≠ 2100 then 29 else 28) else if m = 4 ∨ m = 6 ∨ m = 9 ∨ m = 11 then 30 else 31
def ivD : DV → Int
 | .int i => i
 | _ => 0
def timeD : DV → Bool
 | .tup [a, b, c, d, e, f] => numD 1980 2107 a && (numD 1 12 b && (numD 1 (daysI (ivD a) (ivD b)) c && (numD 0 23 d && (numD 0 59 e && (numD 0 59 f && decide (ivD f % 2 = 0))))))
 | _ => false
theorem numD_int {lo hi : Int} {a : DV} (h : numD lo hi a = true) : ∃ n, a = .int n ∧ lo ≤ n ∧ n ≤ hi := by
 cases a <;> first | (cases h; done) | skip
 rename_i n
 simp only [numD, Bool.and_eq_true, decide_eq_true_eq] at h
 exact ⟨n, rfl, h⟩
theorem month_cases {m : Int} (h1 : 1 ≤ m) (h2 : m ≤ 12) : m = 1 ∨ m = 2 ∨ m = 3 ∨ m = 4 ∨ m = 5 ∨ m = 6 ∨ m = 7 ∨ m = 8 ∨ m = 9 ∨ m = 10 ∨ m = 11 ∨ m = 12 := by
 have e : m = (((m - 1).toNat : Nat) : Int) + 1 := by omega
 rw [e]
 exact (show ∀ z : Fin 12, ((z.val : Nat) : Int) + 1 = 1 ∨ ((z.val : Nat) : Int) + 1 = 2 ∨ ((z.val : Nat) : Int) + 1 = 3 ∨ ((z.val : Nat) : Int) + 1 = 4 ∨ ((z.val : Nat) : Int) + 1 = 5 ∨ ((z.val : Nat) : Int) + 1 = 6 ∨ ((z.val : Nat) : Int) + 1 = 7 ∨ ((z.val : Nat) : Int) + 1 = 8 ∨ ((z.val : Nat) : Int) + 1 = 9 ∨ ((z.val : Nat) : Int) + 1 = 10 ∨ ((z.val : Nat) : Int) + 1 = 11 ∨ ((z.val : Nat) : Int) + 1 = 12 from by decide +kernel) ⟨(m - 1).toNat, by omega⟩
theorem sp_days_in {y m : Int} {cs : List CellC} {q : QF} {E : EK} (hy : 1980 ≤ y ∧ y ≤ 2107) (hm : 1 ≤ m ∧ m ≤ 12) (h : q (.int (daysI y m)) .new cs) : XF F_0l [.int y, .int m] cs q E := by
 unfold F_0l
 refine zqB rfl ?_
 unfold sv_0l
 have key : ∀ lp : Bool, (lp = true ↔ (y % 4 = 0 ∧ y ≠ 2100)) → XOp (dIx (.tup k_MONTHS) (.int (m - 1))) (fun c kd => NkT c kd ⟨(zql 3 [DV.int y, DV.int m]).set 2 (some (.bl lp, false)), cs⟩ fun a x st1 => XE (zqp (Blt.run CL .int) (zqa (evAnd (zqk (dCmp .Eq) (zqc 1) (evC (.int 2))) (zqc 2)) (zqh)) st1) (fun b x st2 => XOp (dBin .Add a b) fun c kd => q c (RetT kd st2) st2.cs) E) := fun lp hlp => by
  have h28 : daysI y 2 = 28 + (if lp = true then 1 else 0) := by
   unfold daysI
   cases lp <;> simp at hlp ⊢
   · intro a; exact hlp a
   · exact hlp
  rcases month_cases hm.1 hm.2 with rfl | rfl | rfl | rfl | rfl | rfl | rfl | rfl | rfl | rfl | rfl | rfl
  all_goals walk_at "wx"
  all_goals first | exact h | (rw [h28] at h; cases lp <;> exact h)
 walk_at "wx"
 refine IfK.dec (fun h4 => ?_) (fun h4 => ?_)
 · walk_at "wx"
   refine IfK.dec (fun h100 => ?_) (fun h100 => ?_)
   · walk_at "wx"
     refine key _ ?_
     rw [decide_eq_true_eq]
     omega
   · walk_at "wx"
     refine key _ ?_
     simp only [Bool.not_eq_true', decide_eq_false_iff_not]
     omega
 · walk_at "wx"
   refine key _ ?_
   rw [decide_eq_true_eq]
   omega
theorem cons_of {ds : List DV} {n : Nat} (h : ds.length = n + 1) : ∃ d r, ds = d :: r ∧ r.length = n := by
 cases ds with
 | nil => cases h
 | cons d r => exact ⟨d, r, rfl, by simpa using h⟩
theorem six_of {ds : List DV} (h : ds.length = 6) : ∃ a b c d e f, ds = [a, b, c, d, e, f] := by
 obtain ⟨a, r1, rfl, h5⟩ := cons_of h
 obtain ⟨b, r2, rfl, h4⟩ := cons_of h5
 obtain ⟨c, r3, rfl, h3⟩ := cons_of h4
 obtain ⟨d, r4, rfl, h2⟩ := cons_of h3
 obtain ⟨e, r5, rfl, h1⟩ := cons_of h2
 obtain ⟨f, r, rfl, h0⟩ := cons_of h1
 cases r with
 | nil => exact ⟨_, _, _, _, _, _, rfl⟩
 | cons _ _ => cases h0
theorem timeD_no {ds : List DV} (h : ds.length ≠ 6) : timeD (.tup ds) = false := by
 unfold timeD
 split
 · rename_i e
   cases e
   exact absurd rfl h
 · rfl
theorem sp_is_time {x : DV} {cs : List CellC} {q : QF} {E : EK} (hp : pl x = true) (hs : ∀ ds, x = .tup ds → ∀ d ∈ ds, pl d = true) (h : q (.bl (timeD x)) .new cs) : XF F_0p [x] cs q E := by
 unfold F_0p
 refine zqB rfl ?_
 unfold sv_0p t_0p_1 t_0p_2 t_0p_3 t_0p_4
 cases x with
 | tup ds =>
  walk_at "wx"
  refine IfK.dec (fun h6 => ?_) (fun h6 => ?_)
  · have h6 : ds.length = 6 := by omega
    obtain ⟨a, b, c, d, e, f, rfl⟩ := six_of h6
    have hs := hs _ rfl
    walk_at "wx"
    have pa := hs a (by simp)
    have pb := hs b (by simp)
    have pc := hs c (by simp)
    have pd := hs d (by simp)
    have pe := hs e (by simp)
    have pf := hs f (by simp)
    clear hs
    refine sp_is_number pa ?_
    walk_at "wx"
    refine IfK.bool (fun ka => ?_) (fun ka => ?_)
    rotate_left
    · walk_at "wx"
      simp only [timeD, ka, Bool.false_and, Bool.and_false] at h
      exact h
    obtain ⟨y, rfl, hy⟩ := numD_int ka
    walk_at "wx"
    refine sp_is_number pb ?_
    walk_at "wx"
    refine IfK.bool (fun kb => ?_) (fun kb => ?_)
    rotate_left
    · walk_at "wx"
      simp only [timeD, kb, Bool.false_and, Bool.and_false] at h
      exact h
    obtain ⟨m, rfl, hm⟩ := numD_int kb
    walk_at "wx"
    refine sp_days_in hy hm ?_
    walk_at "wx"
    refine sp_is_number pc ?_
    walk_at "wx"
    refine IfK.bool (fun kc => ?_) (fun kc => ?_)
    rotate_left
    · walk_at "wx"
      simp only [timeD, kc, Bool.false_and, Bool.and_false, ivD] at h
      exact h
    walk_at "wx"
    refine sp_is_number pd ?_
    walk_at "wx"
    refine IfK.bool (fun kd => ?_) (fun kd => ?_)
    rotate_left
    · walk_at "wx"
      simp only [timeD, kd, Bool.false_and, Bool.and_false] at h
      exact h
    walk_at "wx"
    refine sp_is_number pe ?_
    walk_at "wx"
    refine IfK.bool (fun ke => ?_) (fun ke => ?_)
    rotate_left
    · simp only [timeD, ke, Bool.false_and, Bool.and_false] at h
      rw [ke]
      exact h
    walk_at "wx"
    refine sp_is_number pf ?_
    walk_at "wx"
    refine IfK.bool (fun kf => ?_) (fun kf => ?_)
    rotate_left
    · simp only [timeD, kf, Bool.false_and, Bool.and_false] at h
      rw [kf]
      exact h
    obtain ⟨s, rfl, hs⟩ := numD_int kf
    walk_at "wx"
    simp only [timeD, ivD, ka, kb, kc, kd, ke, kf, Bool.true_and] at h
    exact h
  · walk_at "wx"
    rw [timeD_no (by omega)] at h
    exact h
 | _ => first | (cases hp; done) | (walk_at "wx"; exact h)
structure TimeI (y m d h n s : Int) : Prop where
 iy : 1980 ≤ y ∧ y ≤ 2107
 im : 1 ≤ m ∧ m ≤ 12
 id : 1 ≤ d ∧ d ≤ daysI y m
 ih : 0 ≤ h ∧ h ≤ 23
 im' : 0 ≤ n ∧ n ≤ 59
 is : 0 ≤ s ∧ s ≤ 59
 ie : s % 2 = 0
abbrev tD (y m d h n s : Int) : DV := .tup [.int y, .int m, .int d, .int h, .int n, .int s]
theorem timeD_tD {y m d h n s : Int} : timeD (tD y m d h n s) = true ↔ TimeI y m d h n s := by
 simp only [timeD, numD, ivD, Bool.and_eq_true, decide_eq_true_eq]
 constructor
 · rintro ⟨h1, h2, h3, h4, h5, h6, h7⟩
   exact ⟨h1, h2, ⟨h3.1, of_decide_eq_true h3.2⟩, h4, h5, h6, of_decide_eq_true h7⟩
 · rintro ⟨h1, h2, h3, h4, h5, h6, h7⟩
   exact ⟨h1, h2, ⟨h3.1, decide_eq_true h3.2⟩, h4, h5, h6, decide_eq_true h7⟩
theorem timeD_ints {x : DV} (ht : timeD x = true) : ∃ y m d h n s, x = tD y m d h n s ∧ TimeI y m d h n s := by
 have ht0 := ht
 unfold timeD at ht
 split at ht
 · simp only [Bool.and_eq_true] at ht
   obtain ⟨h1, h2, h3, h4, h5, h6, h7⟩ := ht
   obtain ⟨y, rfl, _⟩ := numD_int h1
   obtain ⟨m, rfl, _⟩ := numD_int h2
   obtain ⟨d, rfl, _⟩ := numD_int h3
   obtain ⟨h, rfl, _⟩ := numD_int h4
   obtain ⟨n, rfl, _⟩ := numD_int h5
   obtain ⟨s, rfl, _⟩ := numD_int h6
   exact ⟨y, m, d, h, n, s, rfl, timeD_tD.mp ht0⟩
 · cases ht
theorem sp_stamp_of {x : DV} {cs : List CellC} {q : QF} {E : EK} (hp : pl x = true) (hs : ∀ ds, x = .tup ds → ∀ d ∈ ds, pl d = true)
 (h1 : ∀ y m d h n s, x = tD y m d h n s → TimeI y m d h n s → q (.tup [.int (h * 2048 + n * 32 + s / 2), .int ((y - 1980) * 512 + m * 32 + d)]) .new cs) (h2 : timeD x = false → E ⟨3, [], []⟩ cs) : XF F_0k [x] cs q E := by
 unfold F_0k
 refine zqB rfl ?_
 unfold sv_0k t_0k_1 t_0k_2
 walk_at "wx"
 refine sp_is_time hp hs ?_
 walk_at "wx"
 refine IfK.bool (fun ht => ?_) (fun ht => ?_)
 · obtain ⟨y, m, d, h, n, s, rfl, t⟩ := timeD_ints ht
   walk_at "wx"
   exact h1 y m d h n s rfl t
 · walk_at "wx"
   exact h2 ht
theorem pl_six {a b c d e f : Int} : ∀ ds, tD a b c d e f = .tup ds → ∀ d ∈ ds, pl d = true := fun ds h => by
 cases h
 intro z hz
 simp only [List.mem_cons, List.not_mem_nil, or_false] at hz
 rcases hz with rfl | rfl | rfl | rfl | rfl | rfl <;> rfl
theorem XF_run {F : Fn} {ds : List DV} {cs cs' : List CellC} {q : QF} {E : EK} {v : DV} {kd : Kd} {sl : List Slot} (h : F ds ⟨[], cs⟩ = .ok (v, kd) ⟨sl, cs'⟩) (hq : q v kd cs') : XF F ds cs q E := by
 with_unfolding_all
 show W (F ds ⟨[], cs⟩) (fun a st => q a.1 a.2 st.cs) E
 rw [h]
 exact hq
theorem fl_non  : flat (DV.non) = true := rfl
theorem ic_non  : isCont (DV.non) = false := rfl
theorem fl_bl (b : Bool) : flat (DV.bl b) = true := rfl
theorem ic_bl (b : Bool) : isCont (DV.bl b) = false := rfl
theorem fl_int (i : Int) : flat (DV.int i) = true := rfl
theorem ic_int (i : Int) : isCont (DV.int i) = false := rfl
theorem fl_str (s : Str) : flat (DV.str s) = true := rfl
theorem ic_str (s : Str) : isCont (DV.str s) = false := rfl
theorem fl_ty (n : String) : flat (DV.ty n) = true := rfl
theorem ic_ty (n : String) : isCont (DV.ty n) = false := rfl
theorem fl_lst (xs : List DV) : flat (DV.lst xs) = false := rfl
theorem ic_lst (xs : List DV) : isCont (DV.lst xs) = true := rfl
theorem fl_tup (xs : List DV) : flat (DV.tup xs) = false := rfl
theorem ic_tup (xs : List DV) : isCont (DV.tup xs) = false := rfl
theorem fl_dct (ks : List Key) (vs : List DV) : flat (DV.dct ks vs) = false := rfl
theorem ic_dct (ks : List Key) (vs : List DV) : isCont (DV.dct ks vs) = true := rfl
theorem fl_cel (k : Nat) : flat (DV.cel k) = false := rfl
theorem ic_cel (k : Nat) : isCont (DV.cel k) = false := rfl
theorem fl_ins (c : Nat) (ns : List Str) (vs : List DV) : flat (DV.ins c ns vs) = false := rfl
theorem ic_ins (c : Nat) (ns : List Str) (vs : List DV) : isCont (DV.ins c ns vs) = true := rfl
theorem fl_scr (xs : List Int) : flat (DV.scr xs) = false := rfl
theorem ic_scr (xs : List Int) : isCont (DV.scr xs) = false := rfl
theorem fl_cls (c : Nat) : flat (DV.cls c) = false := rfl
theorem ic_cls (c : Nat) : isCont (DV.cls c) = false := rfl
theorem zqy : sizeLine = 16777216 := rfl
def okC (n : Int) : Bool := decide (32 ≤ n) && (decide (n ≤ 126) && !decide (n = 37))
theorem printable_run (n : Int) (cs : List CellC) : F_02 [.int n] ⟨[], cs⟩ = .ok (.bl (okC n), .new) ⟨[], cs⟩ := by
 unfold F_02 sv_02 okC
 by_cases h1 : 32 ≤ n <;> by_cases h2 : n ≤ 126 <;> by_cases h3 : n = 37 <;> simp [fnSv, zql, zqw, zqm, svIf, zqs, svNx, outRet, evAnd, evOr, evNot, evChain, zqk, evC, zqc, zqp, evN, zqr, zqa, zqh, f1, f2, Blt.run, Out.bind, truD, tvB, tvE, tvAnd, tvOr, tvNot, tvYes, dCmp, dLe, dLt, dGe, dGt, dEq, dNe, dIs, dIsNot, isD, eqD, backTo', safeR, zqC, DS.put, DS.eat, zqg, zqz, zqF, evTup, fl_non, ic_non, fl_bl, ic_bl, fl_int, ic_int, fl_str, ic_str, fl_ty, ic_ty, fl_lst, ic_lst, fl_tup, ic_tup, fl_dct, ic_dct, fl_cel, ic_cel, fl_ins, ic_ins, fl_scr, ic_scr, fl_cls, ic_cls, h1, h2, h3]
def okN (c : Nat) : Bool := okC (c : Int)
theorem next1 {d : DrawSt} {n : Nat} {many : Int} (ok : zqo d (n + 1)) (hm : 0 < many) (hm2 : many < 2 ^ 64) : ∃ r d' kd, F_0u [.cel 0, .int many] ⟨[], [.draw d]⟩ = .ok (.int r, kd) ⟨[], [.draw d']⟩ ∧ 0 ≤ r ∧ r < many ∧ zqo d' n := by
 obtain ⟨r, d', kd, e, h⟩ := next_run (k := 0) (cs := [.draw d]) ok rfl hm hm2
 exact ⟨r, d', kd, e, h⟩
theorem atI_in {α : Type} {xs : List α} {j : Int} (h0 : 0 ≤ j) (h1 : j < xs.length) : ∃ x, atI xs j = some x ∧ x ∈ xs := by
 have hj : j.toNat < xs.length := by omega
 refine ⟨xs[j.toNat], ?_, List.getElem_mem hj⟩
 have := atI_nat (xs := xs) (j := j.toNat) (List.getElem?_eq_getElem hj)
 rw [Int.toNat_of_nonneg h0] at this
 exact this
theorem pick_str {s : Str} {d : DrawSt} {n : Nat} (hne : 0 < s.length) (hl : s.length ≤ sizeLine) (ok : zqo d (n + 1)) : ∃ c d', c ∈ s.cps.toList ∧ F_0w [.cel 0, .str s] ⟨[], [.draw d]⟩ = .ok (.str ⟨#[c]⟩, .new) ⟨[], [.draw d']⟩ ∧ zqo d' n := by
 have hs : s.length = s.cps.toList.length := by simp [Str.length]
 have hsl : sizeLine < 2 ^ 62 := by decide
 obtain ⟨r, d', kd, e, r0, r1, ok'⟩ := next1 (many := (s.length : Nat)) ok (by omega) (by omega)
 obtain ⟨x, hx, hm⟩ := atI_in (xs := s.cps.toList) r0 (by rw [← hs]; exact r1)
 refine ⟨x, d', hm, ?_, ok'⟩
 have hix : dIx (.str s) (.int r) = some (.str ⟨#[x]⟩, .fro) := by simp [dIx, ixD, hx, hl]
 unfold F_0w sv_0w
 simp [fnSv, zql, zqw, zqm, svIf, zqs, svNx, outRet, evAnd, evOr, evNot, evChain, zqk, evC, zqc, zqp, evN, zqr, zqa, zqh, f1, f2, Blt.run, Out.bind, truD, tvB, tvE, tvAnd, tvOr, tvNot, tvYes, dCmp, dLe, dLt, dGe, dGt, dEq, dNe, dIs, dIsNot, isD, eqD, backTo', safeR, zqC, DS.put, DS.eat, zqg, zqz, zqF, evTup, fl_non, ic_non, fl_bl, ic_bl, fl_int, ic_int, fl_str, ic_str, fl_ty, ic_ty, fl_lst, ic_lst, fl_tup, ic_tup, fl_dct, ic_dct, fl_cel, ic_cel, fl_ins, ic_ins, fl_scr, ic_scr, fl_cls, ic_cls, lenD, e, hix, isDraw, hl]
@[irreducible] def SIGNS : Str := " !" ++ "\"" ++ "#$&'()*+,-./0123456789:;<=>?@ABCDEFGHIJKLMNOPQRSTUVWXYZ[" ++ "\\" ++ "]^_" ++ "`abcdefghijklmnopqrstuvwxyz{|}~"
theorem signs_run (cs : List CellC) : F_0r [] ⟨[], cs⟩ = .ok (.str SIGNS, .new) ⟨[], cs⟩ := by unfold SIGNS; rfl
theorem later {T G : Prop} (f : T → G) (key : T) : G := f key
abbrev S (l : List Nat) : Str := SX.S l
theorem strsD_chars : ∀ cs : List Nat, strsD (cs.map fun c => DV.str ⟨#[c]⟩) = some (cs.map fun c => (⟨#[c]⟩ : Str))
 | [] => rfl
 | c :: cs => by
  show (strsD (cs.map fun c => DV.str ⟨#[c]⟩)).map (_ :: ·) = _
  rw [strsD_chars cs]; rfl
theorem join_chars (cs : List Nat) : (Txt.join "" (cs.map fun c => (⟨#[c]⟩ : Str))).cps.toList = cs := by
 rw [TL.join_eq]
 have h := TL.tl_join "" (cs.map fun c => (⟨#[c]⟩ : Str))
 have e : TL.tl (Str.ofString "") = [] := rfl
 show TL.tl (Str.join "" _) = cs
 rw [h, e]
 clear h
 induction cs with
 | nil => rfl
 | cons c cs ih =>
  cases cs with
  | nil => rfl
  | cons c' cs =>
   show [c] ++ ([] ++ TL.joinL [] _) = _
   simp only [List.nil_append]
   show [c] ++ TL.joinL [] (((c' :: cs).map fun c => (⟨#[c]⟩ : Str)).map TL.tl) = _
   rw [ih]; rfl
theorem sum_chars : ∀ cs : List Nat, ((cs.map fun c => (⟨#[c]⟩ : Str)).map (·.length)).sum = cs.length
 | [] => rfl
 | c :: cs => by
  rw [List.map_cons, List.map_cons, List.sum_cons, sum_chars cs, List.length_cons]
  show 1 + cs.length = _
  omega
theorem x_join {l : List Nat} {p : DV → Kd → Prop} (hl : l.length ≤ 100000) (h : p (.str (S l)) .new) : XOp (mJoin [.str "", .lst (l.map fun c => DV.str ⟨#[c]⟩)]) p := by
 refine x_wo (a := .str (S l)) (kd := .new) ?_ h
 have e : Txt.join "" (l.map fun c => (⟨#[c]⟩ : Str)) = S l := by
  have := join_chars l
  show Str.mk _ = Str.mk _
  congr 1
  exact Array.toList_inj.mp this
 unfold mJoin joinD
 simp only [strsD_chars]
 rw [if_pos, e]
 rw [sum_chars]
 show l.length + (l.map _).length * (Str.ofString "").length ≤ _
 rw [show (Str.ofString "").length = 0 from rfl, Nat.mul_zero]
 omega
abbrev SG : Str := " !\"#$&'()*+,-./0123456789:;<=>?@ABCDEFGHIJKLMNOPQRSTUVWXYZ[\\]^_`abcdefghijklmnopqrstuvwxyz{|}~"
theorem okN_lt {c : Nat} (h : okN c = true) : c < 127 ∧ 32 ≤ c := by
 unfold okN okC at h
 simp at h
 omega
theorem SIGNS_SG : SIGNS = SG := by
 unfold SIGNS
 decide +kernel
theorem sp_signs {cs : List CellC} {q : QF} {E : EK} (h : q (.str SG) .new cs) : XF F_0r [] cs q E := XF_run (signs_run cs) (by rw [SIGNS_SG]; exact h)
theorem ok8 : Crc.okB [0, 0, 0, 0, 0, 0, 0, 0] := by
 intro x hx
 simp at hx
 omega
theorem sp_l_low {x w : Nat} {j : Int} (hj : j = (x : Nat)) {d : DrawSt} {q : QF} {E : EK} (hw : w ≤ 8) (h : q (.lst (nL (Crc.low w x))) .new [.draw d]) : XF F_13 [.int j, .int (w : Nat)] [.draw d] q E := by
 subst hj
 unfold F_13
 refine zqB rfl ?_
 unfold sv_13 t_13_1 t_13_2
 walk_at "wx"
 refine ⟨by omega, ?_⟩
 refine x_wfor (fun r st => ∃ (p : List Nat) (z : Nat) (s4 : D.Slot), st = ⟨[some (.int (z : Nat), false), some (.int (w : Nat), false), some (.lst (nL p), true), s4], [.draw d]⟩ ∧ p ++ Crc.low r.length z = Crc.low w x) _ _ ⟨[], x, none, rfl, by simp [rangeL]⟩ ?_ ?_
 · rintro y r st ⟨p, z, s4, rfl, h1⟩
   unfold b_13_1
   have hpl : p.length ≤ 8 := by
    have := congrArg List.length h1
    rw [List.length_append, Crc.low_length, Crc.low_length] at this
    omega
   walk_at "wx"
   refine ⟨p ++ [z % 256], z / 256, some (y, false), ?_, ?_⟩
   · have e1 : (z : Int) % 256 = ((z % 256 : Nat) : Int) := by omega
     have e2 : (z : Int) / 256 = ((z / 256 : Nat) : Int) := by omega
     rw [e1, e2]
     simp only [nL, List.map_append, List.map_cons, List.map_nil]
     rfl
   · rw [← h1]; simp [Crc.low]
 · rintro st ⟨p, z, s4, rfl, h1⟩
   have hp : p = Crc.low w x := by simpa [Crc.low] using h1
   subst hp
   walk_at "wx"
   exact h
def orV : DV → DV
 | .str s => .int (match s.cps.toList with | c :: _ => (c : Nat) | [] => 0 : Nat)
 | _ => .non
theorem orV_S : ∀ l : List Nat, (l.map fun c => DV.str ⟨#[c]⟩).filterMap (fun d => some (orV d)) = nL l
 | [] => rfl
 | c :: l => by
  have := orV_S l
  rw [List.map_cons, List.filterMap_cons]
  show orV (.str ⟨#[c]⟩) :: _ = _
  rw [this]
  rfl
theorem sp_octets {l : List Nat} {d : DrawSt} {q : QF} {E : EK} (hl : l.length ≤ 1000) (h : q (.lst (nL l)) .new [.draw d]) : XF F_0g [.str (S l)] [.draw d] q E := by
 unfold F_0g
 refine zqB rfl ?_
 unfold sv_0g e_0g_1
 walk_at "wx"
 refine x_we_lc ?_
 walk_at "wx"
 refine ⟨by rw [zqy]; simp [strItems]; omega, ?_⟩
 refine x_wl_fm (fun x => some (orV x)) _ _ [] (fun x hx => ?_) ?_
 · obtain ⟨c, hc, rfl⟩ := List.mem_map.mp hx
   walk_at "wx"
   exact ⟨rfl, rfl⟩
 · rw [List.nil_append, show strItems (S l) = l.map fun c => DV.str ⟨#[c]⟩ from by simp [strItems], orV_S]
   exact h
theorem ok_app {as bs : List Nat} (h1 : Crc.okB as) (h2 : Crc.okB bs) : Crc.okB (as ++ bs) := fun x hx => by
 rcases List.mem_append.mp hx with hx | hx
 · exact h1 x hx
 · exact h2 x hx
theorem nL_app {as bs : List Nat} : nL as ++ nL bs = nL (as ++ bs) := by rw [nL, nL, nL, List.map_append]
structure Ent where
 l : List Nat
 data : List Nat
 y : Nat
 m : Nat
 dd : Nat
 hh : Nat
 n : Nat
 s : Nat
 nt : List Nat
structure Ent.Ok (e : Ent) : Prop where
 l1 : e.l.length ≤ 100
 lo : Crc.okB e.l
 d1 : e.data.length ≤ 70000
 dO : Crc.okB e.data
 y1 : 1980 ≤ e.y ∧ e.y ≤ 3000
 b : e.m ≤ 100 ∧ e.dd ≤ 100 ∧ e.hh ≤ 100 ∧ e.n ≤ 100 ∧ e.s ≤ 100
 n1 : e.nt.length ≤ 100
 no : Crc.okB e.nt
abbrev Ent.tm (e : Ent) : DV := .tup [.int (e.y : Nat), .int (e.m : Nat), .int (e.dd : Nat), .int (e.hh : Nat), .int (e.n : Nat), .int (e.s : Nat)]
abbrev entD (e : Ent) : DV := .tup [.str (S e.l), .lst (nL e.data), e.tm, .str (S e.nt)]
def Ent.lo_ (e : Ent) : Nat := e.hh * 2048 + e.n * 32 + e.s / 2
def Ent.hi_ (e : Ent) : Nat := (e.y - 1980) * 512 + e.m * 32 + e.dd
def shB (e : Ent) : List Nat := Crc.low 2 e.lo_ ++ Crc.low 2 e.hi_ ++ Crc.low 4 (Crc.crc e.data) ++ Crc.low 4 e.data.length ++ Crc.low 4 e.data.length ++ Crc.low 2 e.l.length ++ [0, 0]
def recB (e : Ent) : List Nat := [80, 75, 3, 4] ++ Crc.low 6 20 ++ shB e ++ e.l ++ e.data
def rowB (e : Ent) (p : Nat) : List Nat := [80, 75, 1, 2] ++ Crc.low 2 20 ++ Crc.low 6 20 ++ shB e ++ Crc.low 2 e.nt.length ++ Crc.low 8 0 ++ Crc.low 4 p ++ e.l ++ e.nt
def endB (many wide spot : Nat) (note : List Nat) : List Nat := [80, 75, 5, 6] ++ Crc.low 4 0 ++ Crc.low 2 many ++ Crc.low 2 many ++ Crc.low 4 wide ++ Crc.low 4 spot ++ Crc.low 2 note.length ++ note
theorem lowN (w x : Nat) : (nL (Crc.low w x)).length = w := by simp [Crc.low_length]
theorem shB_len (e : Ent) : (shB e).length = 20 := by simp [shB, Crc.low_length]
theorem shB_ok (e : Ent) : Crc.okB (shB e) := by
 refine ok_app (ok_app (ok_app (ok_app (ok_app (ok_app ?_ ?_) ?_) ?_) ?_) ?_) ?_
 all_goals first | exact Crc.low_ok _ _ | (intro x hx; simp at hx; omega)
theorem recB_ok {e : Ent} (h : e.Ok) : Crc.okB (recB e) := by
 refine ok_app (ok_app (ok_app (ok_app ?_ (Crc.low_ok _ _)) (shB_ok e)) h.lo) h.dO
 intro x hx
 simp at hx
 omega
theorem rowB_ok {e : Ent} (h : e.Ok) (p : Nat) : Crc.okB (rowB e p) := by
 refine ok_app (ok_app (ok_app (ok_app (ok_app (ok_app (ok_app (ok_app ?_ (Crc.low_ok _ _)) (Crc.low_ok _ _)) (shB_ok e)) (Crc.low_ok _ _)) (Crc.low_ok _ _)) (Crc.low_ok _ _)) h.lo) h.no
 intro x hx
 simp at hx
 omega
theorem endB_ok {many wide spot : Nat} {note : List Nat} (h : Crc.okB note) : Crc.okB (endB many wide spot note) := by
 refine ok_app (ok_app (ok_app (ok_app (ok_app (ok_app (ok_app ?_ (Crc.low_ok _ _)) (Crc.low_ok _ _)) (Crc.low_ok _ _)) (Crc.low_ok _ _)) (Crc.low_ok _ _)) (Crc.low_ok _ _)) h
 intro x hx
 simp at hx
 omega
theorem len_S {ct : CT} {l : List Nat} (hl : l.length ≤ 1000) : (Blt.run ct Blt.len [DV.str (S l)]) = some (.int (l.length : Nat), .new) := by
 show lenD (.str (S l)) = _
 have hS : (S l).length ≤ sizeLine := by rw [SX.S_len, zqy]; omega
 have hS2 : (S l).length = l.length := SX.S_len l
 rw [hS2] at hS
 simp [lenD, hS, hS2]
theorem sp_l_shared {e : Ent} (he : e.Ok) {d : DrawSt} {q : QF} {E : EK} (h : q (.lst (nL (shB e))) .new [.draw d]) : XF F_0i [entD e] [.draw d] q E := by
 obtain ⟨l, data, y, m, dd, hh, n, s, nt⟩ := e
 have hd := he.d1
 have hl := he.l1
 have hy := he.y1
 dsimp only at hd hl hy
 show XF F_0i [.tup [.str (S l), .lst (nL data), .tup [.int (y : Nat), .int (m : Nat), .int (dd : Nat), .int (hh : Nat), .int (n : Nat), .int (s : Nat)], .str (S nt)]] [.draw d] q E
 unfold F_0i
 refine zqB rfl ?_
 unfold sv_0i t_0i_1 t_0i_2 t_0i_3 t_0i_4 t_0i_5
 walk_at "wx"
 refine sp_l_low (x := data.length) (w := 4) (by simp) (by decide) ?_
 walk_at "wx"
 refine sp_l_low (x := hh * 2048 + n * 32 + s / 2) (w := 2) (by omega) (by decide) ?_
 walk_at "wx"
 refine sp_l_low (x := (y - 1980) * 512 + m * 32 + dd) (w := 2) (by omega) (by decide) ?_
 walk_at "wx"
 · rw [lowN, lowN, zqy]
   decide
 refine sp_l_crc (by rw [zqy]; omega) ?_
 walk_at "wx"
 refine sp_l_low (x := Crc.crc data) (w := 4) rfl (by decide) ?_
 walk_at "wx"
 · rw [List.length_append, lowN, lowN, lowN, zqy]
   decide
 walk_at "wx"
 · simp only [List.length_append, lowN, zqy]
   decide
 walk_at "wx"
 · simp only [List.length_append, lowN, zqy]
   decide
 refine x_wo (len_S (by omega)) ?_
 walk_at "wx"
 refine sp_l_low (x := l.length) (w := 2) rfl (by decide) ?_
 walk_at "wx"
 · simp only [List.length_append, lowN, zqy]
   decide
 walk_at "wx"
 · simp only [List.length_append, lowN, zqy, List.length_cons, List.length_nil]
   decide
 have e0 : [DV.int 0, DV.int 0] = nL [0, 0] := rfl
 rw [e0]
 simp only [nL_app]
 exact h
theorem sp_l_record {e : Ent} (he : e.Ok) {d : DrawSt} {q : QF} {E : EK} (h : q (.lst (nL (recB e))) .new [.draw d]) : XF F_0h [entD e] [.draw d] q E := by
 have hd := he.d1
 have hl := he.l1
 have lr : (nL (shB e)).length = 20 := by rw [List.length_map]; exact shB_len e
 unfold F_0h
 refine zqB rfl ?_
 unfold sv_0h
 walk_at "wx"
 refine sp_l_low (x := 20) (w := 6) rfl (by decide) ?_
 walk_at "wx"
 refine sp_l_shared he ?_
 walk_at "wx"
 · simp only [List.length_append, lowN, zqy, List.length_cons, List.length_nil, lr]
   decide
 walk_at "wx"
 refine sp_octets (by omega) ?_
 walk_at "wx"
 · simp only [List.length_append, lowN, zqy, List.length_cons, List.length_nil, List.length_map, Crc.low_length, shB_len]
   omega
 · simp only [List.length_append, lowN, zqy, List.length_cons, List.length_nil, List.length_map, Crc.low_length, shB_len]
   omega
 have e0 : [DV.int 80, DV.int 75, DV.int 3, DV.int 4] = nL [80, 75, 3, 4] := rfl
 rw [e0]
 simp only [nL_app]
 exact h
theorem sp_l_row {e : Ent} (he : e.Ok) {p : Nat} {d : DrawSt} {q : QF} {E : EK} (h : q (.lst (nL (rowB e p))) .new [.draw d]) : XF F_14 [entD e, .int (p : Nat)] [.draw d] q E := by
 have hl := he.l1
 have hn := he.n1
 have lr : (nL (shB e)).length = 20 := by rw [List.length_map]; exact shB_len e
 unfold F_14
 refine zqB rfl ?_
 unfold sv_14 t_14_1 t_14_2
 walk_at "wx"
 refine sp_l_low (x := 20) (w := 2) rfl (by decide) ?_
 walk_at "wx"
 refine sp_l_low (x := 20) (w := 6) rfl (by decide) ?_
 walk_at "wx"
 refine sp_l_shared he ?_
 walk_at "wx"
 try any_goals (show _ ≤ sizeLine; simp only [List.length_append, lowN, zqy, List.length_cons, List.length_nil, lr]; omega)
 refine x_wo (len_S (by omega)) ?_
 walk_at "wx"
 refine sp_l_low (x := e.nt.length) (w := 2) rfl (by decide) ?_
 walk_at "wx"
 try any_goals (show _ ≤ sizeLine; simp only [List.length_append, lowN, zqy, List.length_cons, List.length_nil, lr]; omega)
 refine sp_l_low (x := 0) (w := 8) rfl (by decide) ?_
 walk_at "wx"
 try any_goals (show _ ≤ sizeLine; simp only [List.length_append, lowN, zqy, List.length_cons, List.length_nil, lr]; omega)
 refine sp_l_low (x := p) (w := 4) rfl (by decide) ?_
 walk_at "wx"
 try any_goals (show _ ≤ sizeLine; simp only [List.length_append, lowN, zqy, List.length_cons, List.length_nil, lr]; omega)
 refine sp_octets (by omega) ?_
 walk_at "wx"
 try any_goals (show _ ≤ sizeLine; simp only [List.length_append, lowN, zqy, List.length_cons, List.length_nil, List.length_map, Crc.low_length, shB_len]; omega)
 refine sp_octets (by omega) ?_
 walk_at "wx"
 try any_goals (show _ ≤ sizeLine; simp only [List.length_append, lowN, zqy, List.length_cons, List.length_nil, List.length_map, Crc.low_length, shB_len]; omega)
 have e0 : [DV.int 80, DV.int 75, DV.int 1, DV.int 2] = nL [80, 75, 1, 2] := rfl
 rw [e0]
 simp only [nL_app]
 exact h
theorem sp_l_end {many wide spot : Nat} {note : List Nat} {a b c : Int} (ha : a = (many : Nat)) (hb : b = (wide : Nat)) (hc : c = (spot : Nat)) (hn : note.length ≤ 100) {d : DrawSt} {q : QF} {E : EK} (h : q (.lst (nL (endB many wide spot note))) .new [.draw d]) : XF F_12 [.int a, .int b, .int c, .str (S note)] [.draw d] q E := by
 subst ha hb hc
 unfold F_12
 refine zqB rfl ?_
 unfold sv_12
 walk_at "wx"
 refine sp_l_low (x := 0) (w := 4) rfl (by decide) ?_
 walk_at "wx"
 try any_goals (show _ ≤ sizeLine; simp only [List.length_append, lowN, zqy, List.length_cons, List.length_nil]; omega)
 refine sp_l_low (x := many) (w := 2) rfl (by decide) ?_
 walk_at "wx"
 try any_goals (show _ ≤ sizeLine; simp only [List.length_append, lowN, zqy, List.length_cons, List.length_nil]; omega)
 refine sp_l_low (x := many) (w := 2) rfl (by decide) ?_
 walk_at "wx"
 try any_goals (show _ ≤ sizeLine; simp only [List.length_append, lowN, zqy, List.length_cons, List.length_nil]; omega)
 refine sp_l_low (x := wide) (w := 4) rfl (by decide) ?_
 walk_at "wx"
 try any_goals (show _ ≤ sizeLine; simp only [List.length_append, lowN, zqy, List.length_cons, List.length_nil]; omega)
 refine sp_l_low (x := spot) (w := 4) rfl (by decide) ?_
 walk_at "wx"
 try any_goals (show _ ≤ sizeLine; simp only [List.length_append, lowN, zqy, List.length_cons, List.length_nil]; omega)
 refine x_wo (len_S (by omega)) ?_
 walk_at "wx"
 refine sp_l_low (x := note.length) (w := 2) rfl (by decide) ?_
 walk_at "wx"
 try any_goals (show _ ≤ sizeLine; simp only [List.length_append, lowN, zqy, List.length_cons, List.length_nil]; omega)
 refine sp_octets (by omega) ?_
 walk_at "wx"
 try any_goals (show _ ≤ sizeLine; simp only [List.length_append, lowN, zqy, List.length_cons, List.length_nil, List.length_map, Crc.low_length, shB_len]; omega)
 have e0 : [DV.int 80, DV.int 75, DV.int 5, DV.int 6] = nL [80, 75, 5, 6] := rfl
 rw [e0]
 simp only [nL_app]
 exact h
theorem S_inj {a b : List Nat} (h : S a = S b) : a = b := by
 have := congrArg (fun s : Str => s.cps.toList) h
 simpa [S, SX.S] using this
theorem ixL {ds : List DV} {i : Nat} {x : DV} (h : ds[i]? = some x) : dIx (.lst ds) (.int (i : Nat)) = some (x, .fro) := by
 show (ixD (.lst _) (.int _)).map _ = _
 simp only [ixD, atI_nat h, Option.map_some]
theorem SG_ok : ∀ c ∈ SG.cps.toList, okN c = true := by decide +kernel
theorem SG_len : SG.length = 94 := by decide +kernel
theorem sp_pick_str {s : Str} {d : DrawSt} {n : Nat} {q : QF} {E : EK} (ok : zqo d (n + 1)) (hne : 0 < s.length) (hl : s.length ≤ sizeLine) (h : ∀ c d', c ∈ s.cps.toList → zqo d' n → q (.str ⟨#[c]⟩) .new [.draw d']) : XF F_0w [.cel 0, .str s] [.draw d] q E := by
 obtain ⟨c, d', hc, e, ok'⟩ := pick_str hne hl ok
 exact XF_run e (h c d' hc ok')
theorem chars_of : ∀ {ys : List DV}, (∀ y ∈ ys, ∃ c : Nat, y = .str ⟨#[c]⟩ ∧ okN c = true) → ∃ l : List Nat, ys = (l.map fun c => DV.str ⟨#[c]⟩) ∧ l.all okN = true
 | [], _ => ⟨[], rfl, rfl⟩
 | y :: ys, h => by
  obtain ⟨c, rfl, hc⟩ := h y (by simp)
  obtain ⟨l, rfl, h2⟩ := chars_of (ys := ys) fun z hz => h z (List.mem_cons_of_mem _ hz)
  exact ⟨c :: l, rfl, by rw [List.all_cons, hc, h2]; rfl⟩
theorem pigeon {α : Type} [DecidableEq α] : ∀ (xs fs : List α), xs.Nodup → fs.length < xs.length → ∃ x ∈ xs, x ∉ fs := fun xs => by
 induction xs with
 | nil => intro fs _ h; simp at h
 | cons x xs ih =>
  intro fs hn hl
  by_cases hx : x ∈ fs
  · rw [List.nodup_cons] at hn
    have hl2 : (fs.erase x).length < xs.length := by
     rw [List.length_erase_of_mem hx]
     rw [List.length_cons] at hl
     have := List.length_pos_of_mem hx
     omega
    obtain ⟨y, hy, hf⟩ := ih (fs.erase x) hn.2 hl2
    refine ⟨y, List.mem_cons_of_mem _ hy, fun hm => hf ?_⟩
    have hne : y ≠ x := fun e => hn.1 (e ▸ hy)
    exact (List.mem_erase_of_ne hne).mpr hm
  · exact ⟨x, List.mem_cons_self, hx⟩
abbrev TS : Str := "abcdefghijklmnopqrstuvwxyzPK01"
def sD (l : List Nat) : DV := .str (S l)
theorem titles_word {pl : Str} {N n : Nat} {F : List DV} {s4 s6 s8 : D.Slot} {d : DrawSt} {k : Nat} {q : QE} {E : EK} (hn : n ≤ 22) (hp0 : 0 < pl.length) (hp1 : pl.length ≤ sizeLine) (hp : ∀ c ∈ pl.cps.toList, okN c = true) (ok : zqo d (k + 22))
 (hq : ∀ (l : List Nat) d', l.all okN = true → l.length ≤ 22 → zqo d' k → q (.lst (l.map fun c => DV.str ⟨#[c]⟩)) .new ⟨[some (.cel 0, false), some (.int (N : Nat), false), some (.lst F, true), some (.str pl, false), s4, some (.int (n : Nat), false), s6, none, s8, none, none], [.draw d']⟩) :
 XE (e_0j_1 ⟨[some (.cel 0, false), some (.int (N : Nat), false), some (.lst F, true), some (.str pl, false), s4, some (.int (n : Nat), false), s6, none, s8, none, none], [.draw d]⟩) q E := by
 unfold e_0j_1
 refine x_we_lc ?_
 walk_at "wx"
 refine ⟨by omega, by rw [zqy]; simp [rangeL]; omega, ?_⟩
 refine x_wl_inv (fun j st => ∃ d, st = ⟨[some (.cel 0, false), some (.int (N : Nat), false), some (.lst F, true), some (.str pl, false), s4, some (.int (n : Nat), false), s6, none, s8, none, none], [.draw d]⟩ ∧ zqo d (k + j)) (fun y => ∃ c : Nat, y = .str ⟨#[c]⟩ ∧ okN c = true) _ _ ⟨d, rfl, ok.mono (by simp [rangeL]; omega)⟩ (fun y j st _ ⟨d3, e, ok3⟩ => ?_) fun ys st hl hy ⟨d3, e, ok3⟩ => ?_
 · subst e
   walk_at "wx"
   refine sp_pick_str (n := k + j) ok3 hp0 hp1 fun c d4 hc ok4 => ?_
   walk_at "wx"
   exact ⟨⟨c, rfl, hp c hc⟩, d4, rfl, ok4⟩
 · subst e
   obtain ⟨l, rfl, hl2⟩ := chars_of hy
   refine hq l d3 hl2 ?_ (by simpa using ok3)
   simp [rangeL] at hl
   omega
def apV (w : List Nat) : DV → DV
 | .str s => .str (S (w.take 23 ++ s.cps.toList))
 | _ => .non
def freeV (ls : List (List Nat)) (x : DV) : Option DV := if ((ls.map sD).any fun d => eqF d x) = true then none else some x
theorem any_sD (z : List Nat) : ∀ ls : List (List Nat), ((ls.map sD).any fun d => eqF d (sD z)) = decide (z ∈ ls)
 | [] => by simp
 | l :: ls => by
  rw [List.map_cons, List.any_cons, any_sD z ls]
  have e : eqF (sD l) (sD z) = decide (l = z) := by
   show (S l == S z) = _
   exact SX.S_beq_eq
  rw [e, Bool.eq_iff_iff]
  rw [Bool.or_eq_true, decide_eq_true_eq, decide_eq_true_eq, decide_eq_true_eq, List.mem_cons]
  exact ⟨fun h => h.elim (fun e => .inl e.symm) .inr, fun h => h.elim (fun e => .inl e.symm) .inr⟩
theorem notIn_sD {z : List Nat} {ls : List (List Nat)} : dNotIn (sD z) (.lst (ls.map sD)) = some (.bl (!decide (z ∈ ls)), .new) := by
 have h4 : (flat4 (sD z) && (ls.map sD).all flat4) = true := by
  rw [Bool.and_eq_true, List.all_eq_true]
  refine ⟨rfl, fun x hx => ?_⟩
  obtain ⟨l, _, rfl⟩ := List.mem_map.mp hx
  rfl
 have : inD (sD z) (.lst (ls.map sD)) = some (decide (z ∈ ls)) := by
  show (if (flat4 (sD z) && (ls.map sD).all flat4) = true then some _ else _) = _
  rw [if_pos h4]
  exact congrArg some (any_sD z ls)
 unfold dNotIn
 rw [this]
 rfl
theorem nodup_snoc {α : Type} {ls : List α} {z : α} (h : ls.Nodup) (hz : z ∉ ls) : (ls ++ [z]).Nodup := by
 unfold List.Nodup at h ⊢
 rw [List.pairwise_append]
 exact ⟨h, List.pairwise_singleton _ _, fun a ha b hb e => hz (by rw [List.mem_singleton.mp hb] at e; exact e ▸ ha)⟩
theorem titles_tail {pl : Str} {N : Nat} {w : List Nat} {ls : List (List Nat)} {s4 s5 s8 : D.Slot} {d : DrawSt} {nx bk ct : DS → Prop} {rt : QE} {E : EK} (hw : w.all okN = true) (hwl : w.length ≤ 24) (hls : ls.length ≤ 29) (hnd : ls.Nodup) (hl24 : ∀ l ∈ ls, l.all okN = true ∧ 1 ≤ l.length ∧ l.length ≤ 24)
 (h : ∀ (z : List Nat) s8, z.all okN = true → 1 ≤ z.length → z.length ≤ 24 → (ls ++ [z]).Nodup → nx ⟨[some (.cel 0, false), some (.int (N : Nat), false), some (.lst ((ls ++ [z]).map sD), true), some (.str pl, false), s4, s5, some (.str (S w), false), none, s8, none, none], [.draw d]⟩) :
 XS (u1_0j_2 ⟨[some (.cel 0, false), some (.int (N : Nat), false), some (.lst (ls.map sD), true), some (.str pl, false), s4, s5, some (.str (S w), false), none, s8, none, none], [.draw d]⟩) ⟨nx, bk, ct, rt⟩ E := by
 have ec : cutS (S w) none (some 23) = S (w.take 23) := (C8.cutS_slice _ _ _).trans (SX.slice_to (i := 23) (by decide))
 unfold u1_0j_2 u1_0j_3 u1_0j_4 e_0j_2
 walk_at "wx"
 refine x_we_lc ?_
 walk_at "wx"
 refine x_wl_fm (fun x => some (apV w x)) _ _ [] (fun x hx => ?_) ?_
 · obtain ⟨c, hc, rfl⟩ := List.mem_map.mp hx
   have hS : (S w).length ≤ sizeLine := by rw [SX.S_len, zqy]; omega
   walk_at "wx"
   refine x_wo (a := .str (S (w.take 23))) (kd := .new) (by show (if _ then _ else _) = _; rw [if_pos hS, ec]) ?_
   walk_at "wx"
   · show (S (w.take 23)).length + 1 ≤ _
     rw [SX.S_len, zqy, List.length_take]
     omega
   · exact ⟨by rw [show S (w.take 23) ++ (⟨#[c]⟩ : Str) = S (w.take 23 ++ [c]) from SX.S_cat _ [c]]; rfl, rfl⟩
 have eT : (strItems TS).filterMap (fun x => some (apV w x)) = (TS.cps.toList.map fun c => w.take 23 ++ [c]).map sD := by
  unfold strItems
  generalize TS.cps.toList = cs
  induction cs with
  | nil => rfl
  | cons c cs ih =>
   rw [List.map_cons, List.filterMap_cons, List.map_cons, List.map_cons]
   simp only []
   rw [ih]
   rfl
 have hT30 : TS.cps.toList.length = 30 := by decide
 rw [List.nil_append, eT]
 generalize hR : (TS.cps.toList.map fun c => w.take 23 ++ [c]) = R
 have hRl : R.length = 30 := by rw [← hR, List.length_map, hT30]
 have hRz : ∀ z ∈ R, z.all okN = true ∧ 1 ≤ z.length ∧ z.length ≤ 24 := fun z hz => by
  rw [← hR] at hz
  obtain ⟨c, hc, rfl⟩ := List.mem_map.mp hz
  have h1 : ∀ c ∈ TS.cps.toList, okN c = true := by decide
  refine ⟨?_, ?_⟩
  · rw [List.all_append, List.all_cons, h1 c hc]
    rw [List.all_eq_true] at hw
    rw [Bool.and_eq_true, List.all_eq_true]
    exact ⟨fun x hx => hw x (List.mem_of_mem_take hx), rfl⟩
  · rw [List.length_append, List.length_take, List.length_singleton]
    omega
 have hRn : R.Nodup := by
  rw [← hR]
  have h0 : TS.cps.toList.Nodup := by decide
  unfold List.Nodup at h0 ⊢
  rw [List.pairwise_map]
  exact h0.imp fun hne e => hne (by simpa using e)
 have hRs : (R.map sD).length ≤ 30 := by rw [List.length_map, hRl]; exact Nat.le_refl _
 clear eT
 walk_at "wx"
 have e1 : (List.replicate (if (!decide (S w = Str.ofString "")) = true then (1 : Int) else 0).toNat [DV.str (S w)]).flatten ++ List.map sD R = ((if w = [] then [] else [w]) ++ R).map sD := by
  by_cases h0 : w = []
  · subst h0
    rfl
  · have hd : decide (S w = Str.ofString "") = false := decide_eq_false (fun e => h0 (SX.S_inj (b := []) e))
    rw [if_neg h0, hd]
    rfl
 rw [e1]
 generalize hT : (if w = [] then [] else [w]) ++ R = T
 have hTz : ∀ z ∈ T, z.all okN = true ∧ 1 ≤ z.length ∧ z.length ≤ 24 := fun z hz => by
  rw [← hT] at hz
  rcases List.mem_append.mp hz with hz | hz
  · split at hz
    · cases hz
    · rename_i hne
      rw [List.mem_singleton.mp hz]
      exact ⟨hw, Nat.pos_of_ne_zero (fun e => hne (List.length_eq_zero_iff.mp e)), hwl⟩
  · exact hRz z hz
 obtain ⟨z0, hz0, hf0⟩ := pigeon R ls hRn (by omega)
 have hz0T : z0 ∈ T := by rw [← hT]; exact List.mem_append_right _ hz0
 have hTl : T.length ≤ 31 := by
  rw [← hT, List.length_append, hRl]
  split <;> simp
 have hTs : (T.map sD).length ≤ 31 := by rw [List.length_map]; exact hTl
 have hLs : (ls.map sD).length ≤ 29 := by rw [List.length_map]; exact hls
 unfold e_0j_3
 refine x_we_lc ?_
 walk_at "wx"
 refine x_wl_fm (freeV ls) _ _ [] (fun x hx => ?_) ?_
 · obtain ⟨z, hz, rfl⟩ := List.mem_map.mp hx
   rw [show sD z = .str (S z) from rfl]
   walk_at "wx"
   refine x_wo (notIn_sD (z := z)) ?_
   unfold freeV
   rw [show DV.str (S z) = sD z from rfl, any_sD]
   by_cases hf : z ∈ ls
   · rw [decide_eq_true hf]
     walk_at "wx"
     exact ⟨if_pos rfl, rfl⟩
   · rw [decide_eq_false hf]
     walk_at "wx"
     exact ⟨if_neg (by decide), rfl⟩
 · have ef : ∀ ts : List (List Nat), (ts.map sD).filterMap (freeV ls) = (ts.filter fun t => !decide (t ∈ ls)).map sD := fun ts => by
    induction ts with
    | nil => rfl
    | cons t ts ih =>
     rw [List.map_cons, List.filterMap_cons, List.filter_cons]
     unfold freeV at ih ⊢
     rw [any_sD]
     by_cases hf : t ∈ ls
     · rw [if_pos (decide_eq_true hf), decide_eq_true hf]
       exact ih
     · rw [decide_eq_false hf]
       simp only [Bool.false_eq_true, if_false, Bool.not_false, if_true]
       rw [ih]
       rfl
   rw [List.nil_append, ef]
   have hm : z0 ∈ T.filter fun t => !decide (t ∈ ls) := List.mem_filter.mpr ⟨hz0T, by rw [decide_eq_false hf0]; rfl⟩
   have hin : ∀ z ∈ T.filter (fun t => !decide (t ∈ ls)), z ∈ T ∧ z ∉ ls := fun z hz => ⟨(List.mem_filter.mp hz).1, by have := (List.mem_filter.mp hz).2; simpa using this⟩
   generalize (T.filter fun t => !decide (t ∈ ls)) = G at *
   cases G with
   | nil => cases hm
   | cons z G =>
    have hz := hTz z (hin z List.mem_cons_self).1
    have hzn := (hin z List.mem_cons_self).2
    have hh := h z
    rw [List.map_append] at hh
    rw [List.map_cons]
    walk_at "wx"
    refine x_wo (ixL (ds := sD z :: G.map sD) (i := 0) (x := sD z) rfl) ?_
    rw [show sD z = .str (S z) from rfl]
    walk_at "wx"
    exact hh _ hz.1 hz.2.1 hz.2.2 (nodup_snoc hnd hzn)
theorem sp_titles {N : Nat} (hN : N ≤ 30) {z : Int} (hz : z = (N : Nat)) {d : DrawSt} {k : Nat} {q : QF} {E : EK} (ok : zqo d (k + 1 + 24 * N)) (h : ∀ (ls : List (List Nat)) d', (∀ l ∈ ls, l.all okN = true ∧ 1 ≤ l.length ∧ l.length ≤ 24) → ls.Nodup → ls.length = N → zqo d' k → q (.lst (ls.map sD)) .new [.draw d']) : XF F_0j [.cel 0, .int z] [.draw d] q E := by
 subst hz
 unfold F_0j
 refine zqB rfl ?_
 unfold sv_0j t_0j_1 t_0j_2 t_0j_3
 walk_at "wx"
 refine sp_signs ?_
 walk_at "wx"
 refine sp_pick (n := k + 24 * N) (ok.mono (by omega)) (by simp) (by simp) fun x d1 hx ok1 => ?_
 obtain ⟨pl, rfl, hp0, hp1, hp⟩ : ∃ s : Str, x = .str s ∧ 0 < s.length ∧ s.length ≤ sizeLine ∧ ∀ c ∈ s.cps.toList, okN c = true := by
  simp only [List.mem_cons, List.not_mem_nil, or_false] at hx
  rcases hx with rfl | rfl | rfl
  · exact ⟨_, rfl, by decide, by decide, by decide⟩
  · exact ⟨_, rfl, by decide, by decide, by decide⟩
  · exact ⟨_, rfl, by rw [SG_len]; decide, by rw [SG_len]; decide, SG_ok⟩
 clear hx
 walk_at "wx"
 refine ⟨by omega, ?_⟩
 refine x_wfor (fun r st => ∃ (d : DrawSt) (ls : List (List Nat)) (s4 s5 s6 s8 : D.Slot), st = ⟨[some (.cel 0, false), some (.int (N : Nat), false), some (.lst (ls.map sD), true), some (.str pl, false), s4, s5, s6, none, s8, none, none], [.draw d]⟩ ∧ (∀ l ∈ ls, l.all okN = true ∧ 1 ≤ l.length ∧ l.length ≤ 24) ∧ ls.Nodup ∧ ls.length + r.length = N ∧ zqo d (k + 24 * r.length)) _ _ ⟨d1, [], none, none, none, none, rfl, by simp, List.nodup_nil, by simp [rangeL], by simpa [rangeL] using ok1⟩ ?_ ?_
 · rintro y r st ⟨d2, ls, s4, s5, s6, s8, rfl, hls, hnd, hlen, ok2⟩
   rw [List.length_cons] at ok2 hlen
   unfold b_0j_8
   walk_at "wx"
   refine sp_pick (n := k + 24 * r.length + 23) (ok2.mono (by omega)) (by simp) (by simp) fun x d3 hx ok3 => ?_
   obtain ⟨n, rfl, hn⟩ : ∃ n : Nat, x = .int (n : Nat) ∧ n ≤ 22 := by
    simp only [List.mem_cons, List.not_mem_nil, or_false] at hx
    rcases hx with rfl | rfl | rfl | rfl | rfl | rfl | rfl
    · exact ⟨0, rfl, by decide⟩
    · exact ⟨1, rfl, by decide⟩
    · exact ⟨2, rfl, by decide⟩
    · exact ⟨3, rfl, by decide⟩
    · exact ⟨5, rfl, by decide⟩
    · exact ⟨8, rfl, by decide⟩
    · exact ⟨22, rfl, by decide⟩
   clear hx
   walk_at "wx"
   unfold u1_0j_1
   walk_at "wx"
   refine titles_word (k := k + 24 * r.length + 1) hn hp0 hp1 hp (ok3.mono (by omega)) fun l d4 hl1 hl2 ok4 => ?_
   walk_at "wx"
   refine x_join (by omega) ?_
   walk_at "wx"
   refine sp_pick (n := k + 24 * r.length) ok4 (by simp) (by simp) fun x d5 hx ok5 => ?_
   obtain ⟨w, rfl, hw, hwl⟩ : ∃ w : List Nat, x = sD w ∧ w.all okN = true ∧ w.length ≤ 2 := by
    simp only [List.mem_cons, List.not_mem_nil, or_false] at hx
    rcases hx with rfl | rfl | rfl
    · exact ⟨[], rfl, rfl, by decide⟩
    · exact ⟨[], rfl, rfl, by decide⟩
    · exact ⟨[80, 75], rfl, by decide, by decide⟩
   clear hx
   have lsD : (ls.map sD).length ≤ 29 := by rw [List.length_map]; omega
   rw [show sD w = .str (S w) from rfl]
   walk_at "wx"
   · rw [SX.S_len, SX.S_len, zqy]
     omega
   rw [show S l ++ S w = S (l ++ w) from SX.S_cat l w]
   refine titles_tail (by rw [List.all_append, hl1, hw]; rfl) (by rw [List.length_append]; omega) (by omega) hnd hls fun z s8 hz hz1 hz24 hnd2 => ?_
   refine ⟨d5, ls ++ [z], _, _, _, s8, rfl, fun m hm => ?_, hnd2, by rw [List.length_append, List.length_singleton]; omega, ok5⟩
   rcases List.mem_append.mp hm with hm | hm
   · exact hls m hm
   · rw [List.mem_singleton.mp hm]
     exact ⟨hz, hz1, hz24⟩
 · rintro st ⟨d2, ls, s4, s5, s6, s8, rfl, hls, hnd, hlen, ok2⟩
   walk_at "wx"
   exact h ls d2 hls hnd (by simpa using hlen) (by simpa using ok2)
theorem sp_moment {d : DrawSt} {k : Nat} {q : QF} {E : EK} (ok : zqo d (k + 7)) (h : ∀ (y m dd hh n s : Nat) d', TimeI y m dd hh n s → zqo d' k → q (.tup [.int (y : Nat), .int (m : Nat), .int (dd : Nat), .int (hh : Nat), .int (n : Nat), .int (s : Nat)]) .fro [.draw d']) : XF F_0f [.cel 0] [.draw d] q E := by
 unfold F_0f
 refine zqB rfl ?_
 unfold sv_0f t_0f_1 t_0f_2
 walk_at "wx"
 refine sp_next (n := k + 6) ok (by decide) (by decide) fun r d1 kd r0 r1 ok1 => ?_
 walk_at "wx"
 refine IfK.dec (fun h1 => ?_) (fun h1 => ?_)
 · walk_at "wx"
   refine sp_pick (n := k + 5) ok1 (by simp) (by simp) fun x d2 hx ok2 => ?_
   simp only [List.mem_cons, List.not_mem_nil, or_false] at hx
   rcases hx with rfl | rfl | rfl
   · walk_at "wx"
     exact h 2017 10 16 9 26 32 d2 (timeD_tD.mp (by decide)) (ok2.mono (by omega))
   · walk_at "wx"
     exact h 1982 10 11 10 0 0 d2 (timeD_tD.mp (by decide)) (ok2.mono (by omega))
   · walk_at "wx"
     exact h 2107 12 31 23 59 58 d2 (timeD_tD.mp (by decide)) (ok2.mono (by omega))
 · walk_at "wx"
   refine sp_next (n := k + 5) ok1 (by decide) (by decide) fun r d1 kd y0 y1 ok1 => ?_
   obtain ⟨y, rfl, hy⟩ := nat_of (m := 128) y0 y1
   walk_at "wx"
   refine sp_next (n := k + 4) ok1 (by decide) (by decide) fun r d1 kd y0 y1 ok1 => ?_
   obtain ⟨m, rfl, hm⟩ := nat_of (m := 12) y0 y1
   walk_at "wx"
   refine sp_next (n := k + 3) ok1 (by decide) (by decide) fun r d1 kd y0 y1 ok1 => ?_
   obtain ⟨dd, rfl, hdd⟩ := nat_of (m := 28) y0 y1
   walk_at "wx"
   refine sp_next (n := k + 2) ok1 (by decide) (by decide) fun r d1 kd y0 y1 ok1 => ?_
   obtain ⟨hh, rfl, hhh⟩ := nat_of (m := 24) y0 y1
   walk_at "wx"
   refine sp_next (n := k + 1) ok1 (by decide) (by decide) fun r d1 kd y0 y1 ok1 => ?_
   obtain ⟨n, rfl, hn⟩ := nat_of (m := 60) y0 y1
   walk_at "wx"
   refine sp_next (n := k) ok1 (by decide) (by decide) fun r d1 kd y0 y1 ok1 => ?_
   obtain ⟨s, rfl, hs⟩ := nat_of (m := 30) y0 y1
   walk_at "wx"
   have e := h (1980 + y) (1 + m) (1 + dd) hh n (2 * s) d1 ⟨by omega, by omega, ⟨by omega, by unfold daysI; split <;> (try split) <;> omega⟩, by omega, by omega, by omega, by omega⟩ ok1
   rw [show ((1980 + y : Nat) : Int) = 1980 + (y : Nat) by omega, show ((1 + m : Nat) : Int) = 1 + (m : Nat) by omega, show ((1 + dd : Nat) : Int) = 1 + (dd : Nat) by omega, show ((2 * s : Nat) : Int) = 2 * (s : Nat) by omega] at e
   exact e
theorem sp_note {d : DrawSt} {k : Nat} {q : QF} {E : EK} (ok : zqo d (k + 41)) (h : ∀ l d', l.all okN = true → l.length ≤ 40 → zqo d' k → q (.str (S l)) .new [.draw d']) : XF F_0v [.cel 0] [.draw d] q E := by
 unfold F_0v
 refine zqB rfl ?_
 unfold sv_0v
 walk_at "wx"
 refine sp_signs ?_
 walk_at "wx"
 refine sp_pick (n := k + 40) ok (by simp) (by simp) fun x d2 hx ok2 => ?_
 obtain ⟨n, rfl, hn⟩ : ∃ n : Nat, x = .int (n : Nat) ∧ n ≤ 40 := by
  simp only [List.mem_cons, List.not_mem_nil, or_false] at hx
  rcases hx with rfl | rfl | rfl | rfl | rfl | rfl | rfl
  · exact ⟨0, rfl, by decide⟩
  · exact ⟨0, rfl, by decide⟩
  · exact ⟨0, rfl, by decide⟩
  · exact ⟨1, rfl, by decide⟩
  · exact ⟨2, rfl, by decide⟩
  · exact ⟨5, rfl, by decide⟩
  · exact ⟨40, rfl, by decide⟩
 clear hx
 have key : ∀ {q : QE}, (∀ (l : List Nat) d', l.all okN = true → l.length ≤ 40 → zqo d' k → q (.lst (l.map fun c => DV.str ⟨#[c]⟩)) .new ⟨[some (.cel 0, false), some (.str SG, false), some (.int (n : Nat), false), none], [.draw d']⟩) → XE (e_0v_1 ⟨[some (.cel 0, false), some (.str SG, false), some (.int (n : Nat), false), none], [.draw d2]⟩) q E := fun {q} hq => by
  unfold e_0v_1
  refine x_we_lc ?_
  walk_at "wx"
  refine ⟨by omega, by rw [zqy]; simp [rangeL]; omega, ?_⟩
  refine x_wl_inv (fun j st => ∃ d, st = ⟨[some (.cel 0, false), some (.str SG, false), some (.int (n : Nat), false), none], [.draw d]⟩ ∧ zqo d (k + j)) (fun y => ∃ c : Nat, y = .str ⟨#[c]⟩ ∧ okN c = true) _ _ ⟨d2, rfl, ok2.mono (by simp [rangeL]; omega)⟩ (fun y j st _ ⟨d3, e, ok3⟩ => ?_) fun ys st hl hy ⟨d3, e, ok3⟩ => ?_
  · subst e
    walk_at "wx"
    refine sp_pick_str (n := k + j) ok3 (by rw [SG_len]; decide) (by rw [SG_len]; decide) fun c d4 hc ok4 => ?_
    walk_at "wx"
    exact ⟨⟨c, rfl, SG_ok c hc⟩, d4, rfl, ok4⟩
  · subst e
    obtain ⟨l, rfl, hl2⟩ := chars_of hy
    refine hq l d3 hl2 ?_ (by simpa using ok3)
    simp [rangeL] at hl
    omega
 generalize e_0v_1 = X at key ⊢
 walk_at "wx"
 refine key fun l d3 hl1 hl2 ok3 => ?_
 walk_at "wx"
 refine x_join (by omega) ?_
 exact h l d3 hl1 hl2 ok3
theorem sp_entry {l : List Nat} {many : Nat} {z : Int} (hz : z = (many : Nat)) (hm : many ≤ 2000) {d : DrawSt} {k : Nat} {q : QF} {E : EK} (ok : zqo d (k + 50 + 2 * many)) (h : ∀ (e : Ent) d', e.l = l → Crc.okB e.data → e.data.length ≤ many → TimeI e.y e.m e.dd e.hh e.n e.s → e.nt.all okN = true → e.nt.length ≤ 40 → zqo d' k → q (entD e) .new [.draw d']) : XF F_0q [.cel 0, .str (S l), .int z] [.draw d] q E := by
 subst hz
 unfold F_0q
 refine zqB rfl ?_
 unfold sv_0q
 walk_at "wx"
 refine sp_next (n := k + 49 + 2 * many) (ok.mono (by omega)) (by decide) (by decide) fun r d1 kd r0 r1 ok1 => ?_
 walk_at "wx"
 refine sp_l_some (m := many) (n := k + 48) (ok1.mono (by omega)) (by omega) fun data d2 hd ld ok2 => ?_
 walk_at "wx"
 refine sp_moment (k := k + 41) (ok2.mono (by omega)) fun y m dd hh n s d3 ht ok3 => ?_
 walk_at "wx"
 refine sp_note (k := k) (ok3.mono (by omega)) fun nt d4 hn ln ok4 => ?_
 walk_at "wx"
 exact h ⟨l, data, y, m, dd, hh, n, s, nt⟩ d4 rfl hd ld ht hn ln ok4
structure RI where
 l : List Nat
 lo : Nat
 hi : Nat
 c : Nat
 z : Nat
 e : Nat
structure WI where
 l : List Nat
 lo : Nat
 hi : Nat
 c : Nat
 z : Nat
 p : Nat
 m : List Nat
 e : Nat
structure RI.Ok (r : RI) (i : Nat) : Prop where
 lo : r.lo < 65536
 hi : r.hi < 65536
 c : r.c < 2 ^ 32
 z : r.z ≤ 1500
 l : r.l.all okN = true
 l1 : r.l.length ≤ 24
 e : i + 30 ≤ r.e
structure WI.Ok (r : WI) (i u : Nat) : Prop where
 lo : r.lo < 65536
 hi : r.hi < 65536
 c : r.c < 2 ^ 32
 z : r.z ≤ 1500
 p : r.p < 2 ^ 32
 l : r.l.all okN = true
 l1 : r.l.length ≤ 24
 m : r.m.all okN = true
 m1 : r.m.length ≤ 40
 e : i + 46 ≤ r.e
 u : r.e ≤ u
theorem okN_B {l : List Nat} (h : l.all okN = true) : Crc.okB l := fun x hx => by
 have := (okN_lt (List.all_eq_true.mp h x hx)).1
 omega
structure Ent.Gd (e : Ent) : Prop where
 l0 : e.l.all okN = true
 l1 : 1 ≤ e.l.length
 l2 : e.l.length ≤ 24
 d0 : Crc.okB e.data
 d1 : e.data.length ≤ 1500
 t : TimeI e.y e.m e.dd e.hh e.n e.s
 n0 : e.nt.all okN = true
 n1 : e.nt.length ≤ 40
theorem Ent.Gd.ok {e : Ent} (h : e.Gd) : e.Ok := by
 have t := h.t
 have := t.iy
 have := t.im
 have := t.id
 have := t.ih
 have := t.im'
 have := t.is
 have hd : daysI e.y e.m ≤ 31 := by unfold daysI; split <;> (try split) <;> omega
 have := h.l2
 have := h.d1
 have := h.n1
 exact ⟨by omega, okN_B h.l0, by omega, h.d0, by omega, by omega, by omega, okN_B h.n0⟩
theorem crc_lt (bs : List Nat) (h : Crc.okB bs) : Crc.crc bs < 256 ^ 4 := Nat.lt_of_lt_of_le (Crc.crc_lt h) (by decide)
theorem cut_hi {α : Type} {xs : List α} {m : Nat} : cutL xs none (some (m : Int)) = xs.take m := by
 unfold cutL
 rw [HT.sIx_nat, show HT.sIx xs.length 0 none = 0 from rfl, List.drop_zero, Nat.sub_zero]
 by_cases h : m ≤ xs.length
 · rw [Nat.min_eq_left h]
 · rw [Nat.min_eq_right (by omega), List.take_of_length_le (Nat.le_refl _), List.take_of_length_le (by omega)]
theorem safe_nL {bs : List Nat} : safeR (.lst (nL bs), .new) = true := by
 show (false || (nL bs).all D.flat) = true
 rw [Bool.false_or, List.all_eq_true]
 intro x hx
 obtain ⟨b, _, rfl⟩ := nL_mem hx
 rfl
theorem wl_fmB {β : Type} {vs : List Nat} {gv : Gv} {t : Tv} {fe : Ev} {q : List DV → DS → Prop} (f : β → DV) (g : β → Option DV) (st : DS) (es : List β) (acc : List DV) (hb : ∀ e ∈ es, WG (gv (f e) (st.wipe vs)) fun st1 => WT (t st1) (fun c st2 => IfK c (WE' (fe st2) (fun a kd st3 => g e = some a ∧ st.back (st3.eat kd) vs = st) noX) (g e = none ∧ st.back st2 vs = st)) noX) (hq : q (acc ++ es.filterMap g) st) : WL (lcGo vs gv t fe (es.map f) acc st) q :=
 wlc (fun r acc' st' => st' = st ∧ ∃ es' : List β, r = es'.map f ∧ (∀ e ∈ es', WG (gv (f e) (st.wipe vs)) fun st1 => WT (t st1) (fun c st2 => IfK c (WE' (fe st2) (fun a kd st3 => g e = some a ∧ st.back (st3.eat kd) vs = st) noX) (g e = none ∧ st.back st2 vs = st)) noX) ∧ acc' ++ es'.filterMap g = acc ++ es.filterMap g) (es.map f) acc st ⟨rfl, es, rfl, hb, rfl⟩
  (fun d r acc' st' ⟨e1, es', e2, e3, e4⟩ => by
   subst e1
   cases es' with
   | nil => cases e2
   | cons z es' =>
    injection e2 with e5 e6
    subst e5
    have hd := e3 z (by simp)
    revert hd
    generalize gv (f z) (st'.wipe vs) = o
    intro hd
    cases o with
    | none => exact hd
    | some st1 =>
     have hd : WT (t st1) _ noX := hd
     show WT (t st1) _ noX
     refine W.imp hd fun c st2 h => ?_
     cases c with
     | false =>
      obtain ⟨h1, h2⟩ := (h : g z = none ∧ _)
      refine ⟨h2, es', e6, fun x hx => e3 x (by simp [hx]), ?_⟩
      rw [← e4, List.filterMap_cons, h1]
     | true =>
      have h : WE' (fe st2) (fun a kd st3 => g z = some a ∧ st'.back (st3.eat kd) vs = st') noX := h
      refine W.imp h fun a st3 h => ?_
      obtain ⟨h1, h2⟩ := h
      refine ⟨h2, es', e6, fun x hx => e3 x (by simp [hx]), ?_⟩
      rw [← e4, List.filterMap_cons, h1]
      simp)
  (fun acc' st' ⟨e1, es', e2, _, e4⟩ => by
   subst e1
   cases es' with
   | cons z es' => cases e2
   | nil => rw [List.filterMap_nil, List.append_nil] at e4; rw [e4]; exact hq)
theorem x_wl_fmB {β : Type} {vs : List Nat} {gv : Gv} {t : Tv} {fe : Ev} {q : List DV → DS → Prop} (f : β → DV) (g : β → Option DV) (st : DS) (es : List β) (acc : List DV) (hb : ∀ e ∈ es, XG (gv (f e) (st.wipe vs)) fun st1 => XT (t st1) (fun c st2 => IfK c (XE (fe st2) (fun a kd st3 => g e = some a ∧ st.back (st3.eat kd) vs = st) noX) (g e = none ∧ st.back st2 vs = st)) noX) (hq : q (acc ++ es.filterMap g) st) : XL (lcGo vs gv t fe (es.map f) acc st) q := by with_unfolding_all exact wl_fmB f g st es acc hb hq
theorem lenS {l : List Nat} (hl : l.length ≤ 100000) : lenD (.str (S l)) = some (.int (l.length : Nat), .new) := by
 have hS : (S l).length ≤ sizeLine := by rw [SX.S_len, zqy]; omega
 have hS2 : (S l).length = l.length := SX.S_len l
 rw [hS2] at hS
 simp [lenD, hS, hS2]
theorem items_S (l : List Nat) : strItems (S l) = l.map fun c => DV.str ⟨#[c]⟩ := by
 show (S l).cps.toList.map _ = _
 rfl
theorem sp_is_text {l : List Nat} {cs : List CellC} {q : QF} {E : EK} (hl : l.length ≤ 100000) (h : q (.bl (l.all okN)) .new cs) : XF F_0o [.str (S l)] cs q E := by
 unfold F_0o
 refine zqB rfl ?_
 unfold sv_0o e_0o_1
 walk_at "wx"
 refine x_we_lc ?_
 walk_at "wx"
 refine ⟨by rw [items_S, List.length_map, zqy]; omega, ?_⟩
 rw [items_S]
 refine x_wl_fm (fun d => some (.bl (match d with | .str s => s.cps.toList.all okN | _ => false))) _ _ [] (fun d hd => ?_) ?_
 · obtain ⟨c, hc, rfl⟩ := List.mem_map.mp hd
   walk_at "wx"
   refine XF_run (printable_run _ _) ?_
   walk_at "wx"
   exact ⟨by simp [okN], rfl⟩
 · walk_at "wx"
   refine x_wo_all (bs := l.map okN) ?_ ?_
   · rw [List.nil_append, fm_map, List.map_map, List.map_map, List.map_map]
     refine List.map_congr_left fun c _ => ?_
     simp
   · rw [List.all_map]
     exact h
theorem sp_is_name {l : List Nat} {cs : List CellC} {q : QF} {E : EK} (ho : l.all okN = true) (hl : l.length ≤ 24) (h1 : 1 ≤ l.length) (h : q (.bl true) .new cs) : XF F_0n [.str (S l)] cs q E := by
 unfold F_0n
 refine zqB rfl ?_
 unfold sv_0n
 walk_at "wx"
 refine sp_is_text (by omega) ?_
 rw [ho]
 walk_at "wx"
 refine x_wo (lenS (by omega)) ?_
 refine ⟨true, by show some (DV.bl (decide _), Kd.new) = _; rw [decide_eq_true (by omega)], ?_⟩
 walk_at "wx"
 rw [decide_eq_true (by omega)]
 exact h
theorem sp_is_comment {l : List Nat} {cs : List CellC} {q : QF} {E : EK} (ho : l.all okN = true) (hl : l.length ≤ 40) (h : q (.bl true) .new cs) : XF F_09 [.str (S l)] cs q E := by
 unfold F_09
 refine zqB rfl ?_
 unfold sv_09
 walk_at "wx"
 refine sp_is_text (by omega) ?_
 rw [ho]
 walk_at "wx"
 refine x_wo (lenS (by omega)) ?_
 walk_at "wx"
 rw [decide_eq_true (by omega)]
 exact h
theorem celT_end {C : CT} {sl : List D.Slot} {cs : List CellC} {c : Nat} {f : Str} {a : DV} {nx : DS → Prop} {ns ns' : List Str} {vs vs' : List DV} (h1 : (c, f) ∈ C.fi) (h2 : ns.length < 1000) (h3 : putFD f a ns vs = (ns', vs')) (hk : nx ⟨sl, cs ++ [.obj (.ins c ns' vs')]⟩) : CelT C ⟨sl, cs ++ [.obj (.ins c ns vs)]⟩ (.cel cs.length) f a nx :=
 celT (by simp) h1 h2 h3 (by simp) hk
theorem putFD_new {f : Str} {a : DV} : ∀ {ns : List Str} {vs : List DV}, ns.contains f = false → ns.length = vs.length → putFD f a ns vs = (ns ++ [f], vs ++ [a])
 | [], [], _, _ => rfl
 | n :: ns, v :: vs, h, hl => by
  rw [List.contains_cons, Bool.or_eq_false_iff] at h
  unfold putFD
  rw [if_neg (by intro e; subst e; simp at h), putFD_new h.2 (by simpa using hl)]
  rfl
 | [], _ :: _, _, hl => by simp at hl
 | _ :: _, [], _, hl => by simp at hl
theorem celT_new {C : CT} {sl : List D.Slot} {cs : List CellC} {c : Nat} {f : Str} {a : DV} {nx : DS → Prop} {ns : List Str} {vs : List DV} (h1 : (c, f) ∈ C.fi) (h2 : ns.length < 1000) (h3 : ns.contains f = false) (h4 : ns.length = vs.length) (hk : nx ⟨sl, cs ++ [.obj (.ins c (ns ++ [f]) (vs ++ [a]))]⟩) : CelT C ⟨sl, cs ++ [.obj (.ins c ns vs)]⟩ (.cel cs.length) f a nx :=
 celT_end h1 h2 (putFD_new h3 h4) hk
theorem fldC_end {C : CT} {sl : List D.Slot} {cs : List CellC} {c : Nat} {f : Str} {d : DV} {ns : List Str} {vs : List DV} (h : fldD C f (.ins c ns vs) = some d) : fldC C f ⟨sl, cs ++ [.obj (.ins c ns vs)]⟩ (.cel cs.length) = some d := by
 unfold fldC
 simp only [List.getElem?_concat_length]
 exact h
theorem noCels_nL : ∀ bs : List Nat, noCels (nL bs) = true
 | [] => rfl
 | b :: bs => by
  show (noCel (.int b) && noCels (nL bs)) = true
  rw [noCels_nL bs]
  rfl
abbrev entNs : List Str := ["name", "own_data", "time", "comment", "own_check"]
abbrev eI (e : Ent) : DV := .ins 20 entNs [.str (S e.l), .lst (nL e.data), e.tm, .str (S e.nt), .int (Crc.crc e.data : Nat)]
theorem noCel_eI (e : Ent) : noCel (eI e) = true := by
 show (noCel (.str (S e.l)) && (noCels (nL e.data) && (noCel e.tm && (noCel (.str (S e.nt)) && (noCel (.int (Crc.crc e.data : Nat)) && noCels []))))) = true
 rw [noCels_nL]
 rfl
theorem sp_Entry {e : Ent} (g : e.Gd) {a : DV} {cs : List CellC} {q : QF} {E : EK} (hd : cs.all isDraw = true) (ha : IsB a e.data) (h : q (eI e) .new cs) : XF F_07 [.str (S e.l), a, e.tm, .str (S e.nt)] cs q E := by
 unfold F_07
 refine x_wf_ini rfl hd ?_
 unfold sv_07 t_07_1 t_07_2 t_07_3
 walk_at "wx"
 refine sp_is_name g.l0 g.l2 g.l1 ?_
 walk_at "wx"
 refine sp_is_bytes ha.pl ha.hs ?_
 rw [ha.bytes]
 walk_at "wx"
 have hlen : lenD a = some (.int (e.data.length : Nat), .new) := by
  rcases ha.e with rfl | rfl
  · show some (DV.int ((nL e.data).length : Nat), Kd.new) = _
    simp
  · show some (DV.int ((nL e.data).length : Nat), Kd.new) = _
    simp
 refine x_wo hlen ?_
 walk_at "wx"
 refine IfK.dec (fun hx => absurd hx (by have := g.d1; omega)) (fun _ => ?_)
 walk_at "wx"
 refine sp_is_time rfl (pl_six (a := e.y)) ?_
 rw [timeD_tD.mpr g.t]
 walk_at "wx"
 refine sp_is_comment g.n0 g.n1 ?_
 have fin : ∀ {nx bk ct : DS → Prop} {rt : QE} {EE : EK}, nx ⟨[some (.cel cs.length, false), some (.str (S e.l), false), some (a, false), some (e.tm, false), some (.str (S e.nt), false)], cs ++ [.obj (eI e)]⟩ → XS (t_07_4 ⟨[some (.cel cs.length, false), some (.str (S e.l), false), some (a, false), some (e.tm, false), some (.str (S e.nt), false)], cs ++ [.obj (.ins 20 [] [])]⟩) ⟨nx, bk, ct, rt⟩ EE := fun {nx bk ct rt EE} hn => by
  unfold t_07_4 t_07_5 t_07_6 t_07_7 t_07_8
  walk_at "wx"
  refine celT_new (by decide) (by decide) (by decide) rfl ?_
  rcases ha.e with rfl | rfl
  all_goals
   walk_at "wx"
   refine celT_new (by decide) (by decide) (by decide) rfl ?_
   walk_at "wx"
   refine celT_new (by decide) (by decide) (by decide) rfl ?_
   walk_at "wx"
   refine celT_new (by decide) (by decide) (by decide) rfl ?_
   walk_at "wx"
   refine ⟨_, fldC_end (by with_unfolding_all rfl), ?_⟩
   walk_at "wx"
   refine sp_check ⟨.inl rfl, g.d0, by rw [zqy]; have := g.d1; omega⟩ ?_
   walk_at "wx"
   refine celT_new (by decide) (by decide) (by decide) rfl ?_
   exact hn
 generalize t_07_4 = X at fin ⊢
 walk_at "wx"
 exact fin ⟨_, cs, rfl, rfl, hd, noCel_eI e, h⟩
theorem sp_l_made {e : Ent} (g : e.Gd) {cs : List CellC} {q : QF} {E : EK} (hd : cs.all isDraw = true) (h : q (eI e) .new cs) : XF F_0t [entD e] cs q E := by
 unfold F_0t
 refine zqB rfl ?_
 unfold sv_0t
 walk_at "wx"
 refine sp_Entry g hd ⟨.inl rfl, g.d0, by rw [zqy]; have := g.d1; omega⟩ ?_
 walk_at "wx"
 exact h
theorem sp_bytesOf {x w : Nat} (hw : w ≤ 8) (hx : x < 256 ^ w) {d : DrawSt} {q : QF} {E : EK} (h : q (.lst (nL (Crc.low w x))) .new [.draw d]) : XF F_0d [.int (x : Nat), .int (w : Nat)] [.draw d] q E := by
 have h8 : 256 ^ w ≤ 256 ^ 8 := Nat.pow_le_pow_right (by decide) hw
 have h88 : (256 : Nat) ^ 8 = 18446744073709551616 := by decide
 unfold F_0d
 refine zqB rfl ?_
 unfold sv_0d t_0d_1 t_0d_2 t_0d_3 t_0d_4
 walk_at "wx"
 refine sp_is_number rfl ?_
 walk_at "wx"
 refine IfK.to (by simp [numD]; omega) ?_
 walk_at "wx"
 refine sp_is_number rfl ?_
 walk_at "wx"
 refine IfK.to (by simp [numD]; omega) ?_
 walk_at "wx"
 refine ⟨⟨by omega, by omega⟩, ?_⟩
 rw [show ((w : Nat) : Int).toNat = w from Int.toNat_natCast w]
 refine x_wfor (fun r st => ∃ (p : List Nat) (z : Nat) (s4 : D.Slot), st = ⟨[some (.int (x : Nat), false), some (.int (w : Nat), false), some (.lst (nL p), true), some (.int (z : Nat), false), s4], [.draw d]⟩ ∧ p ++ Crc.low r.length z = Crc.low w x ∧ z < 256 ^ r.length) _ _ ⟨[], x, none, rfl, by simp [rangeL], by simpa [rangeL] using hx⟩ ?_ ?_
 · rintro y r st ⟨p, z, s4, rfl, h1, h2⟩
   unfold b_0d_1
   have hpl : p.length ≤ 8 := by
    have := congrArg List.length h1
    rw [List.length_append, Crc.low_length, Crc.low_length] at this
    omega
   have hpn : (nL p).length ≤ 8 := by rw [show (nL p).length = p.length from List.length_map ..]; exact hpl
   walk_at "wx"
   refine ⟨p ++ [z % 256], z / 256, some (y, false), ?_, ?_, ?_⟩
   · have e1 : (z : Int) % 256 = ((z % 256 : Nat) : Int) := by omega
     have e2 : (z : Int) / 256 = ((z / 256 : Nat) : Int) := by omega
     rw [e1, e2]
     show DS.mk _ _ = DS.mk _ _
     rw [nL, nL, List.map_append]
     rfl
   · rw [← h1, List.length_cons, List.append_assoc]
     rfl
   · rw [List.length_cons, Nat.pow_succ] at h2
     omega
 · rintro st ⟨p, z, s4, rfl, h1, h2⟩
   have hz : z = 0 := by simpa using h2
   subst hz
   rw [show Crc.low [].length 0 = [] from rfl, List.append_nil] at h1
   subst h1
   walk_at "wx"
   exact h
theorem sp_bytes_text {l : List Nat} (hl : l.length ≤ 100000) {cs : List CellC} {q : QF} {E : EK} (h : q (.lst (nL l)) .new cs) : XF F_01 [.str (S l)] cs q E := by
 unfold F_01
 refine zqB rfl ?_
 unfold sv_01 e_01_1
 walk_at "wx"
 refine x_we_lc ?_
 walk_at "wx"
 refine ⟨by rw [items_S, List.length_map, zqy]; omega, ?_⟩
 rw [items_S]
 refine x_wl_map (fun c => DV.str ⟨#[c]⟩) (fun c => DV.int (c : Nat)) _ l [] (fun c hc => ?_) ?_
 · walk_at "wx"
   exact ⟨rfl, rfl⟩
 · rw [List.nil_append]
   walk_at "wx"
   exact h
theorem sp_stampE {e : Ent} (t : TimeI e.y e.m e.dd e.hh e.n e.s) {cs : List CellC} {q : QF} {E : EK} (h : q (.tup [.int (e.lo_ : Nat), .int (e.hi_ : Nat)]) .new cs) : XF F_0k [e.tm] cs q E := by
 refine sp_stamp_of rfl pl_six (fun y m d hh n s ex t' => ?_) fun hf => ?_
 · injection ex with ex
   simp only [List.cons.injEq, DV.int.injEq, and_true] at ex
   obtain ⟨rfl, rfl, rfl, rfl, rfl, rfl⟩ := ex
   have e1 : ((e.hh : Nat) : Int) * 2048 + ((e.n : Nat) : Int) * 32 + ((e.s : Nat) : Int) / 2 = ((e.lo_ : Nat) : Int) := by unfold Ent.lo_; omega
   have e2 : (((e.y : Nat) : Int) - 1980) * 512 + ((e.m : Nat) : Int) * 32 + ((e.dd : Nat) : Int) = ((e.hi_ : Nat) : Int) := by
    have := t.iy
    unfold Ent.hi_
    omega
   rw [e1, e2]
   exact h
 · have := timeD_tD.mpr t
   rw [show e.tm = tD e.y e.m e.dd e.hh e.n e.s from rfl] at hf
   rw [this] at hf
   cases hf
theorem sp_size {e : Ent} {cs : List CellC} {q : QF} {E : EK} (h : q (.int (e.data.length : Nat)) .new cs) : XF F_08 [eI e] cs q E := by
 unfold F_08
 refine zqB rfl ?_
 unfold sv_08
 walk_at "wx"
 rw [show (nL e.data).length = e.data.length from List.length_map ..]
 exact h
theorem sp_checkP {e : Ent} {cs : List CellC} {q : QF} {E : EK} (h : q (.int (Crc.crc e.data : Nat)) .new cs) : XF F_04 [eI e] cs q E := by
 unfold F_04
 refine zqB rfl ?_
 unfold sv_04
 walk_at "wx"
 exact h
theorem nL_app0 {as bs : List Nat} : nL as ++ nL bs = nL (as ++ bs) := by rw [nL, nL, nL, List.map_append]
theorem tm_lt {e : Ent} (t : TimeI e.y e.m e.dd e.hh e.n e.s) : e.lo_ < 65536 ∧ e.hi_ < 65536 := by
 obtain ⟨a, b, c, d, f, g, _⟩ := t
 have hc : ((e.dd : Nat) : Int) ≤ 31 := by
  have := c.2
  unfold daysI at this
  split at this <;> (try split at this) <;> omega
 unfold Ent.lo_ Ent.hi_
 omega
theorem zqJ {a b : List Nat} {p : DV → Kd → Prop} (hl : a.length + b.length ≤ 100000) (h : p (.lst (nL (a ++ b))) .new) : XOp (dBin .Add (.lst (nL a)) (.lst (nL b))) p := by
 refine x_wo_addL ?_ ?_
 · rw [show (nL a).length = a.length from List.length_map .., show (nL b).length = b.length from List.length_map .., zqy]
   omega
 · rw [nL_app0]
   exact h
theorem sp_shared_bytes {e : Ent} (g : e.Gd) {d : DrawSt} {q : QF} {E : EK} (h : q (.lst (nL (shB e))) .new [.draw d]) : XF F_03 [eI e] [.draw d] q E := by
 have hc := Crc.crc_lt g.d0
 obtain ⟨hlo, hhi⟩ := tm_lt g.t
 have hd := g.d1
 have hl2 := g.l2
 unfold F_03
 refine zqB rfl ?_
 unfold sv_03 t_03_1 t_03_2 t_03_3
 walk_at "wx"
 refine sp_stampE g.t ?_
 walk_at "wx"
 refine sp_size ?_
 walk_at "wx"
 refine sp_bytesOf (w := 4) (by decide) (by omega) ?_
 walk_at "wx"
 refine sp_bytesOf (w := 2) (by decide) (by omega) ?_
 walk_at "wx"
 refine sp_bytesOf (w := 2) (by decide) (by omega) ?_
 repeat' (first | with_reducible refine zqJ (by simp only [List.length_append, Crc.low_length]; omega) ?_ | walk_at "wx1")
 refine sp_checkP ?_
 walk_at "wx"
 refine sp_bytesOf (w := 4) (by decide) (by omega) ?_
 repeat' (first | with_reducible refine zqJ (by simp only [List.length_append, Crc.low_length]; omega) ?_ | walk_at "wx1")
 refine x_wo (lenS (by omega)) ?_
 walk_at "wx"
 refine sp_bytesOf (w := 2) (by decide) (by omega) ?_
 repeat' (first | with_reducible refine zqJ (by simp only [List.length_append, Crc.low_length]; omega) ?_ | walk_at "wx1")
 · rw [show (nL _).length = _ from List.length_map .., zqy]
   simp only [List.length_append, Crc.low_length, List.length_cons, List.length_nil]
   omega
 · have e0 : ∀ xs : List Nat, nL xs ++ [DV.int 0, DV.int 0] = nL (xs ++ [0, 0]) := fun xs => by rw [← nL_app0]; rfl
   rw [e0]
   exact h
theorem sp_dataP {e : Ent} {cs : List CellC} {q : QF} {E : EK} (h : q (.lst (nL e.data)) .new cs) : XF F_06 [eI e] cs q E := by
 unfold F_06
 refine zqB rfl ?_
 unfold sv_06
 walk_at "wx"
 exact h
theorem sp_record_of {e : Ent} (g : e.Gd) {d : DrawSt} {q : QF} {E : EK} (h : q (.lst (nL (recB e))) .new [.draw d]) : XF F_0c [eI e] [.draw d] q E := by
 have hd := g.d1
 have hl2 := g.l2
 have hsh := shB_len e
 unfold F_0c
 refine zqB rfl ?_
 unfold sv_0c
 walk_at "wx"
 rw [show k_RECORD = nL [80, 75, 3, 4] from rfl]
 refine sp_bytesOf (x := 20) (w := 6) (by decide) (by decide) ?_
 repeat' (first | with_reducible refine zqJ (by simp only [List.length_append, List.length_cons, List.length_nil, Crc.low_length]; omega) ?_ | walk_at "wx1")
 refine sp_shared_bytes g ?_
 repeat' (first | with_reducible refine zqJ (by simp only [List.length_append, List.length_cons, List.length_nil, Crc.low_length]; omega) ?_ | walk_at "wx1")
 refine sp_bytes_text (by omega) ?_
 repeat' (first | with_reducible refine zqJ (by simp only [List.length_append, List.length_cons, List.length_nil, Crc.low_length]; omega) ?_ | walk_at "wx1")
 refine sp_dataP ?_
 repeat' (first | with_reducible refine zqJ (by simp only [List.length_append, List.length_cons, List.length_nil, Crc.low_length]; omega) ?_ | walk_at "wx1")
 exact h
theorem sp_need_number {x m : Nat} (hx : x ≤ m) {cs : List CellC} {q : QF} {E : EK} (h : q .non .new cs) : XF F_05 [.int (x : Nat), .int (m : Nat)] cs q E := by
 unfold F_05
 refine zqB rfl ?_
 unfold sv_05
 walk_at "wx"
 refine sp_is_number rfl ?_
 walk_at "wx"
 rw [show numD 0 ((m : Nat) : Int) (.int (x : Nat)) = true from by simp [numD]; omega]
 walk_at "wx"
 exact h
theorem sp_row_of {e : Ent} (g : e.Gd) {p : Nat} (hp : p < 2 ^ 32) {d : DrawSt} {q : QF} {E : EK} (h : q (.lst (nL (rowB e p))) .new [.draw d]) : XF F_0y [eI e, .int (p : Nat)] [.draw d] q E := by
 have hd := g.d1
 have hl2 := g.l2
 have hn := g.n1
 have hsh := shB_len e
 unfold F_0y
 refine zqB rfl ?_
 unfold sv_0y t_0y_1 t_0y_2 t_0y_3
 walk_at "wx"
 refine sp_need_number (m := 4294967295) (by omega) ?_
 walk_at "wx"
 rw [show k_ROW = nL [80, 75, 1, 2] from rfl]
 refine sp_bytesOf (x := 20) (w := 2) (by decide) (by decide) ?_
 repeat' (first | with_reducible refine zqJ (by simp only [List.length_append, List.length_cons, List.length_nil, Crc.low_length]; omega) ?_ | walk_at "wx1")
 refine sp_bytesOf (x := 20) (w := 6) (by decide) (by decide) ?_
 repeat' (first | with_reducible refine zqJ (by simp only [List.length_append, List.length_cons, List.length_nil, Crc.low_length]; omega) ?_ | walk_at "wx1")
 refine sp_shared_bytes g ?_
 repeat' (first | with_reducible refine zqJ (by simp only [List.length_append, List.length_cons, List.length_nil, Crc.low_length]; omega) ?_ | walk_at "wx1")
 refine x_wo (lenS (by omega)) ?_
 walk_at "wx"
 refine sp_bytesOf (w := 2) (by decide) (by omega) ?_
 walk_at "wx"
 refine sp_bytesOf (x := 0) (w := 8) (by decide) (by decide) ?_
 repeat' (first | with_reducible refine zqJ (by simp only [List.length_append, List.length_cons, List.length_nil, Crc.low_length]; omega) ?_ | walk_at "wx1")
 refine sp_bytesOf (w := 4) (by decide) (by omega) ?_
 repeat' (first | with_reducible refine zqJ (by simp only [List.length_append, List.length_cons, List.length_nil, Crc.low_length]; omega) ?_ | walk_at "wx1")
 refine sp_bytes_text (by omega) ?_
 repeat' (first | with_reducible refine zqJ (by simp only [List.length_append, List.length_cons, List.length_nil, Crc.low_length]; omega) ?_ | walk_at "wx1")
 refine sp_bytes_text (by omega) ?_
 repeat' (first | with_reducible refine zqJ (by simp only [List.length_append, List.length_cons, List.length_nil, Crc.low_length]; omega) ?_ | walk_at "wx1")
 have e1 : rowB e p = [80, 75, 1, 2] ++ Crc.low 2 20 ++ Crc.low 6 20 ++ shB e ++ (Crc.low 2 e.nt.length ++ Crc.low 8 0 ++ Crc.low 4 p) ++ e.l ++ e.nt := by
  unfold rowB
  simp only [List.append_assoc]
 rw [e1] at h
 exact h
theorem sp_end_of {n z p : Nat} {nt : List Nat} (hn : n ≤ 20) (hz : z < 2 ^ 32) (hp : p < 2 ^ 32) (ho : nt.all okN = true) (hl : nt.length ≤ 40) {d : DrawSt} {q : QF} {E : EK} (h : q (.lst (nL (endB n z p nt))) .new [.draw d]) : XF F_0s [.int (n : Nat), .int (z : Nat), .int (p : Nat), .str (S nt)] [.draw d] q E := by
 unfold F_0s
 refine zqB rfl ?_
 unfold sv_0s t_0s_1 t_0s_2 t_0s_3 t_0s_4 t_0s_5
 walk_at "wx"
 refine sp_need_number (m := 20) hn ?_
 walk_at "wx"
 refine sp_need_number (m := 4294967295) (by omega) ?_
 walk_at "wx"
 refine sp_need_number (m := 4294967295) (by omega) ?_
 walk_at "wx"
 refine sp_is_comment ho hl ?_
 walk_at "wx"
 refine sp_bytesOf (x := 0) (w := 4) (by decide) (by decide) ?_
 walk_at "wx"
 refine sp_bytesOf (w := 2) (by decide) (by omega) ?_
 repeat' (first | with_reducible refine zqJ (by simp only [List.length_append, List.length_cons, List.length_nil, Crc.low_length]; omega) ?_ | walk_at "wx1")
 refine sp_bytesOf (w := 2) (by decide) (by omega) ?_
 repeat' (first | with_reducible refine zqJ (by simp only [List.length_append, List.length_cons, List.length_nil, Crc.low_length]; omega) ?_ | walk_at "wx1")
 refine sp_bytesOf (w := 4) (by decide) (by omega) ?_
 repeat' (first | with_reducible refine zqJ (by simp only [List.length_append, List.length_cons, List.length_nil, Crc.low_length]; omega) ?_ | walk_at "wx1")
 refine sp_bytesOf (w := 4) (by decide) (by omega) ?_
 refine bk_pn (by walk_at "nv") ?_
 rw [show k_END = nL [80, 75, 5, 6] from rfl]
 repeat' (first | with_reducible refine zqJ (by simp only [List.length_append, List.length_cons, List.length_nil, Crc.low_length]; omega) ?_ | walk_at "wx1")
 refine x_wo (lenS (by omega)) ?_
 walk_at "wx"
 refine sp_bytesOf (w := 2) (by decide) (by omega) ?_
 repeat' (first | with_reducible refine zqJ (by simp only [List.length_append, List.length_cons, List.length_nil, Crc.low_length]; omega) ?_ | walk_at "wx1")
 refine sp_bytes_text (by omega) ?_
 repeat' (first | with_reducible refine zqJ (by simp only [List.length_append, List.length_cons, List.length_nil, Crc.low_length]; omega) ?_ | walk_at "wx1")
 have e1 : endB n z p nt = [80, 75, 5, 6] ++ (Crc.low 4 0 ++ Crc.low 2 n ++ Crc.low 2 n ++ Crc.low 4 z ++ Crc.low 4 p) ++ Crc.low 2 nt.length ++ nt := by
  unfold endB
  simp only [List.append_assoc]
 rw [e1] at h
 exact h
def rtO : Out Fl → Option (DV × List CellC)
 | .ok (.rt a _) st => some (a, st.cs)
 | _ => none
theorem XS_rt {o : Out Fl} {a : DV} {cs : List CellC} {k : KS} {E : EK} (h : rtO o = some (a, cs)) (hq : ∀ kd st, st.cs = cs → k.rt a kd st) : XS o k E := by
 with_unfolding_all
  show W o k.of E
  cases o with
  | ok fl st =>
   cases fl with
   | rt b kd => cases h; exact hq kd st rfl
   | nx => cases h
   | bk => cases h
   | ct => cases h
  | exc x st => cases h
  | stuck => cases h
theorem need_number_no {a : DV} {m : Int} (hp : pl a = true) (hn : numD 0 m a = false) {cs : List CellC} {q : QF} {E : EK} (h : E ⟨2, [], []⟩ cs) : XF F_05 [a, .int m] cs q E := by
 unfold F_05
 refine zqB rfl ?_
 unfold sv_05
 walk_at "wx"
 refine sp_is_number hp ?_
 rw [hn]
 walk_at "wx"
 exact h
theorem row_no {e : Ent} {a : DV} (hp : pl a = true) (hn : numD 0 4294967295 a = false) {cs : List CellC} {q : QF} {E : EK} (h : E ⟨2, [], []⟩ cs) : XF F_0y [eI e, a] cs q E := by
 unfold F_0y
 refine zqB rfl ?_
 unfold sv_0y
 walk_at "wx"
 exact need_number_no hp hn h
theorem end_no1 {a y z c : DV} (hp : pl a = true) (hn : numD 0 20 a = false) {cs : List CellC} {q : QF} {E : EK} (h : E ⟨2, [], []⟩ cs) : XF F_0s [a, y, z, c] cs q E := by
 unfold F_0s
 refine zqB rfl ?_
 unfold sv_0s
 walk_at "wx"
 exact need_number_no hp hn h
theorem end_no2 {a z c : DV} (hp : pl a = true) (hn : numD 0 4294967295 a = false) {cs : List CellC} {q : QF} {E : EK} (h : E ⟨2, [], []⟩ cs) : XF F_0s [.int 1, a, z, c] cs q E := by
 unfold F_0s
 refine zqB rfl ?_
 unfold sv_0s t_0s_1
 walk_at "wx"
 refine sp_need_number (x := 1) (m := 20) (by decide) ?_
 walk_at "wx"
 exact need_number_no hp hn h
theorem end_no3 {a c : DV} (hp : pl a = true) (hn : numD 0 4294967295 a = false) {cs : List CellC} {q : QF} {E : EK} (h : E ⟨2, [], []⟩ cs) : XF F_0s [.int 1, .int 0, a, c] cs q E := by
 unfold F_0s
 refine zqB rfl ?_
 unfold sv_0s t_0s_1 t_0s_2
 walk_at "wx"
 refine sp_need_number (x := 1) (m := 20) (by decide) ?_
 walk_at "wx"
 refine sp_need_number (x := 0) (m := 4294967295) (by decide) ?_
 walk_at "wx"
 exact need_number_no hp hn h
def Says (F : Fn) (v : DV) (b : Bool) : Prop := ∀ (cs : List CellC) (q : DV → Kd → List CellC → Prop) (E : EK), q (.bl b) .new cs → XF F [v] cs q E
theorem text_non {v : DV} (h : isiR CL v (.ty "str") = some (.bl false, .new)) : Says F_0o v false := fun cs q E hq => by
 unfold F_0o
 refine zqB rfl ?_
 unfold sv_0o
 generalize e_0o_1 = X
 walk_at "wx"
 refine x_wo h ?_
 walk_at "wx"
 exact hq
theorem comment_non {v : DV} (h : isiR CL v (.ty "str") = some (.bl false, .new)) : Says F_09 v false := fun cs q E hq => by
 unfold F_09
 refine zqB rfl ?_
 unfold sv_09
 walk_at "wx"
 refine text_non h _ _ _ ?_
 walk_at "wx"
 exact hq
theorem comment_long {l : List Nat} (hl : l.length ≤ 1000) (h : 40 < l.length) (ho : l.all okN = true) : Says F_09 (.str (S l)) false := fun cs q E hq => by
 unfold F_09
 refine zqB rfl ?_
 unfold sv_09
 walk_at "wx"
 refine sp_is_text (by omega) ?_
 rw [ho]
 walk_at "wx"
 refine x_wo (lenS (by omega)) ?_
 walk_at "wx"
 rw [decide_eq_false (by omega)]
 exact hq
theorem end_no4 {c : DV} (hc : Says F_09 c false) {cs : List CellC} {q : QF} {E : EK} (h : E ⟨5, [], []⟩ cs) : XF F_0s [.int 1, .int 0, .int 0, c] cs q E := by
 unfold F_0s
 refine zqB rfl ?_
 unfold sv_0s t_0s_1 t_0s_2 t_0s_3
 walk_at "wx"
 refine sp_need_number (x := 1) (m := 20) (by decide) ?_
 walk_at "wx"
 refine sp_need_number (x := 0) (m := 4294967295) (by decide) ?_
 walk_at "wx"
 refine sp_need_number (x := 0) (m := 4294967295) (by decide) ?_
 walk_at "wx"
 refine hc _ _ _ ?_
 walk_at "wx"
 exact h
theorem wide_no {x : DV} (h : x ∈ [DV.int (-1), DV.int 4294967296, DV.int 100000000000000000000, DV.non, DV.bl true, DV.str "1", DV.lst [DV.int 1]]) : pl x = true ∧ numD 0 4294967295 x = false := by
 simp only [List.mem_cons, List.not_mem_nil, or_false] at h
 rcases h with rfl | rfl | rfl | rfl | rfl | rfl | rfl <;> exact ⟨rfl, by decide⟩
theorem most_no {x : DV} (h : x ∈ [DV.int (-1), DV.int 21, DV.non, DV.bl false, DV.str "1", DV.lst [DV.int 1]]) : pl x = true ∧ numD 0 20 x = false := by
 simp only [List.mem_cons, List.not_mem_nil, or_false] at h
 rcases h with rfl | rfl | rfl | rfl | rfl | rfl <;> exact ⟨rfl, by decide⟩
def wordE (c : Nat) : Option Str := match c with
 | 2 => some "number"
 | 5 => some "comment"
 | _ => none
theorem sp_tried {F : Fn} {as : List (DV × Kd)} {sl : List D.Slot} {d : DrawSt} {c : Nat} {s : Str} {q : QE} (hs : wordE c = some s) (hv : noView as = true) (h : XF F (as.map (·.1)) [.draw d] (fun _ _ _ => False) (fun x cs' => x = ⟨c, [], []⟩ ∧ cs' = [.draw d])) (hq : q (.lst [.str s]) .fro ⟨sl, [.draw d]⟩) : XLam CL L_l_tried F as ⟨sl, [.draw d]⟩ q := by
 have hc : (c = 2 ∧ s = "number") ∨ (c = 5 ∧ s = "comment") := by
  unfold wordE at hs
  split at hs <;> first | (cases hs; done) | (cases hs; simp)
 refine x_lamT_of hv (XF.mono h (fun a kd cs' h => h.elim) fun x cs' h => ?_)
 obtain ⟨rfl, rfl⟩ := h
 rcases hc with ⟨rfl, rfl⟩ | ⟨rfl, rfl⟩
 · refine ⟨rfl, ?_⟩
   refine XS_rt (a := .lst [.str "number"]) (cs := [.draw d]) (by kernel_rfl) fun kd st e => ?_
   show q _ _ ⟨sl, st.cs⟩
   rw [e]
   exact hq
 · refine ⟨rfl, ?_⟩
   refine XS_rt (a := .lst [.str "comment"]) (cs := [.draw d]) (by kernel_rfl) fun kd st e => ?_
   show q _ _ ⟨sl, st.cs⟩
   rw [e]
   exact hq
theorem odd_cm {x : DV} (h : x ∈ [DV.str (S (List.replicate 41 97)), DV.non, DV.int 5, DV.lst [DV.str "a"], DV.tup [], DV.dct [] [], DV.bl false]) : Says F_09 x false := by
 simp only [List.mem_cons, List.not_mem_nil, or_false] at h
 rcases h with rfl | rfl | rfl | rfl | rfl | rfl | rfl
 · exact comment_long (by simp) (by simp) (by decide)
 all_goals exact comment_non rfl
theorem bk_all {sl : List D.Slot} {cs : List CellC} {as : List (DV × Kd)} {a : DV} {kd : Kd} {q : QE} (h : ∀ sl' kd, (sl' = sl ∨ sl' = (zqC ⟨sl, cs⟩ as).sl) → (kd = .new ∨ kd = .fro) → q a kd ⟨sl', cs⟩) : BkT sl as a kd cs q := by
 have hk : kdO kd = .new ∨ kdO kd = .fro := by cases kd <;> first | exact .inl rfl | exact .inr rfl
 unfold BkT
 split
 · exact h _ _ (.inl rfl) hk
 · have e : zqC ⟨sl, cs⟩ as = ⟨(zqC ⟨sl, cs⟩ as).sl, cs⟩ := by
    have := eatAll_cs as ⟨sl, cs⟩
    cases hh : zqC ⟨sl, cs⟩ as with
    | mk s c => rw [hh] at this; cases this; rfl
   rw [e]
   exact h _ _ (.inr rfl) hk
theorem ref_end {e : Ent} {wide most odd : DV} (hw : pl wide = true ∧ numD 0 4294967295 wide = false) (hm : pl most = true ∧ numD 0 20 most = false) (ho : Says F_09 odd false) {b2 b3 b4 : Bool} {d : DrawSt} {nx bk ct : DS → Prop} {rt : QE} {E : EK} (h : ∀ kd st, st.cs = [.draw d] → rt (.bl true) kd st) :
 XS (t_00_3 ⟨[some (.cel 0, false), some (eI e, false), some (wide, b2), some (most, b3), some (odd, b4), none, none], [.draw d]⟩) ⟨nx, bk, ct, rt⟩ E := by
 have hsl : sizeLine = 16777216 := zqy
 unfold t_00_3
 refine x_w0 rfl (by simp) ?_
 walk_at "wx"
 unfold e_00_1
 refine x_ws ?_
 cases b2 <;> cases b3 <;> cases b4
 all_goals
  refine x_goWs ?_
  walk_at "wx"
  refine sp_tried (c := 2) (s := "number") rfl (by rfl) (row_no hw.1 hw.2 ⟨rfl, rfl⟩) ?_
  refine x_goWs ?_
  walk_at "wx"
  refine sp_tried (c := 2) (s := "number") rfl (by rfl) (end_no1 hm.1 hm.2 ⟨rfl, rfl⟩) ?_
  refine x_goWs ?_
  walk_at "wx"
  refine sp_tried (c := 2) (s := "number") rfl (by rfl) (end_no2 hw.1 hw.2 ⟨rfl, rfl⟩) ?_
  refine x_goWs ?_
  walk_at "wx"
  refine sp_tried (c := 2) (s := "number") rfl (by rfl) (end_no3 hw.1 hw.2 ⟨rfl, rfl⟩) ?_
  refine x_goWs ?_
  walk_at "wx"
  refine sp_tried (c := 5) (s := "comment") rfl (by rfl) (end_no4 ho ⟨rfl, rfl⟩) ?_
  refine x_goWs0 ?_
  walk_at "wx"
  generalize hg : PyData.eqv _ _ = k
  have hk : k = true := by rw [← hg]; first | rfl | decide | kernel_rfl
  rw [hk]
  exact h _ _ rfl
theorem sp_l_refused_right {e : Ent} {d : DrawSt} {n : Nat} (ok : zqo d (n + 3)) {q : QF} {E : EK} (h : ∀ d' kd, zqo d' n → q (.bl true) kd [.draw d']) : XF F_00 [.cel 0, eI e] [.draw d] q E := by
 unfold F_00
 refine zqB rfl ?_
 unfold sv_00 t_00_1 t_00_2
 rw [show zql 7 [DV.cel 0, eI e] = [some (.cel 0, false), some (eI e, false), none, none, none, none, none] from rfl]
 walk_at "wx"
 refine sp_pick (n := n + 2) ok (by simp) (by simp) fun wide d1 hw ok1 => ?_
 have hw := wide_no (by rw [show (10 : Int) ^ Int.toNat 20 = 100000000000000000000 from by decide] at hw; exact hw)
 walk_at "wx"
 refine sp_pick (n := n + 1) ok1 (by simp) (by simp) fun most d2 hm ok2 => ?_
 have hm := most_no hm
 walk_at "wx"
 rw [show repS (Str.ofString "a") (Int.toNat 41) = S (List.replicate 41 97) from by decide +kernel]
 refine sp_pick (n := n) ok2 (by simp) (by simp) fun odd d3 ho ok3 => ?_
 have ho := odd_cm ho
 walk_at "wx"
 exact ref_end hw hm ho fun kd st e => by
  show q _ _ st.cs
  rw [e]
  exact h _ _ ok3
abbrev SL9 (s0 s2 s3 s4 s5 s6 s7 s8 s9 s10 s11 : D.Slot) : List D.Slot := [s0, some (.cel 0, false), s2, s3, s4, s5, s6, s7, s8, s9, s10, s11]
abbrev zI (bs : List Nat) : List Int := bs.map fun b : Nat => (b : Int)
theorem zI_D (bs : List Nat) : (zI bs).map DV.int = nL bs := by
 rw [List.map_map]
 rfl
theorem turn_5 {l : List Nat} {e : Ent} (g : e.Gd) {spot many other : Nat} (hs : spot < 2 ^ 32) (hm : many ≤ 20) (ho : other < 2 ^ 32) {R1 R2 R3 : List Nat} (hR1 : recB e = R1) (hR2 : rowB e spot = R2) (hR3 : endB many spot other e.nt = R3) (ok3 : dOk (.lst [.lst (nL R1), .lst (nL R2), .lst (nL R3)]) = true) (dp3 : dDp (.lst [.lst (nL R1), .lst (nL R2), .lst (nL R3)]) ≤ 64)
 {s0 s11 : D.Slot} {d : DrawSt} {n : Nat} (ok : zqo d (n + 3)) {nx bk ct : DS → Prop} {rt : QE} {E : EK}
 (h : ∀ (s3 s4 s5 s6 s7 s8 s9 s11 : D.Slot) d', zqo d' n → nx ⟨SL9 s0 (some (sD l, false)) s3 s4 s5 s6 s7 s8 s9 (some (.opq, false)) s11, [.draw d']⟩) :
 XS (r_law_2 ⟨SL9 s0 (some (sD l, false)) (some (entD e, false)) (some (eI e, true)) (some (.int (spot : Nat), false)) (some (.int (many : Nat), false)) (some (.int (other : Nat), false)) (some (.opq, false)) (some (.lst [.lst (nL R1), .lst (nL R2), .lst (nL R3)], true)) (some (.opq, false)) s11, [.draw d]⟩) ⟨nx, bk, ct, rt⟩ E := by
 have hsl : sizeLine = 16777216 := zqy
 unfold r_law_2 SL9
 walk_at "wx"
 refine sp_record_of g ?_
 refine bk_sn safe_nL rfl ?_
 walk_at "wx"
 refine sp_row_of g hs ?_
 refine bk_sn safe_nL rfl ?_
 walk_at "wx"
 refine sp_end_of hm hs ho g.n0 g.n1 ?_
 refine bk_sn safe_nL rfl ?_
 walk_at "wx"
 rw [hR1, hR2, hR3]
 refine x_wo_neR (d := .lst [.lst (nL R1), .lst (nL R2), .lst (nL R3)]) ok3 dp3 ?_
 walk_at "wx"
 refine sp_l_refused_right (n := n) ok fun d' kd ok' => ?_
 refine bk_all fun sl' kd' hs' hk' => ?_
 have e5 : sl' = SL9 s0 (some (sD l, false)) (some (entD e, false)) (some (eI e, true)) (some (.int (spot : Nat), false)) (some (.int (many : Nat), false)) (some (.int (other : Nat), false)) (some (.opq, false)) (some (.lst [.lst (nL R1), .lst (nL R2), .lst (nL R3)], true)) (some (.opq, false)) (some (.lst [.lst (nL R1), .lst (nL R2), .lst (nL R3)], true)) ∨ sl' = SL9 s0 (some (sD l, false)) (some (entD e, false)) (some (eI e, false)) (some (.int (spot : Nat), false)) (some (.int (many : Nat), false)) (some (.int (other : Nat), false)) (some (.opq, false)) (some (.lst [.lst (nL R1), .lst (nL R2), .lst (nL R3)], true)) (some (.opq, false)) (some (.lst [.lst (nL R1), .lst (nL R2), .lst (nL R3)], true)) := by
  rcases hs' with rfl | rfl
  · exact .inl rfl
  · exact .inr rfl
 rcases e5 with rfl | rfl
 all_goals
  unfold SL9
  walk_at "wx"
  exact h _ _ _ _ _ _ _ _ _ ok'
theorem turn_4 {l : List Nat} {e : Ent} (g : e.Gd) {spot many other : Nat} (hs : spot < 2 ^ 32) (hm : many ≤ 20) (ho : other < 2 ^ 32) {s0 s8 s9 s10 s11 : D.Slot} {d : DrawSt} {n : Nat} (ok : zqo d (n + 3)) {nx bk ct : DS → Prop} {rt : QE} {E : EK}
 (h10 : s10 = none ∨ s10 = some (.opq, false)) (h : ∀ (s3 s4 s5 s6 s7 s8 s9 s11 : D.Slot) d', zqo d' n → nx ⟨SL9 s0 (some (sD l, false)) s3 s4 s5 s6 s7 s8 s9 (some (.opq, false)) s11, [.draw d']⟩) :
 XS (u1_16_4 ⟨SL9 s0 (some (sD l, false)) (some (entD e, false)) (some (eI e, true)) (some (.int (spot : Nat), false)) (some (.int (many : Nat), false)) (some (.int (other : Nat), false)) s8 s9 s10 s11, [.draw d]⟩) ⟨nx, bk, ct, rt⟩ E := by
 have hsl : sizeLine = 16777216 := zqy
 unfold u1_16_4 SL9
 refine x_h3 ?_
 walk_at "wx"
 refine sp_record_of g ?_
 refine bk_sn safe_nL rfl ?_
 walk_at "wx"
 refine ⟨zI (recB e), by rw [zI_D], rfl, rfl, ?_⟩
 walk_at "wx"
 refine sp_row_of g hs ?_
 refine bk_sn safe_nL rfl ?_
 walk_at "wx"
 refine ⟨zI (rowB e spot), by rw [zI_D], rfl, rfl, ?_⟩
 walk_at "wx"
 refine sp_end_of hm hs ho g.n0 g.n1 ?_
 refine bk_sn safe_nL rfl ?_
 walk_at "wx"
 refine ⟨zI (endB many spot other e.nt), by rw [zI_D], rfl, rfl, by simp, ?_⟩
 refine x_hset ?_
 walk_at "wx"
 refine sp_l_record g.ok ?_
 walk_at "wx"
 refine sp_l_row g.ok ?_
 walk_at "wx"
 refine sp_l_end rfl rfl rfl (by have := g.n1; omega) ?_
 walk_at "wx"
 have o1 := recB_ok g.ok
 have o2 : Crc.okB (rowB e spot) := rowB_ok g.ok _
 have o3 : Crc.okB (endB many spot other e.nt) := endB_ok (okN_B g.n0)
 generalize hR1 : recB e = R1 at *
 generalize hR2 : rowB e spot = R2 at *
 generalize hR3 : endB many spot other e.nt = R3 at *
 have ok3 : dOk (.lst [.lst (nL R1), .lst (nL R2), .lst (nL R3)]) = true := by
  show (dOks (nL R1) && (dOks (nL R2) && (dOks (nL R3) && true))) = true
  rw [nL_oks o1, nL_oks o2, nL_oks o3]
  rfl
 have dp3 : dDp (.lst [.lst (nL R1), .lst (nL R2), .lst (nL R3)]) ≤ 64 := by
  show max (dDps (nL R1) + 1) (max (dDps (nL R2) + 1) (max (dDps (nL R3) + 1) 0)) + 1 ≤ 64
  rw [nL_dps, nL_dps, nL_dps]
  decide
 refine x_hif ?_
 show XT (tvOr (tvB (zqk (dCmp CmpOp.NotEq) (zqc 8) (zqc 9))) (tvB (zqk (dCmp CmpOp.NotEq) e_16_1 (zqF zqz))) ⟨[s0, some (.cel 0, false), some (sD l, false), some (entD e, false), some (eI e, true), some (.int (spot : Nat), false), some (.int (many : Nat), false), some (.int (other : Nat), false), some (.lst [.lst ((zI R1).map DV.int), .lst ((zI R2).map DV.int), .lst ((zI R3).map DV.int)], false), some (.lst [.lst (nL R1), .lst (nL R2), .lst (nL R3)], true), s10, s11], [.draw d]⟩) _ _
 rw [zI_D, zI_D, zI_D]
 walk_at "wx"
 refine x_wo_neR ok3 dp3 ?_
 walk_at "wx"
 unfold e_16_1
 refine x_we_lc ?_
 walk_at "wx"
 refine x_wl_fmB (fun R : List Nat => DV.lst (nL R)) (fun _ => none) _ [R1, R2, R3] [] (fun R hR => ?_) ?_
 · walk_at "wx"
   exact ⟨rfl, rfl⟩
 walk_at "wx"
 rcases h10 with rfl | rfl
 all_goals
  refine ⟨rfl, rfl, ?_⟩
  refine x_hclr (by show 10 < 12; decide) ?_
  show XS (r_law_2 ⟨SL9 s0 (some (sD l, false)) (some (entD e, false)) (some (eI e, true)) (some (.int (spot : Nat), false)) (some (.int (many : Nat), false)) (some (.int (other : Nat), false)) (some (.opq, false)) (some (.lst [.lst (nL R1), .lst (nL R2), .lst (nL R3)], true)) (some (.opq, false)) s11, [.draw d]⟩) _ _
  exact turn_5 g hs hm ho hR1 hR2 hR3 ok3 dp3 ok h
theorem turn_3 {l : List Nat} (hl : l.length ≤ 24) {e : Ent} (g : e.Gd) {spot : Nat} (hs : spot < 2 ^ 32) {s0 s6 s7 s8 s9 s10 s11 : D.Slot}  {d : DrawSt} {n : Nat} (ok : zqo d (n + 3)) {nx bk ct : DS → Prop} {rt : QE} {E : EK}
 (h10 : s10 = none ∨ s10 = some (.opq, false)) (h : ∀ (s3 s4 s5 s6 s7 s8 s9 s11 : D.Slot) d', zqo d' n → nx ⟨SL9 s0 (some (sD l, false)) s3 s4 s5 s6 s7 s8 s9 (some (.opq, false)) s11, [.draw d']⟩) :
 XS (u1_16_3 ⟨SL9 s0 (some (sD l, false)) (some (entD e, false)) (some (eI e, true)) (some (.int (spot : Nat), false)) s6 s7 s8 s9 s10 s11, [.draw d]⟩) ⟨nx, bk, ct, rt⟩ E := by
 have hsl : sizeLine = 16777216 := zqy
 unfold u1_16_3 SL9
 generalize hT : u1_16_4 = T
 generalize hM : dBin Operator.Mult = M
 walk_at "wx"
 refine x_wo (lenS (by omega)) ?_
 walk_at "wx"
 refine x_wo (lenS (by omega)) ?_
 walk_at "wx"
 rw [← hM]
 refine x_wo_mul ?_ ?_
 · rw [Bool.or_eq_true]
   refine .inl ?_
   unfold fits64
   rw [Bool.and_eq_true, decide_eq_true_eq, decide_eq_true_eq]
   omega
 walk_at "wx"
 subst hT
 obtain ⟨many, em, hm⟩ : ∃ many : Nat, ((l.length : Nat) : Int) % 21 = (many : Nat) ∧ many ≤ 20 := ⟨l.length % 21, by omega, by omega⟩
 obtain ⟨other, eo, ho⟩ : ∃ other : Nat, ((l.length : Nat) : Int) * ((spot : Nat) : Int) % 4294967296 = (other : Nat) ∧ other < 2 ^ 32 := ⟨(l.length * spot) % 4294967296, by rw [← Int.natCast_mul]; omega, by omega⟩
 rw [em, eo]
 show XS (u1_16_4 ⟨SL9 s0 (some (sD l, false)) (some (entD e, false)) (some (eI e, true)) (some (.int (spot : Nat), false)) (some (.int (many : Nat), false)) (some (.int (other : Nat), false)) s8 s9 s10 s11, [.draw d]⟩) _ _
 exact turn_4 g hs hm ho ok h10 h
theorem turn_2 {l : List Nat} (hl : l.length ≤ 24) {e : Ent} (g : e.Gd) {s0 s4 s5 s6 s7 s8 s9 s10 s11 : D.Slot} {d : DrawSt} {n : Nat} (ok : zqo d (n + 5)) {nx bk ct : DS → Prop} {rt : QE} {E : EK}
 (h10 : s10 = none ∨ s10 = some (.opq, false)) (h : ∀ (s3 s4 s5 s6 s7 s8 s9 s11 : D.Slot) d', zqo d' n → nx ⟨SL9 s0 (some (sD l, false)) s3 s4 s5 s6 s7 s8 s9 (some (.opq, false)) s11, [.draw d']⟩) :
 XS (u1_16_2 ⟨SL9 s0 (some (sD l, false)) (some (entD e, false)) s4 s5 s6 s7 s8 s9 s10 s11, [.draw d]⟩) ⟨nx, bk, ct, rt⟩ E := by
 unfold u1_16_2 SL9
 generalize hT : u1_16_3 = T
 walk_at "wx"
 refine sp_l_made g rfl ?_
 walk_at "wx"
 refine sp_pick (n := n + 4) ok (by simp) (by simp) fun y d1 hy ok1 => ?_
 obtain ⟨m, rfl, hm⟩ : ∃ m : Nat, y = .int (m : Nat) ∧ 1 ≤ m ∧ m ≤ 2 ^ 32 := by
  simp only [List.mem_cons, List.not_mem_nil, or_false] at hy
  rcases hy with rfl | rfl
  · exact ⟨1000, rfl, by decide, by decide⟩
  · exact ⟨4294967296, rfl, by decide, by decide⟩
 walk_at "wx"
 refine sp_next (n := n + 3) ok1 (by omega) (by omega) fun r d2 kd r0 r1 ok2 => ?_
 obtain ⟨spot, rfl, hs⟩ := nat_of (m := m) r0 r1
 walk_at "wx"
 show XS (T ⟨SL9 s0 (some (sD l, false)) (some (entD e, false)) (some (eI e, true)) (some (.int (spot : Nat), false)) s6 s7 s8 s9 s10 s11, [.draw d2]⟩) _ _
 subst hT
 exact turn_3 hl g (by omega) ok2 h10 h
theorem turn_1 {l : List Nat} (h0 : l.all okN = true) (h1 : 1 ≤ l.length) (hl : l.length ≤ 24) {s0 s3 s4 s5 s6 s7 s8 s9 s10 s11 : D.Slot} {d : DrawSt} {n : Nat} (ok : zqo d (n + 200)) {nx bk ct : DS → Prop} {rt : QE} {E : EK}
 (h10 : s10 = none ∨ s10 = some (.opq, false)) (h : ∀ (s3 s4 s5 s6 s7 s8 s9 s11 : D.Slot) d', zqo d' n → nx ⟨SL9 s0 (some (sD l, false)) s3 s4 s5 s6 s7 s8 s9 (some (.opq, false)) s11, [.draw d']⟩) :
 XS (b_16_7 ⟨SL9 s0 (some (sD l, false)) s3 s4 s5 s6 s7 s8 s9 s10 s11, [.draw d]⟩) ⟨nx, bk, ct, rt⟩ E := by
 have hsl : sizeLine = 16777216 := zqy
 unfold b_16_7 SL9
 walk_at "wx"
 refine sp_entry (l := l) (many := 60) (k := n + 6) rfl (by omega) (ok.mono (by omega)) fun e d5 el hdt hdl ht hnt hnl ok5 => ?_
 have g : e.Gd := ⟨by rw [el]; exact h0, by rw [el]; exact h1, by rw [el]; exact hl, hdt, by omega, ht, hnt, hnl⟩
 walk_at "wx"
 unfold u1_16_1
 walk_at "wx"
 refine sp_next (n := n + 5) ok5 (by decide) (by decide) fun r d1 kd r0 r1 ok1 => ?_
 walk_at "wx"
 refine IfK.dec (fun hc => ?_) (fun hc => ?_)
 · walk_at "wx"
   have ef : (List.replicate (Int.toNat 1500) (nL e.data ++ [DV.int 80])).flatten = nL ((List.replicate 1500 (e.data ++ [80])).flatten) := by
    rw [show nL e.data ++ [DV.int 80] = nL (e.data ++ [80]) from by rw [nL, nL, List.map_append]; rfl, show Int.toNat 1500 = 1500 from rfl]
    show (List.replicate 1500 (List.map _ _)).flatten = List.map _ (List.flatten _)
    rw [List.map_flatten, List.map_replicate]
   have ok8 : Crc.okB ((List.replicate 1500 (e.data ++ [80])).flatten) := fun x hx => by
    obtain ⟨y, hy, hx⟩ := List.mem_flatten.mp hx
    rw [List.eq_of_mem_replicate hy] at hx
    rcases List.mem_append.mp hx with hx | hx
    · exact hdt x hx
    · rw [List.mem_singleton.mp hx]; decide
   rw [ef]
   generalize (List.replicate 1500 (e.data ++ [80])).flatten = big at ok8
   rw [show (1500 : Int) = ((1500 : Nat) : Int) from rfl, cut_hi, ← List.map_take]
   have g2 : ({ e with data := big.take 1500 } : Ent).Gd := ⟨g.l0, g.l1, g.l2, fun x hx => ok8 x (List.mem_of_mem_take hx), by show (big.take 1500).length ≤ 1500; rw [List.length_take]; omega, g.t, g.n0, g.n1⟩
   exact turn_2 hl g2 ok1 h10 h
 · walk_at "wx"
   exact turn_2 hl g ok1 h10 h
theorem law_kept : KeptBy F_16 63 := x_kept_of fun ns hl => by
 have hsl : sizeLine = 16777216 := zqy
 unfold F_16
 refine zqB rfl ?_
 unfold sv_16 t_16_1
 walk_at "wx"
 refine x_begun_eqD hl fun d ok => ?_
 walk_at "wx"
 refine sp_titles (N := 6) (k := 2000) (by decide) rfl (ok.mono (by decide)) fun ls d1 hls hnd hll ok1 => ?_
 walk_at "wx"
 refine x_wfor (fun r st => ∃ (rest : List (List Nat)) (s2 s3 s4 s5 s6 s7 s8 s9 s10 s11 : D.Slot) (d : DrawSt), r = rest.map sD ∧ (∀ l ∈ rest, l.all okN = true ∧ 1 ≤ l.length ∧ l.length ≤ 24) ∧ (s10 = none ∨ s10 = some (.opq, false)) ∧ st = ⟨SL9 (some (.scr ns, false)) s2 s3 s4 s5 s6 s7 s8 s9 s10 s11, [.draw d]⟩ ∧ zqo d (300 * rest.length)) _ _ ⟨ls, none, none, none, none, none, none, none, none, none, none, d1, rfl, hls, .inl rfl, rfl, ok1.mono (by omega)⟩ ?_ ?_
 · rintro x r st ⟨rest, s2, s3, s4, s5, s6, s7, s8, s9, s10, s11, d, e1, hr, h10, rfl, ok⟩
   cases rest with
   | nil => cases e1
   | cons l rest =>
    injection e1 with e2 e3
    subst e2 e3
    rw [List.length_cons] at ok
    obtain ⟨a1, a2, a3⟩ := hr l List.mem_cons_self
    unfold SL9
    walk_at "wx"
    refine turn_1 a1 a2 a3 (n := 300 * rest.length) (ok.mono (by omega)) h10 fun s3 s4 s5 s6 s7 s8 s9 s11 d' ok' => ?_
    exact ⟨rest, _, s3, s4, s5, s6, s7, s8, s9, _, s11, d', rfl, fun y hy => hr y (List.mem_cons_of_mem _ hy), .inr rfl, rfl, ok'⟩
 · rintro st ⟨rest, s2, s3, s4, s5, s6, s7, s8, s9, s10, s11, d, e1, hr, h10, rfl, ok⟩
   have e0 : Str.ofString "" = S [] := by decide +kernel
   unfold t_16_2 SL9
   walk_at "wx"
   rw [e0]
   refine sp_end_of (n := 0) (z := 0) (p := 0) (nt := []) (by decide) (by decide) (by decide) rfl (by decide) ?_
   refine bk_sn safe_nL rfl ?_
   walk_at "wx"
   refine sp_l_end (many := 0) (wide := 0) (spot := 0) (note := []) rfl rfl rfl (by decide) ?_
   refine bk_sn safe_nL rfl ?_
   walk_at "wx"
   refine sp_end_of (n := 20) (z := 4294967295) (p := 0) (nt := []) (by decide) (by decide) (by decide) rfl (by decide) ?_
   refine bk_sn safe_nL rfl ?_
   walk_at "wx"
   first | rfl | kernel_rfl | decide +kernel
end Law
theorem PySem.Challenge.cw_endlist_k09_records_rows_ends_written_holds : PySem.Challenge.rw_endlist_k09_records_rows_ends_written.Holds :=
 Law.end_of Law.law_kept
