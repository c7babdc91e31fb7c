import PyProof.Rows.All
import Wide.All
import OpenK.AllK
import Wide.FinOn
import HandS.ForMost
import HandS.Exc
import HandS.TryOnly
import HandS.ExcOwn
import HandS.WordsExc
import HandS.Wide
import HandS.IsInst
import HandS.ExcInit
import HandS.Zip
import HandS.TupAny
import HandS.EndBits
import HandS.Defaults
import HandS.ExcField
import HandS.ExcIs
import KE.KExcIs
import HandS.ClsMeth
import HandS.SortInts
import HandS.SortOrd
import HandS.WideBits
import HandS.Comp
import KE.SortData
import HandS.Text
import HandS.More
import HandS.Rev
import HandS.RevRange
import HandS.Strs
import KE.DataFind
import KE.GoesMore
import KE.GoesEnum
import HandS.RevTup
import KE.KTupSum
import KE.KEqSeq
import HandS.SetFor
import HandS.SetKeys
import PyProof.StrOps2
import HandS.Replace
import HandS.TupMul
import HandS.HotCalls
import KE.KIndexOf
import HandS.Dict
import PyProof.NeKinds
import PyProof.Rows.EqBoolInt
import HandS.Iter
import HandS.Conv
import HandS.DictTup
import HandS.ReCall
import HandS.TupLen
import KE.KDictSum
import KE.KDictCopyH
import PyProof.ListNew
import KE.KRevIter
import PyProof.Rows.TupDisplay
import HandS.TryElse
import HandS.RaiseMore
import PySem.Challenge.RW_lateknow_k81_game_read
import KE.OsRunLaw
set_option Elab.async false
set_option linter.all false
set_option maxRecDepth 100000
set_option maxHeartbeats 4000000
theorem hd_split {s1 c1 c2 c3 c4 c5 c6 c7 c8 c9 : Type} {o : Option s1} {g : s1 → c1 × c2 × c3 × c4 × c5 × c6 × c7 × c8 × c9} {b : c1 × c2 × c3 × c4 × c5 × c6 × c7 × c8 × c9} {b1 : c1} {b2 : c2} {b3 : c3} {b4 : c4} {b5 : c5} {b6 : c6} {b7 : c7} {b8 : c8} {b9 : c9}
    (q1 : o.map (fun s => (g s).2.2.2.1) = some b4) (q2 : o.map (fun s => (g s).1) = some b1) (q5 : o.map (fun s => (g s).2.2.1) = some b3) (q3 : o.map (fun s => (g s).2.2.2.2.2.1) = some b6)
    (q7 : o.map (fun s => ((g s).2.1, (g s).2.2.2.2.1, (g s).2.2.2.2.2.2.1, (g s).2.2.2.2.2.2.2.2)) = some (b2, b5, b7, b9)) (q6 : o.map (fun s => (g s).2.2.2.2.2.2.2.1) = some b8) (hb : b = (b1, b2, b3, b4, b5, b6, b7, b8, b9)) :
    (o.map (fun s => (g s).1) = some b.1 ∧ o.map (fun s => (g s).2.1) = some b.2.1) ∧ o.map (fun s => (g s).2.2.1) = some b.2.2.1 ∧ o.map (fun s => (g s).2.2.2) = some b.2.2.2 := by
  cases o with
  | none => cases q1
  | some x =>
    injection q1 with q1
    injection q2 with q2
    injection q3 with q3
    injection q5 with q5
    injection q6 with q6
    injection q7 with q7
    injection q7 with q71 q7
    injection q7 with q72 q7
    injection q7 with q73 q74
    have e : g x = b := by
      rw [hb, ← q1, ← q2, ← q3, ← q5, ← q6, ← q71, ← q72, ← q73, ← q74]
    show (some (g x).1 = some b.1 ∧ some (g x).2.1 = some b.2.1) ∧ some (g x).2.2.1 = some b.2.2.1 ∧ some (g x).2.2.2 = some b.2.2.2
    rw [e]
    exact ⟨⟨rfl, rfl⟩, rfl, rfl⟩
theorem hd_join {s1 a1 b1 b2 b3 b4 d1 : Type} {o : Option s1} {f : s1 → a1} {g : s1 → b1 × b2 × b3 × b4} {h : s1 → d1} {a : a1} {b : b1 × b2 × b3 × b4} {c : d1} (h1 : o.map f = some a) (h2 : o.map (fun s => (g s).1) = some b.1) (h3 : o.map (fun s => (g s).2.1) = some b.2.1) (h5 : o.map (fun s => (g s).2.2.1) = some b.2.2.1) (h6 : o.map (fun s => (g s).2.2.2) = some b.2.2.2) (h4 : o.map h = some c) : o.map (fun s => (f s, g s, h s)) = some (a, b, c) := by
  cases o with
  | none => cases h1
  | some x =>
    injection h1 with h1
    injection h2 with h2
    injection h3 with h3
    injection h4 with h4
    injection h5 with h5
    injection h6 with h6
    have e : g x = b := Prod.ext h2 (Prod.ext h3 (Prod.ext h5 h6))
    show some (f x, g x, h x) = some (a, b, c)
    rw [h1, e, h4]
section
open PySem PySem.W PySem.Calls PyProof.Rows
def hdv : Program := { (PySem.Challenge.rw_lateknow_k81_game_read.row.toRowW).prog with main := { (PySem.Challenge.rw_lateknow_k81_game_read.row.toRowW).prog.main with body := [0, 2, 3, 4, 6, 7, 8, 9, 10, 11, 12, 13, 14, 16, 17, 19, 20, 22, 23, 24, 25, 26, 28, 29, 31, 32, 34, 35, 37, 38, 39, 40, 41, 42, 43, 44, 45, 46, 47, 49, 50, 51, 52, 53, 54, 55, 56, 57, 58, 59, 60, 61, 62].filterMap fun i => (PySem.Challenge.rw_lateknow_k81_game_read.row.toRowW).prog.main.body[i]? } }
noncomputable def hdg (s : SharedT) := HeadRun.seenQ hdv ([PySem.Str.ofString "LateError", PySem.Str.ofString "Changer"] : List PySem.Str) (importedModules (PySem.Challenge.rw_lateknow_k81_game_read.row.toRowW).prog.main.body) (fun s => xlAt hdv ([] : List (PySem.Str × WData)) s && recOk (RowW.records PySem.Challenge.rw_lateknow_k81_game_read.row.toRowW) s) s.abs
theorem hdb : openGood hdv ([PySem.Str.ofString "LateError", PySem.Str.ofString "Changer"] : List PySem.Str) = ((PyProof.Rows.Seen.mk (PySem.W.R.mapR (fun d => some d.shape) (PySem.W.Fast.tw3399658132070893891 hdv)) true [] true true true 0), bltViewBooted, true, true, pinGoodD (drecsOf hdv), (PySem.W.R.mapR (fun c => some c.withCmp.plainShape) (PySem.W.Fast.tw210736558901404530 hdv (PySem.W.Fast.tw821141287760084731 hdv ([PySem.Str.ofString "LateError", PySem.Str.ofString "Changer"] : List PySem.Str)))), plainGoodD hdv ([PySem.Str.ofString "LateError", PySem.Str.ofString "Changer"] : List PySem.Str), (PySem.W.R.mapR (fun d => some d.1.shape) (PySem.W.Fast.tw694669760492028198 hdv), true), clsGoodW hdv ([PySem.Str.ofString "LateError", PySem.Str.ofString "Changer"] : List PySem.Str)) := by
  rw [← PySem.W.R.mapR_eq, ← PySem.W.Fast.te3399658132070893891, ← PySem.W.Fast.te210736558901404530, ← PySem.W.Fast.te821141287760084731, ← PySem.W.Fast.te694669760492028198]
  rfl
theorem hrT (w : World) (os : OsState) : (HeadRun.endF (HeadRun.stepQ (HeadRun.denQ HeadRun.tabQ) (PySem.Challenge.rw_lateknow_k81_game_read.row.toRowW).prog w) 14354 (PySem.Challenge.rw_lateknow_k81_game_read.row.toRowW).prog w os).map (fun s => (hdg s).2.2.2.1) = some true := by kernel_rfl
theorem hrS (w : World) (os : OsState) : (HeadRun.endF (HeadRun.stepQ (HeadRun.denQ HeadRun.tabQ) (PySem.Challenge.rw_lateknow_k81_game_read.row.toRowW).prog w) 14354 (PySem.Challenge.rw_lateknow_k81_game_read.row.toRowW).prog w os).map (fun s => (hdg s).1) = some (PyProof.Rows.Seen.mk (PySem.W.R.mapR (fun d => some d.shape) (PySem.W.Fast.tw3399658132070893891 hdv)) true [] true true true 0) := by kernel_rfl
theorem hrD (w : World) (os : OsState) : (HeadRun.endF (HeadRun.stepQ (HeadRun.denQ HeadRun.tabQ) (PySem.Challenge.rw_lateknow_k81_game_read.row.toRowW).prog w) 14354 (PySem.Challenge.rw_lateknow_k81_game_read.row.toRowW).prog w os).map (fun s => (hdg s).2.2.1) = some true := by kernel_rfl
theorem hrP (w : World) (os : OsState) : (HeadRun.endF (HeadRun.stepQ (HeadRun.denQ HeadRun.tabQ) (PySem.Challenge.rw_lateknow_k81_game_read.row.toRowW).prog w) 14354 (PySem.Challenge.rw_lateknow_k81_game_read.row.toRowW).prog w os).map (fun s => (hdg s).2.2.2.2.2.1) = some (PySem.W.R.mapR (fun c => some c.withCmp.plainShape) (PySem.W.Fast.tw210736558901404530 hdv (PySem.W.Fast.tw821141287760084731 hdv ([PySem.Str.ofString "LateError", PySem.Str.ofString "Changer"] : List PySem.Str)))) := by kernel_rfl
theorem hrG (w : World) (os : OsState) : (HeadRun.endF (HeadRun.stepQ (HeadRun.denQ HeadRun.tabQ) (PySem.Challenge.rw_lateknow_k81_game_read.row.toRowW).prog w) 14354 (PySem.Challenge.rw_lateknow_k81_game_read.row.toRowW).prog w os).map (fun s => ((hdg s).2.1, (hdg s).2.2.2.2.1, (hdg s).2.2.2.2.2.2.1, (hdg s).2.2.2.2.2.2.2.2)) = some (bltViewBooted, pinGoodD (drecsOf hdv), plainGoodD hdv ([PySem.Str.ofString "LateError", PySem.Str.ofString "Changer"] : List PySem.Str), clsGoodW hdv ([PySem.Str.ofString "LateError", PySem.Str.ofString "Changer"] : List PySem.Str)) := by kernel_rfl
theorem hrW (w : World) (os : OsState) : (HeadRun.endF (HeadRun.stepQ (HeadRun.denQ HeadRun.tabQ) (PySem.Challenge.rw_lateknow_k81_game_read.row.toRowW).prog w) 14354 (PySem.Challenge.rw_lateknow_k81_game_read.row.toRowW).prog w os).map (fun s => (hdg s).2.2.2.2.2.2.2.1) = some (PySem.W.R.mapR (fun d => some d.1.shape) (PySem.W.Fast.tw694669760492028198 hdv), true) := by kernel_rfl
theorem hrL (w : World) (os : OsState) : (HeadRun.endF (HeadRun.stepQ (HeadRun.denQ HeadRun.tabQ) (PySem.Challenge.rw_lateknow_k81_game_read.row.toRowW).prog w) 14354 (PySem.Challenge.rw_lateknow_k81_game_read.row.toRowW).prog w os).map (fun s => HeadRun.looksF (PySem.Challenge.rw_lateknow_k81_game_read.row.toRowW).prog (boot_heap w.params) s.abs) = some true := by kernel_rfl
theorem hdA (w : World) (os : OsState) : (HeadRun.endF (HeadRun.stepQ (HeadRun.denQ HeadRun.tabQ) (PySem.Challenge.rw_lateknow_k81_game_read.row.toRowW).prog w) 14354 (PySem.Challenge.rw_lateknow_k81_game_read.row.toRowW).prog w os).map (fun s => HeadRun.looksF (PySem.Challenge.rw_lateknow_k81_game_read.row.toRowW).prog (boot_heap w.params) s.abs) = some true := hrL w os
theorem hdB (w : World) (os : OsState) : (HeadRun.endF (HeadRun.stepQ (HeadRun.denQ HeadRun.tabQ) (PySem.Challenge.rw_lateknow_k81_game_read.row.toRowW).prog w) 14354 (PySem.Challenge.rw_lateknow_k81_game_read.row.toRowW).prog w os).map (fun s => (HeadRun.seenQ hdv ([PySem.Str.ofString "LateError", PySem.Str.ofString "Changer"] : List PySem.Str) (importedModules (PySem.Challenge.rw_lateknow_k81_game_read.row.toRowW).prog.main.body) (fun s => xlAt hdv ([] : List (PySem.Str × WData)) s && recOk (RowW.records PySem.Challenge.rw_lateknow_k81_game_read.row.toRowW) s) s.abs).1) = some (openGood hdv ([PySem.Str.ofString "LateError", PySem.Str.ofString "Changer"] : List PySem.Str)).1 := (hd_split (g := hdg) (hrT w os) (hrS w os) (hrD w os) (hrP w os) (hrG w os) (hrW w os) hdb).1.1
theorem hdC (w : World) (os : OsState) : (HeadRun.endF (HeadRun.stepQ (HeadRun.denQ HeadRun.tabQ) (PySem.Challenge.rw_lateknow_k81_game_read.row.toRowW).prog w) 14354 (PySem.Challenge.rw_lateknow_k81_game_read.row.toRowW).prog w os).map (fun s => (HeadRun.seenQ hdv ([PySem.Str.ofString "LateError", PySem.Str.ofString "Changer"] : List PySem.Str) (importedModules (PySem.Challenge.rw_lateknow_k81_game_read.row.toRowW).prog.main.body) (fun s => xlAt hdv ([] : List (PySem.Str × WData)) s && recOk (RowW.records PySem.Challenge.rw_lateknow_k81_game_read.row.toRowW) s) s.abs).2.1) = some (openGood hdv ([PySem.Str.ofString "LateError", PySem.Str.ofString "Changer"] : List PySem.Str)).2.1 := (hd_split (g := hdg) (hrT w os) (hrS w os) (hrD w os) (hrP w os) (hrG w os) (hrW w os) hdb).1.2
theorem hdD (w : World) (os : OsState) : (HeadRun.endF (HeadRun.stepQ (HeadRun.denQ HeadRun.tabQ) (PySem.Challenge.rw_lateknow_k81_game_read.row.toRowW).prog w) 14354 (PySem.Challenge.rw_lateknow_k81_game_read.row.toRowW).prog w os).map (fun s => (HeadRun.seenQ hdv ([PySem.Str.ofString "LateError", PySem.Str.ofString "Changer"] : List PySem.Str) (importedModules (PySem.Challenge.rw_lateknow_k81_game_read.row.toRowW).prog.main.body) (fun s => xlAt hdv ([] : List (PySem.Str × WData)) s && recOk (RowW.records PySem.Challenge.rw_lateknow_k81_game_read.row.toRowW) s) s.abs).2.2.1) = some (openGood hdv ([PySem.Str.ofString "LateError", PySem.Str.ofString "Changer"] : List PySem.Str)).2.2.1 := (hd_split (g := hdg) (hrT w os) (hrS w os) (hrD w os) (hrP w os) (hrG w os) (hrW w os) hdb).2.1
theorem hdE (w : World) (os : OsState) : (HeadRun.endF (HeadRun.stepQ (HeadRun.denQ HeadRun.tabQ) (PySem.Challenge.rw_lateknow_k81_game_read.row.toRowW).prog w) 14354 (PySem.Challenge.rw_lateknow_k81_game_read.row.toRowW).prog w os).map (fun s => (HeadRun.seenQ hdv ([PySem.Str.ofString "LateError", PySem.Str.ofString "Changer"] : List PySem.Str) (importedModules (PySem.Challenge.rw_lateknow_k81_game_read.row.toRowW).prog.main.body) (fun s => xlAt hdv ([] : List (PySem.Str × WData)) s && recOk (RowW.records PySem.Challenge.rw_lateknow_k81_game_read.row.toRowW) s) s.abs).2.2.2) = some (openGood hdv ([PySem.Str.ofString "LateError", PySem.Str.ofString "Changer"] : List PySem.Str)).2.2.2 := (hd_split (g := hdg) (hrT w os) (hrS w os) (hrD w os) (hrP w os) (hrG w os) (hrW w os) hdb).2.2
local macro_rules | `(tactic| k_head) => `(tactic| k_headL)
local macro_rules | `(tactic| intro $a:term $b:term) => `(tactic| (intro $a:term; intro $b:term; refine hd_join ?_ ?_ ?_ ?_ ?_ ?_; exact hdA $a $b; exact hdB $a $b; exact hdC $a $b; exact hdD $a $b; exact hdE $a $b))
set_option maxHeartbeats 0 in
open_top hd0 for PySem.Challenge.rw_lateknow_k81_game_read
end
namespace Lk
open PySem L2
inductive Cl where
  | lateError | noState | noWish | noText | tooGreat | world | rule | bound | hire | buyer | line | both | nearest
  | shelf | front | ways | changer | store | keeper | bags | filler
  deriving DecidableEq
inductive Fl where
  | world | now | total | whole | hired | many | things | toll | known | kept | room | opened | row
  deriving DecidableEq
def Fl.nm : Fl → Str
  | .world => "world" | .now => "now" | .total => "total" | .whole => "whole" | .hired => "hired" | .many => "many"
  | .things => "things" | .toll => "toll" | .known => "known" | .kept => "kept" | .room => "room" | .opened => "opened" | .row => "row"
theorem Fl.nm_ne : ∀ f g : Fl, f ≠ g → f.nm ≠ g.nm := by
  intro f g h
  cases f <;> cases g <;> first | exact absurd rfl h | exact (by decide +kernel)
inductive D where
  | non | bl (b : Bool) | int (i : Int) | str (x : Str) | ref (n : Nat)
  | tup (xs : List D) | lst (xs : List D) | rol (ns : List Int) | dct
  | pr (xs : List D)
inductive SV where
  | no | v (d : D) | own (xs : List D) | ownd (t : Option (List Key → Int)) (kvs : List (D × D)) | exc (c : Cl) (row : D) (a d : Addr)
def SV.mutb : SV → Bool
  | .own _ => true
  | .ownd _ _ => true
  | _ => false
inductive Ob where
  | ins (c : Cl) (fs : List (Fl × D)) | lst (xs : List D) | gone | xin (c : Cl) (row : D)
structure Sx where
  env : List SV
  hp : List Ob
inductive RX where
  | w (d : D) | sl (i : Nat) | fr (xs : List D) | frd
inductive Rs (α : Type) where
  | ok (a : α) (s : Sx) | exc (c : Cl) (row : D) (s : Sx) | stuck
def Rs.bind {α β : Type} (r : Rs α) (k : α → Sx → Rs β) : Rs β :=
  match r with
  | .ok a s => k a s
  | .exc c d s => .exc c d s
  | .stuck => .stuck
abbrev E := Sx → Rs RX
def Sub (F H : Hp) : Prop := ∀ a o, F a = some o → H a = some o
theorem Sub.refl (F : Hp) : Sub F F := fun _ _ h => h
theorem Sub.trans {F G H : Hp} (a : Sub F G) (b : Sub G H) : Sub F H := fun x o h => b x o (a x o h)
theorem Sub.none {F H : Hp} (a : Sub F H) {p : Addr} (h : H p = none) : F p = none := by
  cases e : F p with
  | none => rfl
  | some o => rw [a p o e] at h; cases h
theorem Sub.upd {F H : Hp} {p : Addr} {o : HO} (a : Sub F H) : Sub (upd F p o) (upd H p o) := fun x u h => by
  by_cases e : x = p
  · subst e; rw [upd_same] at h ⊢; exact h
  · rw [upd_ne e] at h ⊢; exact a x u h
theorem Sub.updR {F H : Hp} {p : Addr} {o : HO} (a : Sub F H) (h : F p = Option.none) : Sub F (L2.upd H p o) := fun x u hx => by
  have e : x ≠ p := ne_of_none hx h
  rw [upd_ne e]; exact a x u hx
theorem Sub.grow {F : Hp} {p : Addr} {o : HO} (h : F p = Option.none) : Sub F (L2.upd F p o) := Sub.updR (Sub.refl F) h
theorem Sub.rd {F H : Hp} {a : Addr} {u : HO} (e : Sub F H) (h : Rd F a u) : Rd H a u := by
  rcases h with h | ⟨o, h⟩
  · exact Or.inl (e a _ h)
  · exact Or.inr ⟨o, e a _ h⟩
theorem Sub.sqL {K : PySem.W.Frag} {F H : Hp} {a : Addr} {xs : List V} (e : Sub F H) (h : SqL K F a xs) : SqL K H a xs := by
  rcases h with h | h
  · exact Or.inl (e.rd h)
  · exact Or.inr h
def tupO (ob : Obj) (vs : List V) : HO := .frz ob (.tup vs)
def TupAt (F : Hp) (a : Addr) (vs : List V) : Prop := ∃ ob, F a = some (tupO ob vs) ∧ ob.dict = none
theorem TupAt.mono {F F' : Hp} {a : Addr} {vs : List V} (h : TupAt F a vs) (e : Sub F F') : TupAt F' a vs := by
  obtain ⟨ob, h, d⟩ := h
  exact ⟨ob, e a _ h, d⟩
theorem TupAt.sqt {K : PySem.W.Frag} {F H : Hp} {a : Addr} {vs : List V} (h : TupAt F a vs) (e : Sub F H) : SqT K H a vs := by
  obtain ⟨ob, h, d⟩ := h
  exact .inl (.inr ⟨ob, e a _ h⟩)
theorem TupAt.some {F : Hp} {a : Addr} {vs : List V} (h : TupAt F a vs) : ∃ o, F a = some o := by
  obtain ⟨ob, h, d⟩ := h
  exact ⟨_, h⟩
theorem TupAt.inj {F : Hp} {a : Addr} {vs us : List V} (h : TupAt F a vs) (h' : TupAt F a us) : vs = us := by
  obtain ⟨ob, h, _⟩ := h
  obtain ⟨ob', h', _⟩ := h'
  rw [h] at h'
  injection h' with h'
  injection h' with _ h'
  injection h'
theorem tupO_at {F : Hp} {a : Addr} {ob : Obj} {vs : List V} (d : ob.dict = none) : TupAt (upd F a (tupO ob vs)) a vs := ⟨ob, upd_same, d⟩
theorem tupO_ok {P : Program} {w : World} {H : Hp} {h : Heap} {a : Addr} {ob : Obj} {vs : List V} (e : h.get? a = some ob) (x : ObjOk P w H h a (.tup vs)) : ObjOk P w H h a (tupO ob vs) := ⟨e, x⟩
mutual
def RW (K : PySem.W.Frag) (F : Hp) (m : List Addr) : D → V → Prop
  | .non, v => v = .non
  | .bl b, v => v = .bl b
  | .int i, v => v = .int i
  | .str x, v => v = .str x
  | .ref n, v => ∃ a, m[n]? = some a ∧ v = .ref a
  | .tup xs, v => ∃ a vs, v = .ref a ∧ TupAt F a vs ∧ RWs K F m xs vs
  | .pr xs, v => ∃ a vs, v = .ref a ∧ F a = some (.tup vs) ∧ RWs K F m xs vs
  | .lst xs, v => ∃ a vs, v = .ref a ∧ F a = some (.lst vs) ∧ RWs K F m xs vs
  | .rol ns, v => ∃ a, v = .ref a ∧ SqL K F a (ns.map V.int)
  | .dct, v => ∃ a kvs, v = .ref a ∧ F a = some (.dK kvs)
def RWs (K : PySem.W.Frag) (F : Hp) (m : List Addr) : List D → List V → Prop
  | [], vs => vs = []
  | x :: xs, vs => ∃ v r, vs = v :: r ∧ RW K F m x v ∧ RWs K F m xs r
end
section
variable {K : PySem.W.Frag} {F F' : Hp} {m m' : List Addr}
theorem get_prefix (h : m <+: m') {n : Nat} {a : Addr} (e : m[n]? = some a) : m'[n]? = some a := by
  obtain ⟨r, rfl⟩ := h
  rw [List.getElem?_append_left (List.getElem?_eq_some_iff.mp e).1]
  exact e
mutual
theorem RW.mono (hF : Sub F F') (hm : m <+: m') : ∀ (d : D) (v : V), RW K F m d v → RW K F' m' d v
  | .non, _, h => h
  | .bl _, _, h => h
  | .int _, _, h => h
  | .str _, _, h => h
  | .ref n, _, ⟨a, h, e⟩ => ⟨a, get_prefix hm h, e⟩
  | .tup xs, _, ⟨a, vs, e, h, r⟩ => ⟨a, vs, e, h.mono hF, RWs.mono hF hm xs vs r⟩
  | .pr xs, _, ⟨a, vs, e, h, r⟩ => ⟨a, vs, e, hF a _ h, RWs.mono hF hm xs vs r⟩
  | .lst xs, _, ⟨a, vs, e, h, r⟩ => ⟨a, vs, e, hF a _ h, RWs.mono hF hm xs vs r⟩
  | .rol ns, _, ⟨a, e, h⟩ => ⟨a, e, hF.sqL h⟩
  | .dct, _, ⟨a, kvs, e, h⟩ => ⟨a, kvs, e, hF a _ h⟩
theorem RWs.mono (hF : Sub F F') (hm : m <+: m') : ∀ (xs : List D) (vs : List V), RWs K F m xs vs → RWs K F' m' xs vs
  | [], _, h => h
  | x :: xs, _, ⟨v, r, e, h, t⟩ => ⟨v, r, e, RW.mono hF hm x v h, RWs.mono hF hm xs r t⟩
end
theorem RWs.nil : RWs K F m [] [] := rfl
theorem RWs.cons {x : D} {v : V} {xs : List D} {vs : List V} (h : RW K F m x v) (t : RWs K F m xs vs) : RWs K F m (x :: xs) (v :: vs) := ⟨v, vs, rfl, h, t⟩
theorem RWs.length : ∀ {xs : List D} {vs : List V}, RWs K F m xs vs → xs.length = vs.length
  | [], _, h => by
    have h' : _ = [] := h
    rw [h'] <;> rfl
  | x :: xs, _, ⟨v, r, e, h, t⟩ => by rw [e, List.length_cons, List.length_cons, RWs.length t]
theorem RWs.append : ∀ {xs ys : List D} {vs ws : List V}, RWs K F m xs vs → RWs K F m ys ws → RWs K F m (xs ++ ys) (vs ++ ws)
  | [], _, _, _, h, t => by
    have e : _ = [] := h
    rw [e]; exact t
  | x :: xs, _, _, _, ⟨v, r, e, h, t⟩, u => by
    rw [e]; exact ⟨v, r ++ _, rfl, h, RWs.append t u⟩
theorem RWs.get : ∀ {xs : List D} {vs : List V} {i : Nat} {x : D}, RWs K F m xs vs → xs[i]? = some x → ∃ v, vs[i]? = some v ∧ RW K F m x v
  | [], _, _, _, _, e => by simp at e
  | y :: ys, _, 0, x, ⟨v, r, e, h, t⟩, q => by
    simp at q; subst q; subst e; exact ⟨v, rfl, h⟩
  | y :: ys, _, i + 1, x, ⟨v, r, e, h, t⟩, q => by
    subst e
    obtain ⟨u, h1, h2⟩ := RWs.get (i := i) (x := x) t (by simpa using q)
    exact ⟨u, by simpa using h1, h2⟩
theorem RWs.getV : ∀ {xs : List D} {vs : List V} {i : Nat} {v : V}, RWs K F m xs vs → vs[i]? = some v → ∃ x, xs[i]? = some x ∧ RW K F m x v
  | [], _, _, _, h, e => by
    have h' : _ = [] := h
    rw [h'] at e; simp at e
  | y :: ys, _, 0, x, ⟨v, r, e, h, t⟩, q => by
    subst e; simp at q; subst q; exact ⟨y, rfl, h⟩
  | y :: ys, _, i + 1, x, ⟨v, r, e, h, t⟩, q => by
    subst e
    obtain ⟨u, h1, h2⟩ := RWs.getV (i := i) (v := x) t (by simpa using q)
    exact ⟨u, by simpa using h1, h2⟩
theorem RWs.take : ∀ {xs : List D} {vs : List V} (n : Nat), RWs K F m xs vs → RWs K F m (xs.take n) (vs.take n)
  | _, _, 0, _ => by rw [List.take_zero, List.take_zero]; exact RWs.nil
  | [], _, n + 1, h => by
    have h' : _ = [] := h
    rw [h']; exact RWs.nil
  | x :: xs, _, n + 1, ⟨v, r, e, h, t⟩ => by
    subst e; exact ⟨v, _, rfl, h, RWs.take n t⟩
theorem RWs.drop : ∀ {xs : List D} {vs : List V} (n : Nat), RWs K F m xs vs → RWs K F m (xs.drop n) (vs.drop n)
  | _, _, 0, h => by rw [List.drop_zero, List.drop_zero]; exact h
  | [], _, n + 1, h => by
    have h' : _ = [] := h
    rw [h']; exact RWs.nil
  | x :: xs, _, n + 1, ⟨v, r, e, h, t⟩ => by
    subst e; exact RWs.drop n t
theorem RWs.set {y : D} {w : V} (hy : RW K F m y w) : ∀ {xs : List D} {vs : List V} (n : Nat), RWs K F m xs vs → RWs K F m (xs.set n y) (vs.set n w)
  | [], _, n, h => by
    have h' : _ = [] := h
    rw [h']; exact RWs.nil
  | x :: xs, _, 0, ⟨v, r, e, h, t⟩ => by
    subst e; exact ⟨w, r, rfl, hy, t⟩
  | x :: xs, _, n + 1, ⟨v, r, e, h, t⟩ => by
    subst e; exact ⟨v, _, rfl, h, RWs.set hy n t⟩
theorem RWs.ints : ∀ (ns : List Int), RWs K F m (ns.map D.int) (ns.map V.int)
  | [] => RWs.nil
  | n :: ns => ⟨_, _, rfl, rfl, RWs.ints ns⟩
def RP (K : PySem.W.Frag) (F : Hp) (m : List Addr) (H : Hp) : D → V → Prop
  | .lst xs, v => ∃ a vs, v = .ref a ∧ H a = some (.lst vs) ∧ RWs K F m xs vs
  | d, v => RW K F m d v
theorem RW.rp {H : Hp} (hF : Sub F H) : ∀ {d : D} {v : V}, RW K F m d v → RP K F m H d v
  | .lst xs, _, ⟨a, vs, e, h, r⟩ => ⟨a, vs, e, hF a _ h, r⟩
  | .non, _, h => h
  | .bl _, _, h => h
  | .int _, _, h => h
  | .str _, _, h => h
  | .ref _, _, h => h
  | .tup _, _, h => h
  | .pr _, _, h => h
  | .rol _, _, h => h
  | .dct, _, h => h
end
section
variable (K : PySem.W.Frag) (ca : Cl → Addr)
def FsR (F : Hp) (m : List Addr) : List (Fl × D) → List (Str × V) → Prop
  | [], gs => gs = []
  | (f, d) :: fs, gs => ∃ v r, gs = (f.nm, v) :: r ∧ RW K F m d v ∧ FsR F m fs r
def ObR (F : Hp) (m : List Addr) (H : Hp) (a : Addr) : Ob → Prop
  | .ins c fs => ∃ dx gs, H a = some (.ins (ca c) dx gs) ∧ FsR K F m fs gs
  | .lst xs => ∃ vs, H a = some (.lst vs) ∧ RWs K F m xs vs
  | .gone => True
  | .xin c row => ∃ d v, H a = some (exo a (ca c) (some d)) ∧ F d = some (exd d [(Fl.nm .row, v)]) ∧ RW K F m row v
def keyD : D → Option Key
  | .int i => some (.inl i)
  | .str x => some (.inr x)
  | _ => none
def KvK (F : Hp) (m : List Addr) : List (D × D) → List (Key × V) → Prop
  | [], ps => ps = []
  | (k, d) :: kvs, ps => ∃ k' v r, ps = (k', v) :: r ∧ keyD k = some k' ∧ RW K F m d v ∧ KvK F m kvs r
def keysD : List D → Option (List Key)
  | [] => some []
  | x :: xs => match keyD x, keysD xs with
    | some k, some ks => some (k :: ks)
    | _, _ => none
def dtO (a : Addr) (hs : List Key → Int) (xs : List (List Key × Addr × Value)) : HO := .ext fun h => (a == sysModules) = false ∧ xs.length ≤ sizeLine ∧
  ∃ o es ep, h.get? a = some o ∧ o.ExactDict ∧ o.data = .dict es ep ∧ es.toList = xs.map (fun x => (⟨hs x.1, .ref x.2.1, x.2.2⟩ : DictEntry)) ∧ (xs.map (·.1)).Nodup
def keyX : D → Option (List Key)
  | .tup ys => keysD ys
  | _ => none
def KvX (F : Hp) (m : List Addr) : List (D × D) → List (List Key × Addr × Value) → Prop
  | [], xs => xs = []
  | (k, d) :: kvs, xs => ∃ ks b u v r, xs = (ks, b, u) :: r ∧ keyX k = some ks ∧ RW K F m k (.ref b) ∧ RW K F m d v ∧ RelV v u ∧ KvX F m kvs r
def DcR (F : Hp) (m : List Addr) (H : Hp) (a : Addr) : Option (List Key → Int) → List (D × D) → Prop
  | none, kvs => ∃ ps, H a = some (.dK ps) ∧ KvK K F m kvs ps
  | some hs, kvs => ∃ xs, H a = some (dtO a hs xs) ∧ KvX K F m kvs xs
def SlR (B F : Hp) (m : List Addr) (H : Hp) (σ : St) (i : Nat) : SV → Prop
  | .no => True
  | .v d => ∃ v, σ[i]? = some (some v) ∧ RW K F m d v
  | .own xs => ∃ a vs, σ[i]? = some (some (.ref a)) ∧ H a = some (.lst vs) ∧ RWs K F m xs vs ∧ F a = none ∧ B a = none ∧ a ∉ m
  | .ownd t kvs => ∃ a, σ[i]? = some (some (.ref a)) ∧ DcR K F m H a t kvs ∧ F a = none ∧ B a = none ∧ a ∉ m
  | .exc _ row a d => σ[i]? = some (some (.ref a)) ∧ ∃ v, F d = some (.xd [(Fl.nm .row, v)]) ∧ RW K F m row v
structure Cor (B F : Hp) (m : List Addr) (s : Sx) (σ : St) (H : Hp) : Prop where
  fh : Sub F H
  bh : Sub B H
  bf : ∀ a o, B a = some o → F a = none
  nd : m.Nodup
  mf : ∀ a ∈ m, F a = none ∧ B a = none
  md : ∀ a ∈ m, ∃ o, H a = some o
  ml : m.length = s.hp.length
  hp : ∀ (n : Nat) (o : Ob) (a : Addr), s.hp[n]? = some o → m[n]? = some a → ObR K ca F m H a o
  el : s.env.length = σ.length
  env : ∀ (i : Nat) (x : SV), s.env[i]? = some x → SlR K B F m H σ i x
  dis : ∀ (i j : Nat) (a : Addr) (x y : SV), s.env[i]? = some x → s.env[j]? = some y → x.mutb = true → y.mutb = true → σ[i]? = some (some (.ref a)) → σ[j]? = some (some (.ref a)) → i = j
def Free (B F : Hp) (m : List Addr) (s : Sx) (σ : St) (a : Addr) : Prop :=
  F a = none ∧ B a = none ∧ a ∉ m ∧ ∀ (i : Nat) (x : SV), s.env[i]? = some x → x.mutb = true → σ[i]? ≠ some (some (.ref a))
def RR (B F : Hp) (m : List Addr) (s : Sx) (σ : St) (H : Hp) : RX → V → Prop
  | .w d, v => RW K F m d v
  | .sl i, v => σ[i]? = some (some v) ∧ ∃ x, s.env[i]? = some x ∧ x.mutb = true
  | .fr xs, v => ∃ a vs, v = .ref a ∧ H a = some (.lst vs) ∧ RWs K F m xs vs ∧ Free B F m s σ a
  | .frd, v => ∃ a, v = .ref a ∧ H a = some (.dK []) ∧ Free B F m s σ a
end
section
variable {K : PySem.W.Frag} {ca : Cl → Addr} {B F F' : Hp} {m m' : List Addr} {s : Sx} {σ : St} {H H' : Hp}
theorem FsR.mono (hF : Sub F F') (hm : m <+: m') : ∀ {fs : List (Fl × D)} {gs : List (Str × V)}, FsR K F m fs gs → FsR K F' m' fs gs
  | [], _, h => h
  | (f, d) :: fs, _, ⟨v, r, e, h, t⟩ => ⟨v, r, e, RW.mono hF hm d v h, FsR.mono hF hm t⟩
theorem KvK.mono (hF : Sub F F') (hm : m <+: m') : ∀ {kvs : List (D × D)} {ps : List (Key × V)}, KvK K F m kvs ps → KvK K F' m' kvs ps
  | [], _, h => h
  | (k, d) :: kvs, _, ⟨k', v, r, e, hk, h, t⟩ => ⟨k', v, r, e, hk, RW.mono hF hm d v h, KvK.mono hF hm t⟩
theorem KvX.mono (hF : Sub F F') (hm : m <+: m') : ∀ {kvs : List (D × D)} {xs : List (List Key × Addr × Value)}, KvX K F m kvs xs → KvX K F' m' kvs xs
  | [], _, h => h
  | (k, d) :: kvs, _, ⟨ks, b, u, v, r, e, hk, hq, h, rv, t⟩ => ⟨ks, b, u, v, r, e, hk, RW.mono hF hm k _ hq, RW.mono hF hm d v h, rv, KvX.mono hF hm t⟩
theorem ObR.mono {a : Addr} (hF : Sub F F') (hm : m <+: m') (ha : H' a = H a) : ∀ {o : Ob}, ObR K ca F m H a o → ObR K ca F' m' H' a o
  | .ins c fs, ⟨dx, gs, h, r⟩ => ⟨dx, gs, ha.trans h, r.mono hF hm⟩
  | .lst xs, ⟨vs, h, r⟩ => ⟨vs, ha.trans h, RWs.mono hF hm xs vs r⟩
  | .gone, _ => trivial
  | .xin c row, ⟨d, v, h, e, r⟩ => ⟨d, v, ha.trans h, hF d _ e, RW.mono hF hm row v r⟩
theorem DcR.mono {a : Addr} {t : Option (List Key → Int)} {kvs : List (D × D)} (hF : Sub F F') (hm : m <+: m') (ha : H' a = H a) (h : DcR K F m H a t kvs) : DcR K F' m' H' a t kvs := by
  cases t with
  | none =>
    obtain ⟨ps, h, r⟩ := h
    exact ⟨ps, ha.trans h, r.mono hF hm⟩
  | some hs =>
    obtain ⟨ps, h, r⟩ := h
    exact ⟨ps, ha.trans h, r.mono hF hm⟩
theorem DcR.some {a : Addr} {t : Option (List Key → Int)} {kvs : List (D × D)} (h : DcR K F m H a t kvs) : ∃ o, H a = some o := by
  cases t with
  | none =>
    obtain ⟨ps, h, r⟩ := h
    exact ⟨_, h⟩
  | some hs =>
    obtain ⟨ps, h, r⟩ := h
    exact ⟨_, h⟩
theorem Cor.own_at (c : Cor K ca B F m s σ H) {i : Nat} {x : SV} {a : Addr} (h : s.env[i]? = some x) (hx : x.mutb = true) (e : σ[i]? = some (some (.ref a))) :
    (∃ o, H a = some o) ∧ F a = none ∧ B a = none ∧ a ∉ m := by
  have q := c.env i x h
  cases x with
  | own xs =>
    obtain ⟨b, vs, eb, hb, _, r⟩ := q
    rw [e] at eb; cases eb
    exact ⟨⟨_, hb⟩, r⟩
  | ownd t kvs =>
    obtain ⟨b, eb, hb, r⟩ := q
    rw [e] at eb; cases eb
    exact ⟨hb.some, r⟩
  | no => cases hx
  | v d => cases hx
  | exc _ _ _ _ => cases hx
theorem Cor.fresh (c : Cor K ca B F m s σ H) {p : Addr} (h : H p = none) : Free B F m s σ p := by
  refine ⟨c.fh.none h, c.bh.none h, fun hm => ?_, fun i x hi hx e => ?_⟩
  · obtain ⟨o, ho⟩ := c.md p hm
    rw [h] at ho; cases ho
  · obtain ⟨⟨o, ho⟩, _⟩ := c.own_at hi hx e
    rw [h] at ho; cases ho
theorem Cor.other (c : Cor K ca B F m s σ H) {p : Addr} {o : HO} (f : Free B F m s σ p) : Cor K ca B F m s σ (upd H p o) := by
  obtain ⟨f1, f2, f3, f4⟩ := f
  refine ⟨c.fh.updR f1, c.bh.updR f2, c.bf, c.nd, c.mf, fun a ha => ?_, c.ml, fun n o' a h1 h2 => ?_, c.el, fun i x h => ?_, c.dis⟩
  · obtain ⟨u, hu⟩ := c.md a ha
    refine ⟨u, ?_⟩
    rw [upd_ne]; exact hu
    rintro rfl; exact f3 ha
  · refine (c.hp n o' a h1 h2).mono (Sub.refl _) (List.prefix_refl _) (upd_ne ?_)
    rintro rfl; exact f3 (List.mem_of_getElem? h2)
  · have q := c.env i x h
    cases x with
    | no => trivial
    | v d => exact q
    | exc _ _ _ _ => exact q
    | own xs =>
      obtain ⟨a, vs, e, ha, r, f⟩ := q
      refine ⟨a, vs, e, ?_, r, f⟩
      rw [upd_ne]; exact ha
      rintro rfl; exact f4 i _ h rfl e
    | ownd t kvs =>
      obtain ⟨a, e, ha, f⟩ := q
      refine ⟨a, e, ha.mono (Sub.refl _) (List.prefix_refl _) (upd_ne ?_), f⟩
      rintro rfl; exact f4 i _ h rfl e
theorem Cor.take (c : Cor K ca B F m s σ H) {p : Addr} {o : HO} (f : Free B F m s σ p) (h : H p = some o) : Cor K ca B (upd F p o) m s σ H := by
  obtain ⟨f1, f2, f3, f4⟩ := f
  have g : Sub F (upd F p o) := Sub.grow f1
  have nn : ∀ a, a ≠ p → F a = none → (upd F p o) a = none := fun a e h => by rw [upd_ne e]; exact h
  refine ⟨fun a u hu => ?_, c.bh, fun a u hu => ?_, c.nd, fun a ha => ⟨nn a ?_ (c.mf a ha).1, (c.mf a ha).2⟩, c.md, c.ml, fun n o' a h1 h2 => (c.hp n o' a h1 h2).mono g (List.prefix_refl _) rfl, c.el, fun i x hi => ?_, c.dis⟩
  · by_cases e : a = p
    · subst e; rw [upd_same] at hu; cases hu; exact h
    · rw [upd_ne e] at hu; exact c.fh a u hu
  · refine nn a ?_ (c.bf a u hu)
    rintro rfl; rw [f2] at hu; cases hu
  · rintro rfl; exact f3 ha
  · have q := c.env i x hi
    cases x with
    | no => trivial
    | v d => obtain ⟨v, e, r⟩ := q; exact ⟨v, e, RW.mono g (List.prefix_refl _) d v r⟩
    | exc _ row _ _ => obtain ⟨e, v, h1, r⟩ := q; exact ⟨e, v, g _ _ h1, RW.mono g (List.prefix_refl _) row v r⟩
    | own xs =>
      obtain ⟨a, vs, e, ha, r, h1, h2⟩ := q
      refine ⟨a, vs, e, ha, RWs.mono g (List.prefix_refl _) xs vs r, nn a ?_ h1, h2⟩
      rintro rfl; exact f4 i _ hi rfl e
    | ownd t kvs =>
      obtain ⟨a, e, ha, h1, h2⟩ := q
      refine ⟨a, e, ha.mono g (List.prefix_refl _) rfl, nn a ?_ h1, h2⟩
      rintro rfl; exact f4 i _ hi rfl e
theorem Cor.frz (c : Cor K ca B F m s σ H) {p : Addr} {o : HO} (h : H p = none) : Cor K ca B (upd F p o) m s σ (upd H p o) :=
  (c.other (o := o) (c.fresh h)).take (c.fresh h) upd_same
end
section
variable (K : PySem.W.Frag) (ca : Cl → Addr)
def XcR (F : Hp) (m : List Addr) (H : Hp) (row : D) (d : Addr) : Prop := ∃ v, F d = some (.xd [(Fl.nm .row, v)]) ∧ RW K F m row v
end
end Lk
namespace Lk
open PySem L2
theorem PE.imp {X : Cx} {e : Expr} {t t' : TE} (h : PE X e t) (i : ∀ σ H Q, t' σ H Q → t σ H Q) : PE X e t' := ⟨fun pins s σ H Q I q => h.run pins s σ H Q I (i σ H Q q)⟩
theorem PT.imp {X : Cx} {e : Expr} {t t' : TT} (h : PT X e t) (i : ∀ σ H Q, t' σ H Q → t σ H Q) : PT X e t' := ⟨fun pins s σ H Q I q => h.run pins s σ H Q I (i σ H Q q)⟩
theorem PW.imp {X : Cx} {e : Expr} {t t' : TT} (h : PW X e t) (i : ∀ σ H Q, t' σ H Q → t σ H Q) : PW X e t' := ⟨fun wh pins s σ H Q I q => h.run wh pins s σ H Q I (i σ H Q q)⟩
theorem PA.imp {X : Cx} {e : List Expr} {t t' : TA} (h : PA X e t) (i : ∀ σ H Q, t' σ H Q → t σ H Q) : PA X e t' := ⟨fun pos pins s σ H Q I q => h.run pos pins s σ H Q I (i σ H Q q)⟩
theorem PS.imp {X : Cx} {e : Stmt} {t t' : TS} (h : PS X e t) (i : ∀ D σ H, t' D σ H → t D σ H) : PS X e t' := ⟨fun pins s σ H D I q => h.run pins s σ H D I (i D σ H q)⟩
theorem PSs.imp {X : Cx} {e : List Stmt} {t t' : TS} (h : PSs X e t) (i : ∀ D σ H, t' D σ H → t D σ H) : PSs X e t' := ⟨fun pins s σ H D I q => h.run pins s σ H D I (i D σ H q)⟩
section
variable (K : PySem.W.Frag) (ca : Cl → Addr) (W : WX) (B : Hp) (σ : St)
def ResG {α : Type} (F : Hp) (m : List Addr) (P : Hp → List Addr → Sx → Hp → α → Prop) : Rs α → Prop
  | .ok a s' => ∀ (F' : Hp) (m' : List Addr) (H' : Hp), Sub F F' → m <+: m' → Cor K ca B F' m' s' σ H' → P F' m' s' H' a
  | .exc c row s' => ∀ (F' : Hp) (m' : List Addr) (H' : Hp) (d : Addr), Sub F F' → m <+: m' → Cor K ca B F' m' s' σ H' → XcR K F' m' H' row d → W (.ref (ca c)) (some d) σ H'
  | .stuck => False
end
section
variable {K : PySem.W.Frag} {ca : Cl → Addr} {W : WX} {B F F' : Hp} {m m' : List Addr} {s : Sx} {σ : St} {H H' : Hp} {α β : Type}
theorem ResG.mono {P : Hp → List Addr → Sx → Hp → α → Prop} {r : Rs α} (hF : Sub F F') (hm : m <+: m') (h : ResG K ca W B σ F m P r) : ResG K ca W B σ F' m' P r := by
  cases r with
  | ok a s' => exact fun F1 m1 H1 a1 a2 c => h F1 m1 H1 (hF.trans a1) (hm.trans a2) c
  | exc c row s' => exact fun F1 m1 H1 d a1 a2 c x => h F1 m1 H1 d (hF.trans a1) (hm.trans a2) c x
  | stuck => exact h
theorem ResG.bind {P : Hp → List Addr → Sx → Hp → β → Prop} {r : Rs α} {k : α → Sx → Rs β} (h : ResG K ca W B σ F m P (r.bind k)) :
    ResG K ca W B σ F m (fun F1 m1 s1 _ a => ResG K ca W B σ F1 m1 P (k a s1)) r := by
  cases r with
  | ok a s' => exact fun F1 m1 H1 a1 a2 c => ResG.mono a1 a2 h
  | exc c row s' => exact h
  | stuck => exact h
theorem ResG.imp {P P' : Hp → List Addr → Sx → Hp → α → Prop} {r : Rs α} (h : ResG K ca W B σ F m P r) (i : ∀ F1 m1 s1 H1 a, Sub F F1 → m <+: m1 → Cor K ca B F1 m1 s1 σ H1 → P F1 m1 s1 H1 a → P' F1 m1 s1 H1 a) : ResG K ca W B σ F m P' r := by
  cases r with
  | ok a s' => exact fun F1 m1 H1 a1 a2 c => i F1 m1 s' H1 a a1 a2 c (h F1 m1 H1 a1 a2 c)
  | exc c row s' => exact h
  | stuck => exact h
theorem ResG.now {P : Hp → List Addr → Sx → Hp → α → Prop} {a : α} (c : Cor K ca B F m s σ H) (h : ResG K ca W B σ F m P (.ok a s)) : P F m s H a := h F m H (Sub.refl F) (List.prefix_refl m) c
end
section
variable (K : PySem.W.Frag) (ca : Cl → Addr) (W : WX)
def PEx (B : Hp) (σ : St) (Q : VK) : Hp → List Addr → Sx → Hp → RX → Prop := fun F' m' s' H' r => ∀ v, RR K B F' m' s' σ H' r v → Q v H'
def PTx (Q : Bool → Hp → Prop) : Hp → List Addr → Sx → Hp → RX → Prop := fun _ _ _ H' r => match r with
  | .w (.bl b) => Q b H'
  | _ => False
def tE (f : E) : TE := fun σ H Q => ∃ (B F : Hp) (m : List Addr) (s : Sx), Cor K ca B F m s σ H ∧ ResG K ca W B σ F m (PEx K B σ Q) (f s)
def tT (f : E) : TT := fun σ H Q => ∃ (B F : Hp) (m : List Addr) (s : Sx), Cor K ca B F m s σ H ∧ ResG K ca W B σ F m (PTx Q) (f s)
end
def hold : RX → RX
  | .fr xs => .w (.lst xs)
  | r => r
def HR (K : PySem.W.Frag) (F : Hp) (m : List Addr) (σ : St) : RX → V → Prop
  | .w d, v => RW K F m d v
  | .sl i, v => σ[i]? = some (some v)
  | _, _ => True
def der (hp : List Ob) : D → D
  | .ref n => match hp[n]? with
    | some (.lst xs) => .lst xs
    | _ => .ref n
  | d => d
def rdv (s : Sx) : RX → Option D
  | .w d => some (der s.hp d)
  | .sl i => match s.env[i]? with
    | some (.own xs) => some (.lst xs)
    | _ => none
  | _ => none
def settle : RX → Sx → Option (D × Sx)
  | .w d, s => some (d, s)
  | .fr xs, s => some (.lst xs, s)
  | .frd, s => some (.dct, s)
  | .sl i, s => match s.env[i]? with
    | some (.own xs) => some (.lst xs, { s with env := s.env.set i (.v (.lst xs)) })
    | _ => none
section
variable {K : PySem.W.Frag} {ca : Cl → Addr} {W : WX} {B F F' : Hp} {m m' : List Addr} {s : Sx} {σ : St} {H H' : Hp} {r : RX} {v : V} {d : D}
theorem HR.mono (hF : Sub F F') (hm : m <+: m') (h : HR K F m σ r v) : HR K F' m' σ r v := by
  cases r with
  | w d => exact RW.mono hF hm d v h
  | sl i => exact h
  | fr xs => trivial
  | frd => trivial
theorem hold_ok (c : Cor K ca B F m s σ H) (h : RR K B F m s σ H r v) : ∃ F2, Sub F F2 ∧ Cor K ca B F2 m s σ H ∧ HR K F2 m σ (hold r) v := by
  cases r with
  | w d => exact ⟨F, Sub.refl F, c, h⟩
  | sl i => exact ⟨F, Sub.refl F, c, h.1⟩
  | frd => exact ⟨F, Sub.refl F, c, trivial⟩
  | fr xs =>
    obtain ⟨a, vs, rfl, ha, r, f⟩ := h
    have g := Sub.grow (F := F) (p := a) (o := .lst vs) f.1
    exact ⟨_, g, c.take f ha, a, vs, rfl, upd_same, RWs.mono g (List.prefix_refl _) xs vs r⟩
theorem rdv_rp (c : Cor K ca B F m s σ H) (h : HR K F m σ r v) (e : rdv s r = some d) : RP K F m H d v := by
  cases r with
  | w d' =>
    cases e
    have hz := RW.rp c.fh h
    cases d' with
    | ref n =>
      show RP K F m H (match s.hp[n]? with | some (Ob.lst xs) => D.lst xs | _ => D.ref n) v
      cases hn : s.hp[n]? with
      | none => exact hz
      | some o =>
        cases o with
        | lst xs =>
          obtain ⟨a, hm, e⟩ := h
          obtain ⟨vs, q1, q2⟩ := c.hp n _ a hn hm
          exact ⟨a, vs, e, q1, q2⟩
        | ins c fs => exact hz
        | gone => exact hz
        | xin _ _ => exact hz
    | _ => exact hz
  | sl i =>
    have e : (match s.env[i]? with | some (SV.own xs) => some (D.lst xs) | _ => none) = some d := e
    split at e
    · rename_i xs hx
      cases e
      obtain ⟨a, vs, e1, h1, h2, _⟩ := c.env i _ hx
      have e2 : σ[i]? = some (some v) := h
      rw [e1] at e2; cases e2
      exact ⟨a, vs, rfl, h1, h2⟩
    · cases e
  | fr xs => cases e
  | frd => cases e
theorem Cor.frzSlot (c : Cor K ca B F m s σ H) {i : Nat} {xs : List D} {a : Addr} {vs : List V} (hi : s.env[i]? = some (.own xs)) (e : σ[i]? = some (some (.ref a))) (ha : H a = some (.lst vs)) (r : RWs K F m xs vs) :
    Cor K ca B (upd F a (.lst vs)) m { s with env := s.env.set i (.v (.lst xs)) } σ H ∧ RW K (upd F a (.lst vs)) m (.lst xs) (.ref a) := by
  obtain ⟨_, f1, f2, f3⟩ := c.own_at hi rfl e
  have g := Sub.grow (F := F) (p := a) (o := .lst vs) f1
  have il : i < s.env.length := (List.getElem?_eq_some_iff.mp hi).1
  have c0 : Cor K ca B F m { s with env := s.env.set i .no } σ H := by
    refine ⟨c.fh, c.bh, c.bf, c.nd, c.mf, c.md, c.ml, c.hp, by rw [← c.el]; simp, fun j x hj => ?_, fun j k b x y hj hk mx my e1 e2 => ?_⟩
    · by_cases hji : i = j
      · subst hji
        rw [List.getElem?_set_self il] at hj; cases hj; trivial
      · rw [List.getElem?_set_ne hji] at hj
        exact c.env j x hj
    · by_cases hji : i = j
      · subst hji
        rw [List.getElem?_set_self il] at hj; cases hj; cases mx
      · by_cases hki : i = k
        · subst hki
          rw [List.getElem?_set_self il] at hk; cases hk; cases my
        · rw [List.getElem?_set_ne hji] at hj
          rw [List.getElem?_set_ne hki] at hk
          exact c.dis j k b x y hj hk mx my e1 e2
  have fr : Free B F m { s with env := s.env.set i .no } σ a := by
    refine ⟨f1, f2, f3, fun j x hj mx ej => ?_⟩
    by_cases hji : i = j
    · subst hji
      rw [List.getElem?_set_self il] at hj; cases hj; cases mx
    · rw [List.getElem?_set_ne hji] at hj
      exact hji (c.dis i j a _ x hi hj rfl mx e ej)
  have c1 := c0.take fr ha
  have q : RW K (upd F a (.lst vs)) m (.lst xs) (.ref a) := ⟨a, vs, rfl, upd_same, RWs.mono g (List.prefix_refl _) xs vs r⟩
  refine ⟨⟨c1.fh, c1.bh, c1.bf, c1.nd, c1.mf, c1.md, c1.ml, c1.hp, by rw [← c.el]; simp, fun j x hj => ?_, fun j k b x y hj hk mx my e1 e2 => ?_⟩, q⟩
  · by_cases hji : i = j
    · subst hji
      rw [List.getElem?_set_self il] at hj; cases hj
      exact ⟨_, e, q⟩
    · have z := c1.env j x (by rw [List.getElem?_set_ne hji] at hj ⊢; exact hj)
      exact z
  · by_cases hji : i = j
    · subst hji
      rw [List.getElem?_set_self il] at hj; cases hj; cases mx
    · by_cases hki : i = k
      · subst hki
        rw [List.getElem?_set_self il] at hk; cases hk; cases my
      · rw [List.getElem?_set_ne hji] at hj
        rw [List.getElem?_set_ne hki] at hk
        exact c.dis j k b x y hj hk mx my e1 e2
theorem settle_ok (c : Cor K ca B F m s σ H) (h : RR K B F m s σ H r v) {s' : Sx} (e : settle r s = some (d, s')) : ∃ F2, Sub F F2 ∧ Cor K ca B F2 m s' σ H ∧ RW K F2 m d v := by
  cases r with
  | w d' => cases e; exact ⟨F, Sub.refl F, c, h⟩
  | fr xs =>
    cases e
    obtain ⟨a, vs, rfl, ha, r, f⟩ := h
    have g := Sub.grow (F := F) (p := a) (o := .lst vs) f.1
    exact ⟨_, g, c.take f ha, a, vs, rfl, upd_same, RWs.mono g (List.prefix_refl _) xs vs r⟩
  | frd =>
    cases e
    obtain ⟨a, rfl, ha, f⟩ := h
    exact ⟨_, Sub.grow f.1, c.take f ha, a, [], rfl, upd_same⟩
  | sl i =>
    have e : (match s.env[i]? with | some (SV.own xs) => some (D.lst xs, { s with env := s.env.set i (.v (.lst xs)) }) | _ => none) = some (d, s') := e
    split at e
    · rename_i xs hx
      cases e
      obtain ⟨a, vs, e1, h1, h2, f1, _⟩ := c.env i _ hx
      have e2 := h.1
      rw [e1] at e2; cases e2
      obtain ⟨q1, q2⟩ := c.frzSlot hx e1 h1 h2
      exact ⟨_, Sub.grow f1, q1, q2⟩
    · cases e
end
def iVar (i : Nat) : E := fun s => match s.env[i]? with
  | some (.v d) => .ok (.w d) s
  | some (.own _) => .ok (.sl i) s
  | some (.ownd _ _) => .ok (.sl i) s
  | _ => .stuck
def iC (d : D) : E := fun s => .ok (.w d) s
section
variable {X : Cx} {ca : Cl → Addr} {W : WX} {i : Nat} {pos : Pos}
theorem e_var {x : Str} (hN : X.N[i]? = some x := by rfl) (hv : Vis X.env.scope x := by first | exact Or.inl rfl | exact Or.inr (Or.inl rfl) | exact Or.inr (Or.inr rfl)) (hd : (x == ("__debug__" : Str)) = false := by decide +kernel)
    (hcd : (x == ("__classdict__" : Str)) = false := by decide +kernel) : PE X (.Name x pos) (tE X.K ca W (iVar i)) := by
  refine PE.imp (pe_var hN hv hd hcd) fun σ H Q ⟨B, F, m, s, c, h⟩ => ?_
  unfold iVar at h
  split at h
  · rename_i d hd
    obtain ⟨v, e, r⟩ := c.env i _ hd
    exact ⟨v, e, ResG.now (W := W) c h v r⟩
  · rename_i xs hd
    obtain ⟨a, vs, e, _⟩ := c.env i _ hd
    exact ⟨.ref a, e, ResG.now (W := W) c h _ ⟨e, _, hd, rfl⟩⟩
  · rename_i xs hd
    obtain ⟨a, e, _⟩ := c.env i _ hd
    exact ⟨.ref a, e, ResG.now (W := W) c h _ ⟨e, _, hd, rfl⟩⟩
  · exact h.elim
theorem e_c {e : Expr} {d : D} {v : V} (h : PE X e (tC v)) (r : ∀ K F m, RW K F m d v) : PE X e (tE X.K ca W (iC d)) :=
  PE.imp h fun σ H Q ⟨B, F, m, s, c, q⟩ => ResG.now (W := W) c q v (r _ _ _)
theorem e_int {n : Int} {j : Nat} : PE X (.Constant (.int n) j pos) (tE X.K ca W (iC (.int n))) := e_c pe_int fun _ _ _ => rfl
theorem e_bl {b : Bool} {j : Nat} : PE X (.Constant (.bool b) j pos) (tE X.K ca W (iC (.bl b))) := e_c pe_bl fun _ _ _ => rfl
theorem e_non {j : Nat} : PE X (.Constant .none j pos) (tE X.K ca W (iC .non)) := e_c pe_non fun _ _ _ => rfl
theorem e_str {x : Str} {j : Nat} : PE X (.Constant (.str x) j pos) (tE X.K ca W (iC (.str x))) := e_c pe_str fun _ _ _ => rfl
end
def op2 (g : D → D → Option RX) (a b : E) : E := fun s => (a s).bind fun x s1 => (b s1).bind fun y s2 =>
  match rdv s2 (hold x), rdv s2 (hold y) with
  | some d, some e => match g d e with
    | some r => .ok r s2
    | none => .stuck
  | _, _ => .stuck
def r2 (K : PySem.W.Frag) (ca : Cl → Addr) (g : D → D → Option RX) : R2 := fun x y H Q => ∃ (B F : Hp) (m : List Addr) (s : Sx) (σ : St) (d e : D) (r : RX), Cor K ca B F m s σ H ∧ RP K F m H d x ∧ RP K F m H e y ∧ g d e = some r ∧
  ∀ (F' H' : Hp) (v : V), Sub F F' → Cor K ca B F' m s σ H' → RR K B F' m s σ H' r v → Q v H'
section
variable {X : Cx} {ca : Cl → Addr} {W : WX} {a b : Expr} {f f' : E} {pos : Pos} {g : D → D → Option RX}
theorem op2_imp {K : PySem.W.Frag} {σ : St} {H : Hp} {Q : VK} (h : tE K ca W (op2 g f f') σ H Q) : tOp (r2 K ca g) (tE K ca W f) (tE K ca W f') σ H Q := by
  obtain ⟨B, F, m, s, c, h⟩ := h
  refine ⟨B, F, m, s, c, ResG.imp (ResG.bind h) fun F1 m1 s1 H1 x a1 a2 c1 h1 v rv => ?_⟩
  obtain ⟨F2, b1, c2, hx⟩ := hold_ok c1 rv
  refine ⟨B, F2, m1, s1, c2, ResG.imp (ResG.bind (ResG.mono b1 (List.prefix_refl _) h1)) fun F3 m3 s3 H3 y a3 a4 c3 h3 u ru => ?_⟩
  obtain ⟨F4, b2, c4, hy⟩ := hold_ok c3 ru
  have hx' := HR.mono (a3.trans b2) a4 hx
  have h4 := ResG.mono b2 (List.prefix_refl _) h3
  cases e1 : rdv s3 (hold x) with
  | none => simp only [e1] at h4; exact (show False from h4).elim
  | some d =>
    cases e2 : rdv s3 (hold y) with
    | none => simp only [e1, e2] at h4; exact (show False from h4).elim
    | some e =>
      simp only [e1, e2] at h4
      cases e3 : g d e with
      | none => rw [e3] at h4; exact (show False from h4).elim
      | some r =>
        rw [e3] at h4
        exact ⟨B, F4, m3, s3, σ, d, e, r, c4, rdv_rp c4 hx' e1, rdv_rp c4 hy e2, e3, fun F' H' w q1 q2 q3 => h4 F' m3 H' q1 (List.prefix_refl _) q2 w q3⟩
theorem e_op {op : Operator} (ho : OpR X (binaryOp op) (r2 X.K ca g)) (ha : PE X a (tE X.K ca W f)) (hb : PE X b (tE X.K ca W f')) : PE X (.BinOp a op b pos) (tE X.K ca W (op2 g f f')) :=
  PE.imp (pe_op ho ha hb) fun _ _ _ => op2_imp
theorem e_cmp {op : CmpOp} (ho : OpR X (compareOp op) (r2 X.K ca g)) (ha : PE X a (tE X.K ca W f)) (hb : PE X b (tE X.K ca W f')) (hm : behindInMarks op b = false := by rfl) : PE X (.Compare a [op] [b] pos) (tE X.K ca W (op2 g f f')) :=
  PE.imp (pe_cmpR ho ha hb hm) fun _ _ _ => op2_imp
theorem e_ix (ho : IxR X (r2 X.K ca g)) (ha : PE X a (tE X.K ca W f)) (hb : PE X b (tE X.K ca W f')) (hs : PlainIx b := by exact fun _ _ => rfl) : PE X (.Subscript a b pos) (tE X.K ca W (op2 g f f')) :=
  PE.imp (pe_ix ho ha hb hs) fun _ _ _ => op2_imp
theorem tT_of {K : PySem.W.Frag} {σ : St} {H : Hp} {Q : Bool → Hp → Prop} (h : tT K ca W f σ H Q) : tE K ca W f σ H fun x H' => ∃ k, x = .bl k ∧ Q k H' := by
  obtain ⟨B, F, m, s, c, h⟩ := h
  refine ⟨B, F, m, s, c, ResG.imp h fun F1 m1 s1 H1 x a1 a2 c1 h1 v rv => ?_⟩
  cases x with
  | w d =>
    cases d with
    | bl k => exact ⟨k, rv, h1⟩
    | _ => exact (show False from h1).elim
  | _ => exact (show False from h1).elim
theorem t_cmp {op : CmpOp} (ho : OpR X (compareOp op) (r2 X.K ca g)) (ha : PE X a (tE X.K ca W f)) (hb : PE X b (tE X.K ca W f')) (hm : behindInMarks op b = false := by rfl) : PT X (.Compare a [op] [b] pos) (tT X.K ca W (op2 g f f')) :=
  PT.imp (pt_cmpR ho ha hb hm) fun _ _ _ h => op2_imp (tT_of h)
theorem t_val {e : Expr} (h : PE X e (tE X.K ca W f)) (he : ∀ whole, isTrue e X.env whole = (do let v ← whole; standAt e.pos; holding [v] (truthy v)) := by intro _; rfl) : PT X e (tT X.K ca W f) :=
  PT.imp (pt_val h he) fun _ _ _ h => tT_of h
end
def isB : RX → Option Bool
  | .w (.bl b) => some b
  | _ => none
def iAnd (a b : E) : E := fun s => (a s).bind fun x s1 => match isB x with
  | some true => b s1
  | some false => .ok (.w (.bl false)) s1
  | none => .stuck
def iOr (a b : E) : E := fun s => (a s).bind fun x s1 => match isB x with
  | some true => .ok (.w (.bl true)) s1
  | some false => b s1
  | none => .stuck
def iNot (a : E) : E := fun s => (a s).bind fun x s1 => match isB x with
  | some k => .ok (.w (.bl (!k))) s1
  | none => .stuck
def iIf (c a b : E) : E := fun s => (c s).bind fun x s1 => match isB x with
  | some true => a s1
  | some false => b s1
  | none => .stuck
section
variable {X : Cx} {ca : Cl → Addr} {W : WX} {a b c : Expr} {f f' f'' : E} {pos : Pos} {rest : List Expr} {K : PySem.W.Frag}
theorem isB_some {r : RX} {k : Bool} (h : isB r = some k) : r = .w (.bl k) := by
  cases r with
  | w d => cases d <;> first | (cases h; rfl) | cases h
  | _ => cases h
theorem way2 {α : Type} {B F : Hp} {m : List Addr} {s : Sx} {σ : St} {H : Hp} {P : Hp → List Addr → Sx → Hp → α → Prop} {r : RX} {y n : Rs α} (h : ResG K ca W B σ F m P (match isB r with | some true => y | some false => n | none => .stuck)) :
    ∃ k, r = .w (.bl k) ∧ ResG K ca W B σ F m P (if k = true then y else n) := by
  cases e : isB r with
  | none => rw [e] at h; exact (show False from h).elim
  | some k =>
    rw [e] at h
    refine ⟨k, isB_some e, ?_⟩
    cases k with
    | true => exact h
    | false => exact h
theorem e_and (ha : PE X a (tE X.K ca W f)) (hb : PE X (.BoolOp .And (b :: rest) pos) (tE X.K ca W f')) : PE X (.BoolOp .And (a :: b :: rest) pos) (tE X.K ca W (iAnd f f')) := by
  refine PE.imp (pe_and ha hb) fun σ H Q ⟨B, F, m, s, c, h⟩ => ?_
  refine ⟨B, F, m, s, c, ResG.imp (ResG.bind h) fun F1 m1 s1 H1 x a1 a2 c1 h1 v rv => ?_⟩
  obtain ⟨k, rfl, h2⟩ := way2 (s := s1) (H := H1) h1
  refine ⟨k, rv, ?_⟩
  cases k with
  | true => exact ⟨B, F1, m1, s1, c1, h2⟩
  | false => exact ResG.now (W := W) c1 h2 _ rfl
theorem e_or (ha : PE X a (tE X.K ca W f)) (hb : PE X (.BoolOp .Or (b :: rest) pos) (tE X.K ca W f')) : PE X (.BoolOp .Or (a :: b :: rest) pos) (tE X.K ca W (iOr f f')) := by
  refine PE.imp (pe_or ha hb) fun σ H Q ⟨B, F, m, s, c, h⟩ => ?_
  refine ⟨B, F, m, s, c, ResG.imp (ResG.bind h) fun F1 m1 s1 H1 x a1 a2 c1 h1 v rv => ?_⟩
  obtain ⟨k, rfl, h2⟩ := way2 (s := s1) (H := H1) h1
  refine ⟨k, rv, ?_⟩
  cases k with
  | true => exact ResG.now (W := W) c1 h2 _ rfl
  | false => exact ⟨B, F1, m1, s1, c1, h2⟩
theorem e_one {op} (h : PE X a (tE X.K ca W f)) : PE X (.BoolOp op [a] pos) (tE X.K ca W f) := pe_one h
theorem e_not (ha : PE X a (tE X.K ca W f)) : PE X (.UnaryOp .Not a pos) (tE X.K ca W (iNot f)) := by
  refine PE.imp (pe_not ha) fun σ H Q ⟨B, F, m, s, c, h⟩ => ?_
  refine ⟨B, F, m, s, c, ResG.imp (ResG.bind h) fun F1 m1 s1 H1 x a1 a2 c1 h1 v rv => ?_⟩
  cases e : isB x with
  | none => rw [e] at h1; exact (show False from h1).elim
  | some k =>
    rw [e] at h1
    rw [isB_some e] at rv
    exact ⟨k, rv, ResG.now (W := W) c1 h1 _ rfl⟩
theorem t_not (ha : PT X a (tT X.K ca W f)) : PT X (.UnaryOp .Not a pos) (tT X.K ca W (iNot f)) := by
  refine PT.imp (pt_not ha) fun σ H Q ⟨B, F, m, s, c, h⟩ => ?_
  refine ⟨B, F, m, s, c, ResG.imp (ResG.bind h) fun F1 m1 s1 H1 x a1 a2 c1 h1 => ?_⟩
  cases e : isB x with
  | none => rw [e] at h1; exact (show False from h1).elim
  | some k =>
    rw [e] at h1
    rw [isB_some e]
    exact ResG.now (W := W) c1 h1
theorem w_and1 (ha : PT X a (tT X.K ca W f)) : PW X (.BoolOp .And [a] pos) (tT X.K ca W f) := pw_and1 ha
theorem w_or1 (ha : PT X a (tT X.K ca W f)) : PW X (.BoolOp .Or [a] pos) (tT X.K ca W f) := pw_or1 ha
theorem w_and (ha : PT X a (tT X.K ca W f)) (hb : PW X (.BoolOp .And (b :: rest) pos) (tT X.K ca W f')) : PW X (.BoolOp .And (a :: b :: rest) pos) (tT X.K ca W (iAnd f f')) := by
  refine PW.imp (pw_and ha hb) fun σ H Q ⟨B, F, m, s, c, h⟩ => ?_
  refine ⟨B, F, m, s, c, ResG.imp (ResG.bind h) fun F1 m1 s1 H1 x a1 a2 c1 h1 => ?_⟩
  obtain ⟨k, rfl, h2⟩ := way2 (s := s1) (H := H1) h1
  cases k with
  | true => exact ⟨B, F1, m1, s1, c1, h2⟩
  | false => exact ResG.now (W := W) c1 h2
theorem w_or (ha : PT X a (tT X.K ca W f)) (hb : PW X (.BoolOp .Or (b :: rest) pos) (tT X.K ca W f')) : PW X (.BoolOp .Or (a :: b :: rest) pos) (tT X.K ca W (iOr f f')) := by
  refine PW.imp (pw_or ha hb) fun σ H Q ⟨B, F, m, s, c, h⟩ => ?_
  refine ⟨B, F, m, s, c, ResG.imp (ResG.bind h) fun F1 m1 s1 H1 x a1 a2 c1 h1 => ?_⟩
  obtain ⟨k, rfl, h2⟩ := way2 (s := s1) (H := H1) h1
  cases k with
  | true => exact ResG.now (W := W) c1 h2
  | false => exact ⟨B, F1, m1, s1, c1, h2⟩
end
end Lk
namespace Lk
open PySem L2
inductive RV where
  | v (d : D) | fr (xs : List D)
inductive FR where
  | ok (r : RV) (hp : List Ob) | exc (c : Cl) (row : D) (hp : List Ob) | stuck
abbrev Fn := List D → List Ob → FR
def arg (f : E) : Sx → Rs D := fun s => (f s).bind fun r s1 => match settle r s1 with
  | some (d, s2) => .ok d s2
  | none => .stuck
def args : List E → Sx → Rs (List D)
  | [], s => .ok [] s
  | f :: fs, s => (arg f s).bind fun d s1 => (args fs s1).bind fun ds s2 => .ok (d :: ds) s2
def pargs : List E → Sx → Rs (List RX)
  | [], s => .ok [] s
  | f :: fs, s => (f s).bind fun r s1 => (pargs fs s1).bind fun rs s2 => .ok (hold r :: rs) s2
def rdvs (s : Sx) : List RX → Option (List D)
  | [] => some []
  | r :: rs => match rdv s r, rdvs s rs with
    | some d, some ds => some (d :: ds)
    | _, _ => none
def HRs (K : PySem.W.Frag) (F : Hp) (m : List Addr) (σ : St) : List RX → List V → Prop
  | [], vs => vs = []
  | r :: rs, vs => ∃ v us, vs = v :: us ∧ HR K F m σ r v ∧ HRs K F m σ rs us
def RPs (K : PySem.W.Frag) (F : Hp) (m : List Addr) (H : Hp) : List D → List V → Prop
  | [], vs => vs = []
  | r :: rs, vs => ∃ v us, vs = v :: us ∧ RP K F m H r v ∧ RPs K F m H rs us
section
variable (K : PySem.W.Frag) (ca : Cl → Addr) (W : WX)
def tA (fs : List E) : TA := fun σ H Q => ∃ (B F : Hp) (m : List Addr) (s : Sx), Cor K ca B F m s σ H ∧ ResG K ca W B σ F m (fun F' m' s' H' ds => ∀ vs, RWs K F' m' ds vs → Q vs H') (args fs s)
def tP (fs : List E) : TA := fun σ H Q => ∃ (B F : Hp) (m : List Addr) (s : Sx), Cor K ca B F m s σ H ∧ ResG K ca W B σ F m (fun F' m' s' H' rs => ∀ vs, HRs K F' m' σ rs vs → Q vs H') (pargs fs s)
end
section
variable {K : PySem.W.Frag} {ca : Cl → Addr} {W : WX} {B F F' : Hp} {m m' : List Addr} {s : Sx} {σ : St} {H H' : Hp}
theorem HRs.mono (hF : Sub F F') (hm : m <+: m') : ∀ {rs : List RX} {vs : List V}, HRs K F m σ rs vs → HRs K F' m' σ rs vs
  | [], _, h => h
  | r :: rs, _, ⟨v, us, e, h, t⟩ => ⟨v, us, e, HR.mono hF hm h, HRs.mono hF hm t⟩
theorem rdvs_rp (c : Cor K ca B F m s σ H) : ∀ {rs : List RX} {vs : List V} {ds : List D}, HRs K F m σ rs vs → rdvs s rs = some ds → RPs K F m H ds vs
  | [], _, _, h, e => by
    cases e; exact h
  | r :: rs, _, ds, ⟨v, us, e, h, t⟩, q => by
    unfold rdvs at q
    cases e1 : rdv s r with
    | none => rw [e1] at q; simp at q
    | some d =>
      cases e2 : rdvs s rs with
      | none => rw [e1, e2] at q; simp at q
      | some es =>
        rw [e1, e2] at q
        simp only [Option.some.injEq] at q
        subst q
        exact ⟨v, us, e, rdv_rp c h e1, rdvs_rp c t e2⟩
theorem RPs.one {d : D} {vs : List V} (h : RPs K F m H [d] vs) : ∃ v, vs = [v] ∧ RP K F m H d v := by
  obtain ⟨v, us, rfl, h, t⟩ := h
  have t' : us = [] := t
  subst t'
  exact ⟨v, rfl, h⟩
theorem RPs.two {d e : D} {vs : List V} (h : RPs K F m H [d, e] vs) : ∃ v u, vs = [v, u] ∧ RP K F m H d v ∧ RP K F m H e u := by
  obtain ⟨v, us, rfl, h, t⟩ := h
  obtain ⟨u, e1, t2⟩ := RPs.one t
  subst e1
  exact ⟨v, u, rfl, h, t2⟩
end
section
variable {X : Cx} {ca : Cl → Addr} {W : WX} {e : Expr} {es : List Expr} {f : E} {fs : List E} {pos : Pos}
theorem a_nil : PA X [] (tA X.K ca W []) := PA.imp pa_nil fun σ H Q ⟨B, F, m, s, c, h⟩ => ResG.now (W := W) c h [] rfl
theorem a_cons (h : PE X e (tE X.K ca W f)) (hr : PA X es (tA X.K ca W fs)) (hs : starEach (e :: es) X.env = (false, eval e X.env) :: starEach es X.env := by rfl) : PA X (e :: es) (tA X.K ca W (f :: fs)) := by
  refine PA.imp (pa_cons h hr hs) fun σ H Q ⟨B, F, m, s, c, h⟩ => ?_
  have h : ResG X.K ca W B σ F m (fun F' m' s' H' ds => ∀ vs, RWs X.K F' m' ds vs → Q vs H') ((arg f s).bind fun d s1 => (args fs s1).bind fun ds s2 => .ok (d :: ds) s2) := h
  have h0 := ResG.bind h
  unfold arg at h0
  refine ⟨B, F, m, s, c, ResG.imp (ResG.bind h0) fun F1 m1 s1 H1 x a1 a2 c1 h1 v rv => ?_⟩
  cases e1 : settle x s1 with
  | none => rw [e1] at h1; exact (show False from h1).elim
  | some q =>
    obtain ⟨d, s2⟩ := q
    rw [e1] at h1
    obtain ⟨F2, b1, c2, hd⟩ := settle_ok c1 rv e1
    have h2 := ResG.now (W := W) c2 (ResG.mono b1 (List.prefix_refl _) h1)
    refine ⟨B, F2, m1, s2, c2, ResG.imp (ResG.bind h2) fun F3 m3 s3 H3 ds a3 a4 c3 h3 vs rvs => ?_⟩
    exact ResG.now (W := W) c3 h3 _ ⟨v, vs, rfl, RW.mono a3 a4 d v hd, rvs⟩
theorem p_nil : PA X [] (tP X.K ca W []) := PA.imp pa_nil fun σ H Q ⟨B, F, m, s, c, h⟩ => ResG.now (W := W) c h [] rfl
theorem p_cons (h : PE X e (tE X.K ca W f)) (hr : PA X es (tP X.K ca W fs)) (hs : starEach (e :: es) X.env = (false, eval e X.env) :: starEach es X.env := by rfl) : PA X (e :: es) (tP X.K ca W (f :: fs)) := by
  refine PA.imp (pa_cons h hr hs) fun σ H Q ⟨B, F, m, s, c, h⟩ => ?_
  have h : ResG X.K ca W B σ F m (fun F' m' s' H' rs => ∀ vs, HRs X.K F' m' σ rs vs → Q vs H') ((f s).bind fun r s1 => (pargs fs s1).bind fun rs s2 => .ok (hold r :: rs) s2) := h
  refine ⟨B, F, m, s, c, ResG.imp (ResG.bind h) fun F1 m1 s1 H1 x a1 a2 c1 h1 v rv => ?_⟩
  obtain ⟨F2, b1, c2, hx⟩ := hold_ok c1 rv
  refine ⟨B, F2, m1, s1, c2, ResG.imp (ResG.bind (ResG.mono b1 (List.prefix_refl _) h1)) fun F3 m3 s3 H3 rs a3 a4 c3 h3 vs rvs => ?_⟩
  exact ResG.now (W := W) c3 h3 _ ⟨v, vs, rfl, HR.mono a3 a4 hx, rvs⟩
end
def iTup (fs : List E) : E := fun s => (args fs s).bind fun ds s1 => .ok (.w (.tup ds)) s1
def iLst (fs : List E) : E := fun s => (args fs s).bind fun ds s1 => .ok (.fr ds) s1
theorem args_length : ∀ {fs : List E} {s s' : Sx} {ds : List D}, args fs s = .ok ds s' → ds.length = fs.length
  | [], s, s', ds, h => by
    unfold args at h
    cases h; rfl
  | f :: fs, s, s', ds, h => by
    unfold args at h
    cases e : arg f s with
    | ok d s1 =>
      rw [e] at h
      have h : (args fs s1).bind (fun ds s2 => Rs.ok (d :: ds) s2) = .ok ds s' := h
      cases e2 : args fs s1 with
      | ok ds1 s2 =>
        rw [e2] at h
        have h : Rs.ok (d :: ds1) s2 = .ok ds s' := h
        cases h
        rw [List.length_cons, List.length_cons, args_length e2]
      | exc c r s2 => rw [e2] at h; cases h
      | stuck => rw [e2] at h; cases h
    | exc c r s2 => rw [e] at h; cases h
    | stuck => rw [e] at h; cases h
section
variable {X : Cx} {ca : Cl → Addr} {W : WX} {es : List Expr} {fs : List E} {pos : Pos}
theorem args_imp {K : PySem.W.Frag} {σ : St} {H : Hp} {B F : Hp} {m : List Addr} {s : Sx} {β : Type} {P : Hp → List Addr → Sx → Hp → β → Prop} {k : List D → Sx → Rs β} {Q : List V → Hp → Prop} (c : Cor K ca B F m s σ H)
    (h : ResG K ca W B σ F m P ((args fs s).bind k)) (hk : ∀ F1 m1 s1 H1 ds vs, ds.length = fs.length → Cor K ca B F1 m1 s1 σ H1 → RWs K F1 m1 ds vs → ResG K ca W B σ F1 m1 P (k ds s1) → Q vs H1) : tA K ca W fs σ H Q := by
  refine ⟨B, F, m, s, c, ?_⟩
  cases e : args fs s with
  | ok ds s1 =>
    rw [e] at h
    exact fun F1 m1 H1 a1 a2 c1 vs rv => hk F1 m1 s1 H1 ds vs (args_length e) c1 rv (ResG.mono a1 a2 h)
  | exc cc row s1 => rw [e] at h; exact h
  | stuck => rw [e] at h; exact h
theorem args_imp2 {K : PySem.W.Frag} {σ : St} {H : Hp} {B F : Hp} {m : List Addr} {s : Sx} {β : Type} {P : Hp → List Addr → Sx → Hp → β → Prop} {k : List D → Sx → Rs β} {Q : List V → Hp → Prop} (c : Cor K ca B F m s σ H)
    (h : ResG K ca W B σ F m P ((args fs s).bind k)) (hk : ∀ F1 m1 s1 H1 ds vs, Sub F F1 → m <+: m1 → ds.length = fs.length → Cor K ca B F1 m1 s1 σ H1 → RWs K F1 m1 ds vs → ResG K ca W B σ F1 m1 P (k ds s1) → Q vs H1) : tA K ca W fs σ H Q := by
  refine ⟨B, F, m, s, c, ?_⟩
  cases e : args fs s with
  | ok ds s1 =>
    rw [e] at h
    exact fun F1 m1 H1 a1 a2 c1 vs rv => hk F1 m1 s1 H1 ds vs a1 a2 (args_length e) c1 rv (ResG.mono a1 a2 h)
  | exc cc row s1 => rw [e] at h; exact h
  | stuck => rw [e] at h; exact h
def tTupN (t : TA) : TE := fun σ H Q => t σ H fun xs H1 => xs.length ≤ sizeLine ∧ ∀ p ob, H1 p = none → ob.dict = none → Q (.ref p) (upd H1 p (tupO ob xs))
theorem pe_tupN {X : Cx} {es : List Expr} {t : TA} {pos : Pos} {x1} (h : PA X es t) : PE X (.Tuple es x1 pos) (tTupN t) := by
  refine ⟨fun pins s σ H Q I hq => ?_⟩
  refine PySem.wpAny_Tuple_spliced (L2.thn (h.run pos pins s σ H _ I hq) fun us s1 ⟨xs, H1, I1, r, z, q⟩ => ⟨by rw [← r.length]; exact z, ?_⟩)
  have hf : H1 s1.heap.objs.size = none := I1.hok.fresh (Nat.le_refl _)
  refine ⟨.ref s1.heap.objs.size, _, I1.laid (t' := s1.toks) (fun b u e => Heap.get?_push_of_some _ e) (Nat.le_refl _) ?_, rfl, q _ { cls := .type "tuple", data := .seq us.toArray } hf rfl⟩
  exact tupO_ok (Heap.get?_push_size _ rfl) ⟨z, us, r, ⟨_, Heap.get?_push_size _ rfl, rfl, _, rfl⟩⟩
theorem e_tup {x1} (h : PA X es (tA X.K ca W fs)) (hl : fs.length ≤ 1000 := by decide) : PE X (.Tuple es x1 pos) (tE X.K ca W (iTup fs)) := by
  refine PE.imp (pe_tupN h) fun σ H Q ⟨B, F, m, s, c, h⟩ => ?_
  refine args_imp c h fun F1 m1 s1 H1 ds vs el c1 rv h1 => ⟨?_, fun p ob hp hd => ?_⟩
  · rw [← rv.length, el]
    exact Nat.le_trans hl (by decide)
  · have g : Sub F1 (upd F1 p (tupO ob vs)) := Sub.grow (c1.fresh hp).1
    exact h1 _ m1 _ g (List.prefix_refl _) (c1.frz hp) _ ⟨p, vs, rfl, tupO_at hd, RWs.mono g (List.prefix_refl _) ds vs rv⟩
theorem e_lst (h : PA X es (tA X.K ca W fs)) (hl : fs.length ≤ 1000 := by first | decide | simp) : PE X (.List es pos) (tE X.K ca W (iLst fs)) := by
  refine PE.imp (pe_lst h) fun σ H Q ⟨B, F, m, s, c, h⟩ => ?_
  refine args_imp c h fun F1 m1 s1 H1 ds vs el c1 rv h1 => ⟨?_, fun p hp => ?_⟩
  · rw [← rv.length, el]
    exact Nat.le_trans hl (by decide)
  · have f := c1.fresh hp
    exact h1 F1 m1 _ (Sub.refl _) (List.prefix_refl _) (c1.other f) _ ⟨p, vs, rfl, upd_same, rv, f⟩
end
def iB (g : List D → Option RX) (fs : List E) : E := fun s => (pargs fs s).bind fun rs s1 => match rdvs s1 rs with
  | some ds => match g ds with
    | some r => .ok r s1
    | none => .stuck
  | none => .stuck
def rc (K : PySem.W.Frag) (ca : Cl → Addr) (g : List D → Option RX) : List V → Hp → VK → Prop := fun vs H Q => ∃ (B F : Hp) (m : List Addr) (s : Sx) (σ : St) (ds : List D) (r : RX), Cor K ca B F m s σ H ∧ RPs K F m H ds vs ∧ g ds = some r ∧
  ∀ (F' H' : Hp) (v : V), Sub F F' → Cor K ca B F' m s σ H' → RR K B F' m s σ H' r v → Q v H'
section
variable {X : Cx} {ca : Cl → Addr} {W : WX} {e : Expr} {es : List Expr} {fs : List E} {pos p : Pos} {g : List D → Option RX} {x : Str} {id : String}
theorem pargs_imp {K : PySem.W.Frag} {σ : St} {H : Hp} {Q : VK} (h : tE K ca W (iB g fs) σ H Q) : tP K ca W fs σ H fun vs H1 => rc K ca g vs H1 Q := by
  obtain ⟨B, F, m, s, c, h⟩ := h
  refine ⟨B, F, m, s, c, ResG.imp (ResG.bind h) fun F1 m1 s1 H1 rs a1 a2 c1 h1 vs rv => ?_⟩
  cases e1 : rdvs s1 rs with
  | none => simp only [e1] at h1; exact (show False from h1).elim
  | some ds =>
    simp only [e1] at h1
    cases e2 : g ds with
    | none => rw [e2] at h1; exact (show False from h1).elim
    | some r =>
      rw [e2] at h1
      exact ⟨B, F1, m1, s1, σ, ds, r, c1, rdvs_rp c1 rv e1, e2, fun F' H' w q1 q2 q3 => h1 F' m1 H' q1 (List.prefix_refl _) q2 w q3⟩
theorem e_cb (hc : CallR X (.builtin id) (rc X.K ca g)) (hg : Gl X x) (hm : X.mg x = none) (hv : bootBuiltins x = some (.builtin id)) (ha : PA X (e :: es) (tP X.K ca W fs)) (hn : x ≠ "__name__" := by decide +kernel) (hdb : (x == ("__debug__" : Str)) = false := by decide +kernel)
    (he : starEach (e :: es) X.env = (false, eval e X.env) :: starEach es X.env := by rfl) (hpl : (backTo pos (starEach es X.env)).any (·.1) = false := by rfl) : PE X (.Call (.Name x p) (e :: es) [] pos) (tE X.K ca W (iB g fs)) :=
  PE.imp (pe_callB hc hg hm hv ha hn hdb he hpl) fun _ _ _ h => pargs_imp h
theorem e_cty {T : String} (hc : CallR X (.type T) (rc X.K ca g)) (hg : Gl X x) (hm : X.mg x = none) (hv : bootBuiltins x = some (.type T)) (ha : PA X (e :: es) (tP X.K ca W fs)) (hn : x ≠ "__name__" := by decide +kernel) (hdb : (x == ("__debug__" : Str)) = false := by decide +kernel)
    (he : starEach (e :: es) X.env = (false, eval e X.env) :: starEach es X.env := by rfl) (hpl : (backTo pos (starEach es X.env)).any (·.1) = false := by rfl) : PE X (.Call (.Name x p) (e :: es) [] pos) (tE X.K ca W (iB g fs)) :=
  PE.imp (pe_callTy hc hg hm hv ha hn hdb he hpl) fun _ _ _ h => pargs_imp h
end
def RVR (K : PySem.W.Frag) (B F : Hp) (m : List Addr) (H : Hp) : RV → V → Prop
  | .v d, v => RW K F m d v
  | .fr xs, v => ∃ a vs, v = .ref a ∧ H a = some (.lst vs) ∧ RWs K F m xs vs ∧ F a = none ∧ B a = none ∧ a ∉ m
def FRg (K : PySem.W.Frag) (ca : Cl → Addr) (B F : Hp) (m : List Addr) (Q : VK) (E : XK) : FR → Prop
  | .ok r hp' => ∀ (F' : Hp) (m' : List Addr) (H' : Hp) (v : V), Sub F F' → m <+: m' → Cor K ca B F' m' ⟨[], hp'⟩ [] H' → RVR K B F' m' H' r v → Q v H'
  | .exc c row hp' => ∀ (F' : Hp) (m' : List Addr) (H' : Hp) (d : Addr), Sub F F' → m <+: m' → Cor K ca B F' m' ⟨[], hp'⟩ [] H' → XcR K F' m' H' row d → E (.ref (ca c)) (some d) H'
  | .stuck => False
def spF (K : PySem.W.Frag) (ca : Cl → Addr) (n : Nat) (M : Fn) : Sp := fun vs H Q E => vs.length = n ∧ ∃ (B F : Hp) (m : List Addr) (ds : List D) (hp : List Ob), Cor K ca B F m ⟨[], hp⟩ [] H ∧ RWs K F m ds vs ∧ FRg K ca B F m Q E (M ds hp)
open Classical in
noncomputable def rest (F : Hp) (m : List Addr) (H : Hp) : Hp := fun a => if F a = none ∧ a ∉ m then H a else none
section
variable {K : PySem.W.Frag} {ca : Cl → Addr} {B F F' : Hp} {m m' : List Addr} {s : Sx} {σ : St} {H H' : Hp} {hp' : List Ob} {a : Addr} {o : HO}
theorem rest_some (h1 : F a = none) (h2 : a ∉ m) (h3 : H a = some o) : rest F m H a = some o := by
  unfold rest
  rw [if_pos ⟨h1, h2⟩]; exact h3
theorem of_rest (h : rest F m H a = some o) : F a = none ∧ a ∉ m ∧ H a = some o := by
  unfold rest at h
  split at h
  · rename_i q; exact ⟨q.1, q.2, h⟩
  · cases h
theorem Cor.enter (c : Cor K ca B F m s σ H) : Cor K ca (rest F m H) F m ⟨[], s.hp⟩ [] H := by
  refine ⟨c.fh, fun a o h => (of_rest h).2.2, fun a o h => (of_rest h).1, c.nd, fun a ha => ⟨(c.mf a ha).1, ?_⟩, c.md, c.ml, c.hp, rfl, fun i x h => by simp at h, fun i j a x y h => by simp at h⟩
  cases e : rest F m H a with
  | none => rfl
  | some o => exact absurd ha (of_rest e).2.1
theorem Cor.back (c : Cor K ca B F m s σ H) (hF : Sub F F') (hm : m <+: m') (d : Cor K ca (rest F m H) F' m' ⟨[], hp'⟩ [] H') : Cor K ca B F' m' ⟨s.env, hp'⟩ σ H' := by
  have br : ∀ a o, B a = some o → rest F m H a = some o := fun a o h => by
    refine rest_some (c.bf a o h) (fun hm => ?_) (c.bh a o h)
    rw [(c.mf a hm).2] at h; cases h
  have ow : ∀ a, (∃ o, H a = some o) → F a = none → a ∉ m → F' a = none ∧ a ∉ m' ∧ H' a = H a := fun a ⟨o, h1⟩ h2 h3 => by
    have r := rest_some h2 h3 h1
    refine ⟨d.bf a o r, fun hm => ?_, (d.bh a o r).trans h1.symm⟩
    rw [(d.mf a hm).2] at r; cases r
  refine ⟨d.fh, fun a o h => d.bh a o (br a o h), fun a o h => d.bf a o (br a o h), d.nd, fun a ha => ⟨(d.mf a ha).1, ?_⟩, d.md, d.ml, d.hp, c.el, fun i x h => ?_, c.dis⟩
  · cases e : B a with
    | none => rfl
    | some o =>
      have r := br a o e
      rw [(d.mf a ha).2] at r; cases r
  · have q := c.env i x h
    cases x with
    | no => trivial
    | v dd => obtain ⟨v, e, r⟩ := q; exact ⟨v, e, RW.mono hF hm dd v r⟩
    | exc _ row _ _ => obtain ⟨e, v, h1, r⟩ := q; exact ⟨e, v, hF _ _ h1, RW.mono hF hm row v r⟩
    | own xs =>
      obtain ⟨a, vs, e, ha, r, h1, h2, h3⟩ := q
      obtain ⟨g1, g2, g3⟩ := ow a ⟨_, ha⟩ h1 h3
      exact ⟨a, vs, e, g3.trans ha, RWs.mono hF hm xs vs r, g1, h2, g2⟩
    | ownd t kvs =>
      obtain ⟨a, e, ha, h1, h2, h3⟩ := q
      obtain ⟨g1, g2, g3⟩ := ow a ha.some h1 h3
      exact ⟨a, e, ha.mono hF hm g3, g1, h2, g2⟩
theorem Cor.backFree (c : Cor K ca B F m s σ H) (hF : Sub F F') (hm : m <+: m') (d : Cor K ca (rest F m H) F' m' ⟨[], hp'⟩ [] H') {hp : List Ob} (h1 : F' a = none) (h2 : rest F m H a = none) (h3 : a ∉ m') : Free B F' m' ⟨s.env, hp⟩ σ a := by
  refine ⟨h1, ?_, h3, fun i x hi hx e => ?_⟩
  · cases e : B a with
    | none => rfl
    | some o =>
      have r : rest F m H a = some o := by
        refine rest_some (c.bf a o e) (fun hm => ?_) (c.bh a o e)
        rw [(c.mf a hm).2] at e; cases e
      rw [h2] at r; cases r
  · obtain ⟨⟨o, ho⟩, g1, g2, g3⟩ := c.own_at hi hx e
    have r := rest_some g1 g3 ho
    rw [h2] at r; cases r
end
def ofRV : RV → RX
  | .v d => .w d
  | .fr xs => .fr xs
def backR (r : FR) (s : Sx) : Rs RX := match r with
  | .ok r hp => .ok (ofRV r) { s with hp := hp }
  | .exc c d hp => .exc c d { s with hp := hp }
  | .stuck => .stuck
def iCall (M : Fn) (fs : List E) : E := fun s => (args fs s).bind fun ds s1 => backR (M ds s1.hp) s1
section
variable {X : Cx} {ca : Cl → Addr} {W : WX} {e : Expr} {es : List Expr} {fs : List E} {pos p : Pos} {x : Str} {M : Fn} {k : Nat} {f : Addr} {fd : FuncData} {ps : List Str}
theorem call_sp {K : PySem.W.Frag} {σ : St} {H : Hp} {B F : Hp} {m : List Addr} {s : Sx} {ds : List D} {vs : List V} {Q : VK} {n : Nat} (c : Cor K ca B F m s σ H) (hn : vs.length = n) (r : RWs K F m ds vs) (h : ResG K ca W B σ F m (PEx K B σ Q) (backR (M ds s.hp) s)) :
    spF K ca n M vs H Q (WE W σ) := by
  refine ⟨hn, rest F m H, F, m, ds, s.hp, c.enter, r, ?_⟩
  cases e : M ds s.hp with
  | ok rv hp' =>
    rw [e] at h
    intro F' m' H' v hF hm d rr
    refine h F' m' H' hF hm (c.back hF hm d) v ?_
    cases rv with
    | v dd => exact rr
    | fr xs =>
      obtain ⟨a, vs, rfl, ha, q, h1, h2, h3⟩ := rr
      exact ⟨a, vs, rfl, ha, q, c.backFree hF hm d h1 h2 h3⟩
  | exc cc row hp' =>
    rw [e] at h
    exact fun F' m' H' d hF hm dd xr => h F' m' H' d hF hm (c.back hF hm dd) xr
  | stuck => rw [e] at h; exact h
theorem e_call (FF : FnOk X.prog X.w X.K X.mg X.base (L2.CX X.prog X.w) k f fd ps (spF X.K ca ps.length M)) (tk : Takes X W) (hr : Room k X.A) (hg : Gl X x) (hm : X.mg x = some (.ref f)) (hk : PySem.W.keepIn X.K (.ref f) = true) (hb : Binds X.K fd ps [])
    (ha : PA X (e :: es) (tA X.K ca W fs)) (hl : fs.length = ps.length := by rfl) (hdb : (x == ("__debug__" : Str)) = false := by decide +kernel) (he : starEach (e :: es) X.env = (false, eval e X.env) :: starEach es X.env := by rfl) (hpl : (backTo pos (starEach es X.env)).any (·.1) = false := by rfl) :
    PE X (.Call (.Name x p) (e :: es) [] pos) (tE X.K ca W (iCall M fs)) := by
  refine PE.imp (pe_callS FF hr hg hm hk hb (fun σ => passAt tk σ) ha hdb he hpl) fun σ H Q ⟨B, F, m, s, c, h⟩ => ?_
  exact args_imp c h fun F1 m1 s1 H1 ds vs el c1 rv h1 => call_sp c1 (by rw [← rv.length, el, hl]) rv h1
end
end Lk
namespace Lk
open PySem L2
inductive SR where
  | nx (s : Sx) | ret (r : RV) (s : Sx) | brk (s : Sx) | cnt (s : Sx) | exc (c : Cl) (row : D) (s : Sx) | stuck
abbrev I := Sx → SR
def SRg (K : PySem.W.Frag) (ca : Cl → Addr) (W : WX) (B F : Hp) (m : List Addr) (D : Ends) : SR → Prop
  | .nx s' => ∀ (F' : Hp) (m' : List Addr) (σ' : St) (H' : Hp), Sub F F' → m <+: m' → Cor K ca B F' m' s' σ' H' → D.nx σ' H'
  | .brk s' => ∀ (F' : Hp) (m' : List Addr) (σ' : St) (H' : Hp), Sub F F' → m <+: m' → Cor K ca B F' m' s' σ' H' → D.bk σ' H'
  | .cnt s' => ∀ (F' : Hp) (m' : List Addr) (σ' : St) (H' : Hp), Sub F F' → m <+: m' → Cor K ca B F' m' s' σ' H' → D.ct σ' H'
  | .ret r s' => ∀ (F' : Hp) (m' : List Addr) (σ' : St) (H' : Hp) (v : V), Sub F F' → m <+: m' → Cor K ca B F' m' s' σ' H' → RVR K B F' m' H' r v → D.rt v H'
  | .exc c row s' => ∀ (F' : Hp) (m' : List Addr) (σ' : St) (H' : Hp) (d : Addr), Sub F F' → m <+: m' → Cor K ca B F' m' s' σ' H' → XcR K F' m' H' row d → W (.ref (ca c)) (some d) σ' H'
  | .stuck => False
def tS (K : PySem.W.Frag) (ca : Cl → Addr) (W : WX) (f : I) : TS := fun D σ H => ∃ (B F : Hp) (m : List Addr) (s : Sx), Cor K ca B F m s σ H ∧ SRg K ca W B F m D (f s)
section
variable {K : PySem.W.Frag} {ca : Cl → Addr} {W : WX} {B F F' : Hp} {m m' : List Addr} {s : Sx} {σ : St} {H H' : Hp} {D D' : Ends} {r : SR}
theorem SRg.mono (hF : Sub F F') (hm : m <+: m') (h : SRg K ca W B F m D r) : SRg K ca W B F' m' D r := by
  cases r with
  | nx s' => exact fun F1 m1 σ1 H1 a1 a2 c => h F1 m1 σ1 H1 (hF.trans a1) (hm.trans a2) c
  | brk s' => exact fun F1 m1 σ1 H1 a1 a2 c => h F1 m1 σ1 H1 (hF.trans a1) (hm.trans a2) c
  | cnt s' => exact fun F1 m1 σ1 H1 a1 a2 c => h F1 m1 σ1 H1 (hF.trans a1) (hm.trans a2) c
  | ret r s' => exact fun F1 m1 σ1 H1 v a1 a2 c x => h F1 m1 σ1 H1 v (hF.trans a1) (hm.trans a2) c x
  | exc cc row s' => exact fun F1 m1 σ1 H1 d a1 a2 c x => h F1 m1 σ1 H1 d (hF.trans a1) (hm.trans a2) c x
  | stuck => exact h
theorem SRg.now (c : Cor K ca B F m s σ H) (h : SRg K ca W B F m D (.nx s)) : D.nx σ H := h F m σ H (Sub.refl F) (List.prefix_refl m) c
end
def thenS {α : Type} (r : Rs α) (k : α → Sx → SR) : SR := match r with
  | .ok a s => k a s
  | .exc c d s => .exc c d s
  | .stuck => .stuck
section
variable {K : PySem.W.Frag} {ca : Cl → Addr} {W : WX} {B F F' : Hp} {m m' : List Addr} {s : Sx} {σ : St} {H H' : Hp} {D : Ends} {α : Type}
theorem thenS_g {r : Rs α} {k : α → Sx → SR} (h : SRg K ca W B F m D (thenS r k)) : ResG K ca W B σ F m (fun F1 m1 s1 _ a => SRg K ca W B F1 m1 D (k a s1)) r := by
  cases r with
  | ok a s' => exact fun F1 m1 H1 a1 a2 c => SRg.mono a1 a2 h
  | exc c row s' => exact fun F1 m1 H1 d a1 a2 c x => h F1 m1 _ H1 d a1 a2 c x
  | stuck => exact h
end
section
variable {K : PySem.W.Frag} {ca : Cl → Addr} {B F : Hp} {m : List Addr} {s : Sx} {σ : St} {H : Hp} {i : Nat} {d : D} {v : V}
theorem Cor.setAny (c : Cor K ca B F m s σ H) {x : SV} {v : V} (hs : SlR K B F m H (σ.set i (some v)) i x) (hd : ∀ a, x.mutb = true → v = .ref a → ∀ (j : Nat) (y : SV), s.env[j]? = some y → y.mutb = true → σ[j]? = some (some (.ref a)) → i = j) :
    Cor K ca B F m { s with env := s.env.set i x } (σ.set i (some v)) H := by
  refine ⟨c.fh, c.bh, c.bf, c.nd, c.mf, c.md, c.ml, c.hp, by simp [c.el], fun j y hj => ?_, fun j k a y z hj hk my mz e1 e2 => ?_⟩
  · by_cases e : i = j
    · subst e
      have il : i < s.env.length := by
        have := (List.getElem?_eq_some_iff.mp hj).1
        simpa using this
      rw [List.getElem?_set_self il] at hj; cases hj
      exact hs
    · rw [List.getElem?_set_ne e] at hj
      have q := c.env j y hj
      cases y with
      | no => trivial
      | exc _ _ _ _ => obtain ⟨e1, r⟩ := q; exact ⟨by rw [List.getElem?_set_ne e]; exact e1, r⟩
      | v dd => obtain ⟨u, e1, r⟩ := q; exact ⟨u, by rw [List.getElem?_set_ne e]; exact e1, r⟩
      | own xs => obtain ⟨a, vs, e1, r⟩ := q; exact ⟨a, vs, by rw [List.getElem?_set_ne e]; exact e1, r⟩
      | ownd t kvs => obtain ⟨a, e1, r⟩ := q; exact ⟨a, by rw [List.getElem?_set_ne e]; exact e1, r⟩
  · by_cases ej : i = j
    · by_cases ek : i = k
      · exact ej.symm.trans ek
      · subst ej
        have il : i < s.env.length := by
          have := (List.getElem?_eq_some_iff.mp hj).1
          simpa using this
        rw [List.getElem?_set_self il] at hj; cases hj
        rw [List.getElem?_set_self (by rw [← c.el]; exact il)] at e1
        rw [List.getElem?_set_ne ek] at hk
        rw [List.getElem?_set_ne ek] at e2
        have ev : v = .ref a := by simpa using e1
        exact hd a my ev k z hk mz e2
    · by_cases ek : i = k
      · subst ek
        have il : i < s.env.length := by
          have := (List.getElem?_eq_some_iff.mp hk).1
          simpa using this
        rw [List.getElem?_set_self il] at hk; cases hk
        rw [List.getElem?_set_self (by rw [← c.el]; exact il)] at e2
        rw [List.getElem?_set_ne ej] at hj
        rw [List.getElem?_set_ne ej] at e1
        have ev : v = .ref a := by simpa using e2
        exact (hd a mz ev j y hj my e1).symm
      · rw [List.getElem?_set_ne ej] at hj
        rw [List.getElem?_set_ne ek] at hk
        rw [List.getElem?_set_ne ej] at e1
        rw [List.getElem?_set_ne ek] at e2
        exact c.dis j k a y z hj hk my mz e1 e2
theorem Cor.setV (c : Cor K ca B F m s σ H) (r : RW K F m d v) (hi : i < s.env.length) : Cor K ca B F m { s with env := s.env.set i (.v d) } (σ.set i (some v)) H :=
  c.setAny ⟨v, List.getElem?_set_self (by rw [← c.el]; exact hi), r⟩ fun _ h => by cases h
theorem Cor.setOwn (c : Cor K ca B F m s σ H) {a : Addr} {xs : List D} {vs : List V} (f : Free B F m s σ a) (ha : H a = some (.lst vs)) (r : RWs K F m xs vs) (hi : i < s.env.length) :
    Cor K ca B F m { s with env := s.env.set i (.own xs) } (σ.set i (some (.ref a))) H :=
  c.setAny ⟨a, vs, List.getElem?_set_self (by rw [← c.el]; exact hi), ha, r, f.1, f.2.1, f.2.2.1⟩ fun b _ e j y hj my ej => by
    cases e
    exact absurd ej (f.2.2.2 j y hj my)
end
def iNext : I := fun s => .nx s
def iSeq (f g : I) : I := fun s => match f s with
  | .nx s1 => g s1
  | r => r
def setv (i : Nat) (d : D) (s : Sx) : Sx := { s with env := s.env.set i (.v d) }
def iSet (i : Nat) (f : E) : I := fun s => thenS (arg f s) fun d s1 => .nx (setv i d s1)
def iOwn (i : Nat) (f : E) : I := fun s => thenS (f s) fun r s1 => match r with
  | .fr xs => .nx { s1 with env := s1.env.set i (.own xs) }
  | _ => .stuck
def retv (s : Sx) : RX → Option RV
  | .w d => some (.v d)
  | .fr xs => some (.fr xs)
  | .sl i => match s.env[i]? with
    | some (.own xs) => some (.fr xs)
    | _ => none
  | .frd => none
def iRet (f : E) : I := fun s => thenS (f s) fun r s1 => match retv s1 r with
  | some q => .ret q s1
  | none => .stuck
def iDrop (f : E) : I := fun s => thenS (f s) fun _ s1 => .nx s1
def iIfS (c : E) (f g : I) : I := fun s => thenS (c s) fun r s1 => match isB r with
  | some true => f s1
  | some false => g s1
  | none => .stuck
section
variable {X : Cx} {ca : Cl → Addr} {W : WX} {st : Stmt} {sts body body2 : List Stmt} {e : Expr} {f g : I} {fe : E} {pos : Pos} {i : Nat} {n : Str}
theorem ss_nil : PSs X [] (tS X.K ca W iNext) := PSs.imp pss_nil fun D σ H ⟨B, F, m, s, c, h⟩ => SRg.now (W := W) c h
theorem seq_imp {K : PySem.W.Frag} {D : Ends} {σ : St} {H : Hp} (h : tS K ca W (iSeq f g) D σ H) : tSeq (tS K ca W f) (tS K ca W g) D σ H := by
  obtain ⟨B, F, m, s, c, h⟩ := h
  refine ⟨B, F, m, s, c, ?_⟩
  have h : SRg K ca W B F m D (match f s with | .nx s1 => g s1 | r => r) := h
  cases e : f s with
  | nx s1 => rw [e] at h; exact fun F1 m1 σ1 H1 a1 a2 c1 => ⟨B, F1, m1, s1, c1, SRg.mono a1 a2 h⟩
  | ret r s1 => rw [e] at h; exact h
  | brk s1 => rw [e] at h; exact h
  | cnt s1 => rw [e] at h; exact h
  | exc cc row s1 => rw [e] at h; exact h
  | stuck => rw [e] at h; exact h
theorem ss_cons (h1 : PS X st (tS X.K ca W f)) (h2 : PSs X sts (tS X.K ca W g)) : PSs X (st :: sts) (tS X.K ca W (iSeq f g)) := PSs.imp (pss_cons h1 h2) fun _ _ _ => seq_imp
theorem ss_one (h1 : PS X st (tS X.K ca W f)) : PSs X [st] (tS X.K ca W f) := pss_one h1
theorem s_continue : PS X (.Continue pos) (tS X.K ca W fun s => .cnt s) := PS.imp ps_continue fun D σ H ⟨B, F, m, s, c, h⟩ => h F m σ H (Sub.refl F) (List.prefix_refl m) c
theorem argS {K : PySem.W.Frag} {σ : St} {H : Hp} {B F : Hp} {m : List Addr} {s : Sx} {E : Ends} {k : D → Sx → SR} {Q : VK} (c : Cor K ca B F m s σ H) (h : SRg K ca W B F m E (thenS (arg fe s) k))
    (hk : ∀ F1 m1 s1 H1 d v, Cor K ca B F1 m1 s1 σ H1 → RW K F1 m1 d v → SRg K ca W B F1 m1 E (k d s1) → Q v H1) : tE K ca W fe σ H Q := by
  have h0 := thenS_g (σ := σ) h
  unfold arg at h0
  refine ⟨B, F, m, s, c, ResG.imp (ResG.bind h0) fun F1 m1 s1 H1 x a1 a2 c1 h1 v rv => ?_⟩
  cases e1 : settle x s1 with
  | none => rw [e1] at h1; exact (show False from h1).elim
  | some q =>
    obtain ⟨d, s2⟩ := q
    rw [e1] at h1
    obtain ⟨F2, b1, c2, hd⟩ := settle_ok c1 rv e1
    exact hk F2 m1 s2 H1 d v c2 hd (ResG.now (W := W) c2 (ResG.mono b1 (List.prefix_refl _) h1))
theorem set_g {K : PySem.W.Frag} {σ : St} {H : Hp} {B F : Hp} {m : List Addr} {s : Sx} {E : Ends} {d : D} {v : V} (c : Cor K ca B F m s σ H) (r : RW K F m d v) (hi : i < s.env.length) (h : SRg K ca W B F m E (.nx (setv i d s))) : E.nx (σ.set i (some v)) H :=
  h F m _ H (Sub.refl F) (List.prefix_refl m) (c.setV r hi)
theorem ps_len {t t' : TS} (h : PS X st t') (i : ∀ D σ H, σ.length = X.N.length → t D σ H → t' D σ H) : PS X st t := ⟨fun pins s σ H D I q => h.run pins s σ H D I (i D σ H I.len q)⟩
theorem lt_of {K : PySem.W.Frag} {σ : St} {H : Hp} {B F : Hp} {m : List Addr} {s : Sx} (c : Cor K ca B F m s σ H) (hl : σ.length = X.N.length) (hi : X.N[i]? = some n) : i < s.env.length := by
  rw [c.el, hl]
  exact (List.getElem?_eq_some_iff.mp hi).1
theorem asg_tail {K : PySem.W.Frag} {E : Ends} {σ : St} {H : Hp} (hl : σ.length = X.N.length) (hi : X.N[i]? = some n) (h : tS K ca W (iSet i fe) E σ H) : tAsg (tE K ca W fe) (gName i) E σ H := by
  obtain ⟨B, F, m, s, c, h⟩ := h
  exact argS c h fun F1 m1 s1 H1 d v c1 r h1 => set_g c1 r (lt_of c1 hl hi) h1
theorem s_set (hN : X.N.Nodup) (he : PE X e (tE X.K ca W fe)) {p : Pos} (hi : X.N[i]? = some n := by rfl) (hx : Loc X.env.scope n := by first | exact Or.inl rfl | exact Or.inr rfl) (hf : X.fn n = true ∨ X.env.scope.names.lookup n = some .local := by first | exact .inl rfl | exact .inr rfl)
    (hs : swapsWith e (some (.Name n p)) pos.line X.env = pure false := by rfl) :
    PS X (.Assign [.Name n p] e pos) (tS X.K ca W (iSet i fe)) :=
  ps_len (ps_asg he (pg_name hN hi hx hf) hs) fun D σ H hl h => asg_tail hl hi h
theorem own_tail {K : PySem.W.Frag} {E : Ends} {σ : St} {H : Hp} (hl : σ.length = X.N.length) (hi : X.N[i]? = some n) (h : tS K ca W (iOwn i fe) E σ H) : tAsg (tE K ca W fe) (gName i) E σ H := by
  obtain ⟨B, F, m, s, c, h⟩ := h
  refine ⟨B, F, m, s, c, ResG.imp (thenS_g h) fun F1 m1 s1 H1 x a1 a2 c1 h1 v rv => ?_⟩
  cases x with
  | fr xs =>
    obtain ⟨a, vs, rfl, ha, r, f⟩ := rv
    exact h1 F1 m1 _ H1 (Sub.refl _) (List.prefix_refl _) (c1.setOwn f ha r (lt_of c1 hl hi))
  | w d => exact (show False from h1).elim
  | sl j => exact (show False from h1).elim
  | frd => exact (show False from h1).elim
theorem s_own (hN : X.N.Nodup) (he : PE X e (tE X.K ca W fe)) {p : Pos} (hi : X.N[i]? = some n := by rfl) (hx : Loc X.env.scope n := by first | exact Or.inl rfl | exact Or.inr rfl) (hf : X.fn n = true ∨ X.env.scope.names.lookup n = some .local := by first | exact .inl rfl | exact .inr rfl)
    (hs : swapsWith e (some (.Name n p)) pos.line X.env = pure false := by rfl) :
    PS X (.Assign [.Name n p] e pos) (tS X.K ca W (iOwn i fe)) :=
  ps_len (ps_asg he (pg_name hN hi hx hf) hs) fun D σ H hl h => own_tail hl hi h
theorem retv_ok {K : PySem.W.Frag} {σ : St} {H : Hp} {B F : Hp} {m : List Addr} {s : Sx} {x : RX} {v : V} {q : RV} (c : Cor K ca B F m s σ H) (rv : RR K B F m s σ H x v) (e : retv s x = some q) : RVR K B F m H q v := by
  cases x with
  | w d => cases e; exact rv
  | fr xs =>
    cases e
    obtain ⟨a, vs, rfl, ha, r, f1, f2, f3, _⟩ := rv
    exact ⟨a, vs, rfl, ha, r, f1, f2, f3⟩
  | frd => cases e
  | sl i =>
    have e : (match s.env[i]? with | some (SV.own xs) => some (RV.fr xs) | _ => none) = some q := e
    split at e
    · rename_i xs hx
      cases e
      obtain ⟨a, vs, e1, h1, h2, f⟩ := c.env i _ hx
      have e2 := rv.1
      rw [e1] at e2; cases e2
      exact ⟨a, vs, rfl, h1, h2, f⟩
    · cases e
theorem s_ret (he : PE X e (tE X.K ca W fe)) : PS X (.Return (some e) pos) (tS X.K ca W (iRet fe)) := by
  refine PS.imp (ps_ret he) fun E σ H ⟨B, F, m, s, c, h⟩ => ?_
  refine ⟨B, F, m, s, c, ResG.imp (thenS_g h) fun F1 m1 s1 H1 x a1 a2 c1 h1 v rv => ?_⟩
  cases e1 : retv s1 x with
  | none => rw [e1] at h1; exact (show False from h1).elim
  | some q =>
    rw [e1] at h1
    exact h1 F1 m1 σ H1 v (Sub.refl _) (List.prefix_refl _) c1 (retv_ok c1 rv e1)
theorem s_drop (he : PE X e (tE X.K ca W fe)) (hs : swapsWith e none pos.line X.env = pure false := by rfl) : PS X (.Expr e pos) (tS X.K ca W (iDrop fe)) := by
  refine PS.imp (ps_expr he hs) fun E σ H ⟨B, F, m, s, c, h⟩ => ?_
  exact ⟨B, F, m, s, c, ResG.imp (thenS_g h) fun F1 m1 s1 H1 x a1 a2 c1 h1 v rv => SRg.now (W := W) c1 h1⟩
theorem s_if (hc : PT X e (tT X.K ca W fe)) (ha : PSs X body (tS X.K ca W f)) (hb : PSs X body2 (tS X.K ca W g)) : PS X (.If e body body2 pos) (tS X.K ca W (iIfS fe f g)) := by
  refine PS.imp (ps_if hc ha hb) fun E σ H ⟨B, F, m, s, c, h⟩ => ?_
  refine ⟨B, F, m, s, c, ResG.imp (thenS_g h) fun F1 m1 s1 H1 x a1 a2 c1 h1 => ?_⟩
  cases e1 : isB x with
  | none => rw [e1] at h1; exact (show False from h1).elim
  | some k =>
    rw [e1] at h1
    rw [isB_some e1]
    cases k with
    | true => exact ⟨B, F1, m1, s1, c1, h1⟩
    | false => exact ⟨B, F1, m1, s1, c1, h1⟩
end
def mkFn (n k : Nat) (body : I) : Fn := fun ds hp => if ds.length = n then
    match body ⟨ds.map SV.v ++ List.replicate k SV.no, hp⟩ with
    | .nx s => .ok (.v .non) s.hp
    | .ret r s => .ok r s.hp
    | .exc c d s => .exc c d s.hp
    | _ => .stuck
  else .stuck
section
variable {P : Program} {w : World} {K : PySem.W.Frag} {mg : Str → Option Value} {base : Heap} {ca : Cl → Addr} {B F : Hp} {m : List Addr} {s : Sx} {σ : St} {H : Hp}
theorem Cor.noEnv (c : Cor K ca B F m s σ H) : Cor K ca B F m ⟨[], s.hp⟩ [] H :=
  ⟨c.fh, c.bh, c.bf, c.nd, c.mf, c.md, c.ml, c.hp, rfl, fun i x h => by simp at h, fun i j a x y h => by simp at h⟩
theorem Cor.params {hp : List Ob} (c : Cor K ca B F m ⟨[], hp⟩ [] H) {ds : List D} {vs : List V} (r : RWs K F m ds vs) (k : Nat) : Cor K ca B F m ⟨ds.map SV.v ++ List.replicate k SV.no, hp⟩ (vs.map some ++ List.replicate k none) H := by
  have nomut : ∀ (i : Nat) (x : SV), (ds.map SV.v ++ List.replicate k SV.no)[i]? = some x → x.mutb = false := fun i x h => by
    have hm := List.mem_of_getElem? h
    rcases List.mem_append.mp hm with hm | hm
    · obtain ⟨d, _, rfl⟩ := List.mem_map.mp hm; rfl
    · rw [(List.mem_replicate.mp hm).2]; rfl
  refine ⟨c.fh, c.bh, c.bf, c.nd, c.mf, c.md, c.ml, c.hp, by simp [r.length], fun i x h => ?_, fun i j a x y hi hj mx _ _ _ => ?_⟩
  · by_cases hi : i < ds.length
    · rw [List.getElem?_append_left (by simpa using hi), List.getElem?_map] at h
      have hd : ds[i]? = some ds[i] := by simp [hi]
      rw [hd] at h
      simp only [Option.map_some, Option.some.injEq] at h
      subst h
      obtain ⟨v, e, q⟩ := r.get hd
      refine ⟨v, ?_, q⟩
      rw [List.getElem?_append_left (by rw [List.length_map, ← r.length]; exact hi), List.getElem?_map, e]
      rfl
    · have q := nomut i x h
      cases x with
      | no => trivial
      | exc _ _ _ _ =>
        rw [List.getElem?_append_right (by simpa using hi)] at h
        have hm := (List.mem_replicate.mp (List.mem_of_getElem? h)).2
        cases hm
      | own _ => cases q
      | ownd _ _ => cases q
      | v d =>
        rw [List.getElem?_append_right (by simpa using hi)] at h
        have hm := (List.mem_replicate.mp (List.mem_of_getElem? h)).2
        cases hm
  · rw [nomut i x hi] at mx; cases mx
abbrev bodyX (P : Program) (w : World) (K : PySem.W.Frag) (mg : Str → Option Value) (base : Heap) (N : List Str) (qual : Str) (st : Stmt) (f : Addr) (cdv : Value) (A : Around) (outer : List Env) (s : Shared) (H : Hp) (E : XK) : Cx :=
  cxOf (L2.CX P w) P w K mg base N qual (defScope st) f cdv A outer s H E
theorem fn_ok {x qual : Str} {st : Stmt} {f : Addr} {fd : FuncData} {N ps : List Str} {k n j : Nat} {body : I} (F : Fun K x qual st f fd) (S : FnScope N ps (defScope st)) (hn : ps.length = n) (hj : N.length = n + j)
    (hb : ∀ (cdv : Value) (A : Around) (outer : List Env) (s : Shared) (H : Hp) (E : XK), Room k (A.deeper (PyProof.Rows.envOfC qual (defScope st) s.heap.objs.size f cdv)) → (let X := bodyX P w K mg base N qual st f cdv A outer s H E
      ∀ W : WX, W = (fun cls d _ H' => E cls d H') → Takes X W → PassesOwn (model X.prog X.w) X.A X.env X.xe → PSs X (defBody st) (tS K ca W body))) :
    FnOk P w K mg base (L2.CX P w) (k + 1) f fd ps (spF K ca n (mkFn n j body)) := by
  refine F.okX S (fun vs H Q E h => h.1.trans hn.symm) fun cdv A outer s H vs Q E hr h => ?_
  obtain ⟨hl, B, F0, m, ds, hp, c, r, g⟩ := h
  have hX := hb cdv A outer s H E hr (fun cls d _ H' => E cls d H') rfl (takes_of rfl rfl rfl rfl) (passes_of rfl)
  refine ⟨_, hX, B, F0, m, _, by unfold L2.start; rw [show N.length - vs.length = j by omega]; exact c.params r j, ?_⟩
  unfold mkFn at g
  rw [if_pos (r.length.trans hl)] at g
  cases e : body ⟨ds.map SV.v ++ List.replicate j SV.no, hp⟩ with
  | nx s' => rw [e] at g; exact fun F' m' σ' H' a1 a2 c' => g F' m' H' .non a1 a2 c'.noEnv rfl
  | ret rr s' => rw [e] at g; exact fun F' m' σ' H' v a1 a2 c' q => g F' m' H' v a1 a2 c'.noEnv q
  | exc cc row s' => rw [e] at g; exact fun F' m' σ' H' d a1 a2 c' q => g F' m' H' d a1 a2 c'.noEnv q
  | brk s' => rw [e] at g; exact g.elim
  | cnt s' => rw [e] at g; exact g.elim
  | stuck => rw [e] at g; exact g.elim
end
end Lk
namespace Lk
open PySem L2
inductive Src where
  | val | ob (n : Nat) | obe (n : Nat) (ys : List D) | two (n : Nat) (xs : List D) (k : Nat) (ys : List D)
open Classical in
noncomputable def okAt (src : Src) (xs : List D) (s : Sx) : Bool := match src with
  | .val => true
  | .ob n => decide (s.hp[n]? = some (.lst xs))
  | .obe n ys => decide (s.hp[n]? = some (.lst ys))
  | .two n xs k ys => decide (s.hp[n]? = some (.lst xs) ∧ s.hp[k]? = some (.lst ys))
abbrev Sq := Sx → Rs (List D × Src)
def Walks (K : PySem.W.Frag) (ca : Cl → Addr) (F : Hp) (m : List Addr) (xs : List D) (src : Src) (J : It) : Prop :=
  ∀ (B F1 : Hp) (m1 : List Addr) (s1 : Sx) (σ1 : St) (H1 : Hp), Sub F F1 → m <+: m1 → Cor K ca B F1 m1 s1 σ1 H1 → okAt src xs s1 = true →
    (∀ i, i < xs.length → J.go i H1) ∧ J.stop xs.length H1 ∧ ∀ (i : Nat) (x : D) (v : V) (H2 : Hp), xs[i]? = some x → J.yld i H1 v H2 → ∃ F2, Sub F1 F2 ∧ Cor K ca B F2 m1 s1 σ1 H2 ∧ RW K F2 m1 x v
def tI (K : PySem.W.Frag) (ca : Cl → Addr) (W : WX) (q : Sq) : TI := fun σ H R => ∃ (B F : Hp) (m : List Addr) (s : Sx), Cor K ca B F m s σ H ∧
  ResG K ca W B σ F m (fun F' m' s' H' (xs : List D × Src) => ∀ J, Walks K ca F' m' xs.1 xs.2 J → R J H') (q s)
theorem PI.imp {X : Cx} {tg it : Expr} {t t' : TI} (h : PI X tg it t) (i : ∀ σ H Q, t' σ H Q → t σ H Q) : PI X tg it t' := ⟨fun pins s σ H Q I q => h.run pins s σ H Q I (i σ H Q q)⟩
theorem PI.or {X : Cx} {tg it : Expr} {t t' : TI} (h : PI X tg it t) (h' : PI X tg it t') : PI X tg it (fun σ H Q => t σ H Q ∨ t' σ H Q) := ⟨fun pins s σ H Q I q => q.elim (h.run pins s σ H Q I) (h'.run pins s σ H Q I)⟩
theorem PE.or {X : Cx} {e : Expr} {t t' : TE} (h : PE X e t) (h' : PE X e t') : PE X e (fun σ H Q => t σ H Q ∨ t' σ H Q) := ⟨fun pins s σ H Q I q => q.elim (h.run pins s σ H Q I) (h'.run pins s σ H Q I)⟩
theorem PG.imp {X : Cx} {tg : Expr} {t t' : TG} (h : PG X tg t) (i : ∀ v σ H Q, t' v σ H Q → t v σ H Q) : PG X tg t' := ⟨fun pins s σ H v u Q I r q => h.run pins s σ H v u Q I r (i v σ H Q q)⟩
theorem PGs.imp {X : Cx} {tg : List Expr} {t t' : TGs} (h : PGs X tg t) (i : ∀ v σ H Q, t' v σ H Q → t v σ H Q) : PGs X tg t' := ⟨fun pins s σ H v u Q I r q => h.run pins s σ H v u Q I r (i v σ H Q q)⟩
theorem pg_len {X : Cx} {tg : Expr} {t : TG} (h : PG X tg t) : PG X tg (fun v σ H Q => σ.length = X.N.length → t v σ H Q) := ⟨fun pins s σ H v u Q I r q => h.run pins s σ H v u Q I r (q I.len)⟩
abbrev Tgt := D → Sx → Option Sx
def tgN (i : Nat) : Tgt := fun d s => some (setv i d s)
def tgs : List Tgt → List D → Sx → Option Sx
  | [], [], s => some s
  | t :: ts, d :: ds, s => match t d s with
    | some s1 => tgs ts ds s1
    | none => none
  | _, _, _ => none
def tgT (ts : List Tgt) : Tgt := fun d s => match d with
  | .tup ds => tgs ts ds s
  | .pr ds => tgs ts ds s
  | _ => none
section
variable (K : PySem.W.Frag) (ca : Cl → Addr)
def tG (t : Tgt) : TG := fun v σ H Q => ∃ (B F : Hp) (m : List Addr) (s : Sx) (d : D) (s' : Sx), Cor K ca B F m s σ H ∧ RW K F m d v ∧ t d s = some s' ∧ ∀ σ', Cor K ca B F m s' σ' H → Q σ' H
def tGs (ts : List Tgt) : TGs := fun vs σ H Q => ∃ (B F : Hp) (m : List Addr) (s : Sx) (ds : List D) (s' : Sx), Cor K ca B F m s σ H ∧ RWs K F m ds vs ∧ tgs ts ds s = some s' ∧ ∀ σ', Cor K ca B F m s' σ' H → Q σ' H
end
section
variable {X : Cx} {ca : Cl → Addr} {n : Str} {i : Nat} {pos : Pos} {e : Expr} {es : List Expr} {t : Tgt} {ts : List Tgt}
theorem g_name (hN : X.N.Nodup) (hi : X.N[i]? = some n := by rfl) (hx : Loc X.env.scope n := by first | exact Or.inl rfl | exact Or.inr rfl) (hf : X.fn n = true ∨ X.env.scope.names.lookup n = some .local := by first | exact .inl rfl | exact .inr rfl) : PG X (.Name n pos) (tG X.K ca (tgN i)) := by
  refine PG.imp (pg_len (pg_name hN hi hx hf)) fun v σ H Q ⟨B, F, m, s, d, s', c, r, e, q⟩ hl => ?_
  cases e
  exact q _ (c.setV r (lt_of c hl hi))
theorem gs_nil : PGs X [] (tGs X.K ca []) := by
  refine PGs.imp pgs_nil fun vs σ H Q ⟨B, F, m, s, ds, s', c, r, e, q⟩ => ?_
  cases ds with
  | nil => cases e; exact ⟨r, q σ c⟩
  | cons d ds => cases e
theorem gs_cons (h1 : PG X e (tG X.K ca t)) (h2 : PGs X es (tGs X.K ca ts)) (hs : (assignEach (e :: es) X.env).map (·.2) = assign e X.env :: (assignEach es X.env).map (·.2) := by rfl) : PGs X (e :: es) (tGs X.K ca (t :: ts)) := by
  refine PGs.imp (pgs_cons h1 h2 hs) fun vs σ H Q ⟨B, F, m, s, ds, s', c, r, e, q⟩ => ?_
  cases ds with
  | nil => cases e
  | cons d ds =>
    obtain ⟨v, vr, rfl, hr, hrs⟩ := r
    have e : (match t d s with | some s1 => tgs ts ds s1 | none => none) = some s' := e
    cases e1 : t d s with
    | none => rw [e1] at e; cases e
    | some s1 =>
      rw [e1] at e
      exact ⟨v, vr, rfl, B, F, m, s, d, s1, c, hr, e1, fun σ1 c1 => ⟨B, F, m, s1, ds, s', c1, hrs, e, q⟩⟩
theorem g_tup {k nn : Nat} (hc : X.calm = true) (h : PGs X es (tGs X.K ca ts)) (hl : ts.length = nn := by rfl) (hn : (assignEach es X.env).length = nn := by rfl) (hst : (assignEach es X.env).findIdx? (·.1) = none := by rfl) : PG X (.Tuple es k pos) (tG X.K ca (tgT ts)) := by
  refine PG.imp (pg_tup (n := nn) hc h hn hst) fun v σ H Q ⟨B, F, m, s, d, s', c, r, e, q⟩ => ?_
  have el : ∀ (ts : List Tgt) (ds : List D) (s s' : Sx), tgs ts ds s = some s' → ts.length = ds.length := by
    intro ts
    induction ts with
    | nil =>
      intro ds s s' h
      cases ds with
      | nil => rfl
      | cons d ds => cases h
    | cons t ts ih =>
      intro ds s s' h
      cases ds with
      | nil => cases h
      | cons d ds =>
        have h : (match t d s with | some s1 => tgs ts ds s1 | none => none) = some s' := h
        cases e1 : t d s with
        | none => rw [e1] at h; cases h
        | some s1 =>
          rw [e1] at h
          rw [List.length_cons, List.length_cons, ih ds s1 s' h]
  cases d with
  | tup ds =>
    obtain ⟨a, vs, rfl, ha, hr⟩ := r
    have e : tgs ts ds s = some s' := e
    exact ⟨a, vs, rfl, ha.sqt c.fh, by rw [← hr.length, ← el ts ds s s' e, hl], B, F, m, s, ds, s', c, hr, e, q⟩
  | pr ds =>
    obtain ⟨a, vs, rfl, ha, hr⟩ := r
    have e : tgs ts ds s = some s' := e
    exact ⟨a, vs, rfl, .inl (.inl (c.fh a _ ha)), by rw [← hr.length, ← el ts ds s s' e, hl], B, F, m, s, ds, s', c, hr, e, q⟩
  | _ => cases e
end
noncomputable def loop (tg : Tgt) (body : I) (src : Src) (all : List D) : List D → Sx → SR
  | [], s => match okAt src all s with
    | true => .nx s
    | false => .stuck
  | x :: xs, s => match okAt src all s with
    | true => match tg x s with
      | some s1 => match body s1 with
        | .nx s2 => loop tg body src all xs s2
        | .cnt s2 => loop tg body src all xs s2
        | .brk s2 => .nx s2
        | .ret r s2 => .ret r s2
        | .exc c d s2 => .exc c d s2
        | .stuck => .stuck
      | none => .stuck
    | false => .stuck
noncomputable def iFor (q : Sq) (tg : Tgt) (body : I) : I := fun s => thenS (q s) fun xs s1 => loop tg body xs.2 xs.1 xs.1 s1
section
variable {X : Cx} {ca : Cl → Addr} {W : WX} {q : Sq} {t : Tgt} {f : I} {tg iter : Expr} {body : List Stmt} {pos : Pos}
theorem for_imp {K : PySem.W.Frag} {E : Ends} {σ : St} {H : Hp} (h : tS K ca W (iFor q t f) E σ H) : tFor (tI K ca W q) (tG K ca t) (tS K ca W f) E σ H := by
  obtain ⟨B, F, m, s, c, h⟩ := h
  refine ⟨B, F, m, s, c, ResG.imp (thenS_g h) fun F1 m1 s1 H1 ⟨xs, src⟩ a1 a2 c1 h1 J hJ => ?_⟩
  refine ⟨fun i n σ2 H2 => i + n = xs.length ∧ ∃ (F2 : Hp) (m2 : List Addr) (s2 : Sx), Sub F1 F2 ∧ m1 <+: m2 ∧ Cor K ca B F2 m2 s2 σ2 H2 ∧ SRg K ca W B F2 m2 E (loop t f src xs (xs.drop i) s2), ⟨xs.length, by omega, F1, m1, s1, Sub.refl _, List.prefix_refl _, c1, by rw [List.drop_zero]; exact h1⟩, ?_⟩
  rintro i n σ2 H2 ⟨hin, F2, m2, s2, b1, b2, c2, h2⟩
  by_cases hlt : i < xs.length
  · refine .inr ?_
    have hd : xs.drop i = xs[i] :: xs.drop (i + 1) := List.drop_eq_getElem_cons hlt
    rw [hd] at h2
    unfold loop at h2
    cases e0 : okAt src xs s2 with
    | false => rw [e0] at h2; exact h2.elim
    | true =>
      rw [e0] at h2
      obtain ⟨w1, w2, w3⟩ := hJ B F2 m2 s2 σ2 H2 b1 b2 c2 e0
      refine ⟨w1 i hlt, fun σ3 H3 => ∃ (F3 : Hp) (m3 : List Addr) (s3 : Sx), Sub F1 F3 ∧ m1 <+: m3 ∧ Cor K ca B F3 m3 s3 σ3 H3 ∧ SRg K ca W B F3 m3 E (loop t f src xs (xs.drop (i + 1)) s3), fun σ3 H3 p => ⟨n - 1, by omega, by omega, p⟩, fun v H3 hy => ?_⟩
      obtain ⟨F3, d1, c3, r3⟩ := w3 i xs[i] v H3 (by simp [hlt]) hy
      cases e1 : t xs[i] s2 with
      | none => simp only [e1] at h2; exact h2.elim
      | some s3 =>
        simp only [e1] at h2
        refine ⟨B, F3, m2, s2, xs[i], s3, c3, r3, e1, fun σ4 c4 => ⟨B, F3, m2, s3, c4, ?_⟩⟩
        cases e2 : f s3 with
        | nx s4 =>
          rw [e2] at h2
          exact fun F5 m5 σ5 H5 x1 x2 c5 => ⟨F5, m5, s4, b1.trans (d1.trans x1), b2.trans x2, c5, SRg.mono (d1.trans x1) x2 h2⟩
        | cnt s4 =>
          rw [e2] at h2
          exact fun F5 m5 σ5 H5 x1 x2 c5 => ⟨F5, m5, s4, b1.trans (d1.trans x1), b2.trans x2, c5, SRg.mono (d1.trans x1) x2 h2⟩
        | brk s4 =>
          rw [e2] at h2
          exact fun F5 m5 σ5 H5 x1 x2 c5 => SRg.now (W := W) c5 (SRg.mono (d1.trans x1) x2 h2)
        | ret r s4 =>
          rw [e2] at h2
          exact SRg.mono (D := E) d1 (List.prefix_refl _) h2
        | exc cc row s4 =>
          rw [e2] at h2
          exact SRg.mono (D := E) d1 (List.prefix_refl _) h2
        | stuck => rw [e2] at h2; exact h2.elim
  · have e : i = xs.length := by omega
    subst e
    rw [List.drop_length] at h2
    unfold loop at h2
    cases e0 : okAt src xs s2 with
    | false => rw [e0] at h2; exact h2.elim
    | true =>
      rw [e0] at h2
      exact .inl ⟨(hJ B F2 m2 s2 σ2 H2 b1 b2 c2 e0).2.1, SRg.now (W := W) c2 h2⟩
theorem s_for (po : PassesOwn (model X.prog X.w) X.A X.env X.xe) (hc : X.calm = true) (hi : PI X tg iter (tI X.K ca W q)) (hg : PG X tg (tG X.K ca t)) (hb : PSs X body (tS X.K ca W f)) (hs : ∀ x, foldedSetIterable iter X.env x = pure x := by intro _; rfl) :
    PS X (.For tg iter body [] pos) (tS X.K ca W (iFor q t f)) := PS.imp (ps_for po hc hi hg hb hs) fun _ _ _ => for_imp
end
def strD (x : Str) : List D := x.cps.toList.map fun c => D.str ⟨#[c]⟩
def qE (f : E) : Sq := fun s => (f s).bind fun r s1 => match settle r s1 with
  | some (.lst xs, s2) => .ok (xs, .val) s2
  | some (.tup xs, s2) => .ok (xs, .val) s2
  | some (.rol ns, s2) => .ok (ns.map D.int, .val) s2
  | some (.str x, s2) => .ok (strD x, .val) s2
  | some (.ref n, s2) => match s2.hp[n]? with
    | some (.lst xs) => .ok (xs, .ob n) s2
    | _ => .stuck
  | _ => .stuck
noncomputable def dec (p : Prop) : Bool := @decide p (Classical.propDecidable p)
theorem dec_iff {p : Prop} : dec p = true ↔ p := by
  unfold dec
  exact @decide_eq_true_iff p (Classical.propDecidable p)
theorem dec_of {p : Prop} (h : p) : dec p = true := dec_iff.mpr h
def rngD (lo : Int) (n : Nat) : List D := (List.range n).map fun i : Nat => D.int (lo + (i : Int))
noncomputable def qR1 (f : E) : Sq := fun s => (arg f s).bind fun d s1 => match d with
  | .int j => if dec (-(2 ^ 62) ≤ j ∧ j < 2 ^ 62) = true then .ok (rngD 0 j.toNat, .val) s1 else .stuck
  | _ => .stuck
noncomputable def qR2 (f g : E) : Sq := fun s => (args [f, g] s).bind fun ds s1 => match ds with
  | [.int i, .int j] => if dec (-(2 ^ 62) ≤ i ∧ i < 2 ^ 62 ∧ -(2 ^ 62) ≤ j ∧ j < 2 ^ 62) = true then .ok (rngD i (j - i).toNat, .val) s1 else .stuck
  | _ => .stuck
def zipD : List D → List D → List D
  | x :: xs, y :: ys => .pr [x, y] :: zipD xs ys
  | _, _ => []
section
variable {K : PySem.W.Frag} {ca : Cl → Addr} {F F' : Hp} {m m' : List Addr}
theorem walks_list {a : Addr} {xs : List D} {vs : List V} (h : SqL K F a vs) (r : RWs K F m xs vs) : Walks K ca F m xs .val (Itl K a) := by
  intro B F1 m1 s1 σ1 H1 a1 a2 c _
  have q := (a1.trans c.fh).sqL h
  refine ⟨fun i hi => ?_, ⟨vs, q, by rw [← r.length]; exact Nat.le_refl _⟩, fun i x v H2 hx hy => ?_⟩
  · obtain ⟨v, hv, _⟩ := r.get (x := xs[i]) (List.getElem?_eq_getElem hi)
    exact ⟨vs, v, q, hv⟩
  · obtain ⟨rfl, hy⟩ := hy
    obtain ⟨v', hv, rv⟩ := r.get hx
    have e := hy vs q
    rw [hv] at e; cases e
    exact ⟨F1, Sub.refl _, c, RW.mono a1 a2 x _ rv⟩
theorem walks_tup {a : Addr} {xs : List D} {vs : List V} (h : TupAt F a vs) (r : RWs K F m xs vs) : Walks K ca F m xs .val (Itt K a) := by
  intro B F1 m1 s1 σ1 H1 a1 a2 c _
  have q : SqT K H1 a vs := (h.mono a1).sqt c.fh
  refine ⟨fun i hi => ?_, ⟨vs, q, by rw [← r.length]; exact Nat.le_refl _⟩, fun i x v H2 hx hy => ?_⟩
  · obtain ⟨v, hv, _⟩ := r.get (x := xs[i]) (List.getElem?_eq_getElem hi)
    exact ⟨vs, v, q, hv⟩
  · obtain ⟨rfl, hy⟩ := hy
    obtain ⟨v', hv, rv⟩ := r.get hx
    have e := hy vs q
    rw [hv] at e; cases e
    exact ⟨F1, Sub.refl _, c, RW.mono a1 a2 x _ rv⟩
theorem okAt_ob {n : Nat} {xs : List D} {s : Sx} (h : okAt (.ob n) xs s = true) : s.hp[n]? = some (.lst xs) := by
  unfold okAt at h
  simpa using h
theorem walks_ob {a : Addr} {xs : List D} {n : Nat} (h : m[n]? = some a) : Walks K ca F m xs (.ob n) (Itl K a) := by
  intro B F1 m1 s1 σ1 H1 a1 a2 c ho
  obtain ⟨vs, hv, r⟩ := c.hp n _ a (okAt_ob ho) (get_prefix a2 h)
  have q : SqL K H1 a vs := SqL.of hv
  refine ⟨fun i hi => ?_, ⟨vs, q, by rw [← r.length]; exact Nat.le_refl _⟩, fun i x v H2 hx hy => ?_⟩
  · obtain ⟨v, hv, _⟩ := r.get (x := xs[i]) (List.getElem?_eq_getElem hi)
    exact ⟨vs, v, q, hv⟩
  · obtain ⟨rfl, hy⟩ := hy
    obtain ⟨v', hv', rv⟩ := r.get hx
    have e := hy vs q
    rw [hv'] at e; cases e
    exact ⟨F1, Sub.refl _, c, rv⟩
theorem walks_rng {lo : Int} {n : Nat} : Walks K ca F m (rngD lo n) .val (Itr lo n) := by
  intro B F1 m1 s1 σ1 H1 a1 a2 c _
  have hl : (rngD lo n).length = n := by unfold rngD; simp
  refine ⟨fun i hi => by rw [hl] at hi; exact hi, by rw [hl]; exact Nat.le_refl n, fun i x v H2 hx hy => ?_⟩
  obtain ⟨rfl, rfl⟩ := hy
  unfold rngD at hx
  rw [List.getElem?_map] at hx
  have hi : i < n := by
    by_cases h : i < n
    · exact h
    · rw [List.getElem?_eq_none (by simpa using Nat.le_of_not_lt h)] at hx
      cases hx
  rw [List.getElem?_eq_getElem (by simpa using hi)] at hx
  simp only [Option.map_some, Option.some.injEq, List.getElem_range] at hx
  subst hx
  exact ⟨F1, Sub.refl _, c, rfl⟩
theorem walks_str {x : Str} : Walks K ca F m (strD x) .val (Its x) := by
  intro B F1 m1 s1 σ1 H1 a1 a2 c _
  have hl : (strD x).length = x.cps.size := by unfold strD; simp
  refine ⟨fun i hi => by rw [hl] at hi; exact hi, by rw [hl]; exact Nat.le_refl _, fun i d v H2 hx hy => ?_⟩
  obtain ⟨rfl, cc, hc, rfl⟩ := hy
  unfold strD at hx
  rw [List.getElem?_map, Array.getElem?_toList, hc] at hx
  simp only [Option.map_some, Option.some.injEq] at hx
  subst hx
  exact ⟨F1, Sub.refl _, c, rfl⟩
theorem zipD_get : ∀ {xs ys : List D} {i : Nat} {z : D}, (zipD xs ys)[i]? = some z → ∃ x y, z = .pr [x, y] ∧ xs[i]? = some x ∧ ys[i]? = some y
  | [], ys, i, z, h => by unfold zipD at h; simp at h
  | x :: xs, [], i, z, h => by unfold zipD at h; simp at h
  | x :: xs, y :: ys, 0, z, h => by
    unfold zipD at h
    simp at h
    exact ⟨x, y, h.symm, rfl, rfl⟩
  | x :: xs, y :: ys, i + 1, z, h => by
    unfold zipD at h
    simp only [List.getElem?_cons_succ] at h ⊢
    exact zipD_get h
theorem zipD_length : ∀ {xs ys : List D}, (zipD xs ys).length = min xs.length ys.length
  | [], ys => by unfold zipD; simp
  | x :: xs, [] => by unfold zipD; simp
  | x :: xs, y :: ys => by
    unfold zipD
    rw [List.length_cons, zipD_length, List.length_cons, List.length_cons]
    omega
theorem pair_new {B F1 : Hp} {m1 : List Addr} {s1 : Sx} {σ1 : St} {H1 : Hp} {T : Addr} {x y : D} {v u : V} (c : Cor K ca B F1 m1 s1 σ1 H1) (hT : H1 T = none) (rx : RW K F1 m1 x v) (ry : RW K F1 m1 y u) :
    ∃ F2, Sub F1 F2 ∧ Cor K ca B F2 m1 s1 σ1 (upd H1 T (.tup [v, u])) ∧ RW K F2 m1 (.pr [x, y]) (.ref T) := by
  have g : Sub F1 (upd F1 T (.tup [v, u])) := Sub.grow (c.fresh hT).1
  exact ⟨_, g, c.frz hT, T, _, rfl, upd_same, RWs.mono g (List.prefix_refl _) _ _ (RWs.cons rx (RWs.cons ry RWs.nil))⟩
theorem walks_zipT {a b : Addr} {xs ys : List D} {vs us : List V} (h : TupAt F a vs) (r : RWs K F m xs vs) (h' : TupAt F b us) (r' : RWs K F m ys us) : Walks K ca F m (zipD xs ys) .val (RZ.ItzT K a b) := by
  intro B F1 m1 s1 σ1 H1 a1 a2 c _
  have q : SqT K H1 a vs := (h.mono a1).sqt c.fh
  have q' : SqT K H1 b us := (h'.mono a1).sqt c.fh
  refine ⟨fun i hi => ?_, ⟨vs, us, q, q', ?_⟩, fun i z v H2 hz hy => ?_⟩
  · obtain ⟨x, y, _, hx, hy⟩ := zipD_get (List.getElem?_eq_getElem hi)
    obtain ⟨v, hv, _⟩ := r.get hx
    obtain ⟨u, hu, _⟩ := r'.get hy
    exact ⟨vs, us, v, u, q, q', hv, hu⟩
  · rw [zipD_length, ← r.length, ← r'.length]
    omega
  · obtain ⟨T, v1, u1, rfl, hT, rfl, h1, h2⟩ := hy
    obtain ⟨x, y, rfl, hx, hy⟩ := zipD_get hz
    obtain ⟨v, hv, rv⟩ := r.get hx
    obtain ⟨u, hu, ru⟩ := r'.get hy
    have e1 := h1 vs q
    have e2 := h2 us q'
    rw [hv] at e1; cases e1
    rw [hu] at e2; cases e2
    exact pair_new c hT (RW.mono a1 a2 x _ rv) (RW.mono a1 a2 y _ ru)
end
section
variable {X : Cx} {ca : Cl → Addr} {W : WX} {tg e e2 : Expr} {f g : E} {pos p : Pos}
theorem q_e (he : PE X e (tE X.K ca W f)) : PI X tg e (tI X.K ca W (qE f)) := by
  refine PI.imp (PI.or (pi_list he) (PI.or (pi_tup he) (pi_str he))) fun σ H R ⟨B, F, m, s, c, h⟩ => ?_
  have key : ∀ {P : V → Hp → Prop}, (∀ F1 m1 s1 H1 r, f s = .ok r s1 → Sub F F1 → m <+: m1 → Cor X.K ca B F1 m1 s1 σ H1 → ∀ v, RR X.K B F1 m1 s1 σ H1 r v → P v H1) → (∀ c d s1, f s = .exc c d s1 → ResG X.K ca W B σ F m (α := RX) (fun _ _ _ _ _ => False) (f s)) → f s ≠ .stuck → tE X.K ca W f σ H P := by
    intro P h1 h2 h3
    refine ⟨B, F, m, s, c, ?_⟩
    cases ef : f s with
    | ok r s1 => exact fun F1 m1 H1 a1 a2 c1 v rv => h1 F1 m1 s1 H1 r ef a1 a2 c1 v rv
    | exc cc d s1 =>
      have q := h2 cc d s1 ef
      rw [ef] at q
      exact q
    | stuck => exact absurd ef h3
  have hs : f s ≠ .stuck := fun z => by
    have h : ResG X.K ca W B σ F m (fun F' m' s' H' (xs : List D × Src) => ∀ J, Walks X.K ca F' m' xs.1 xs.2 J → R J H') ((f s).bind _) := h
    rw [z] at h; exact h
  have hx : ∀ c d s1, f s = .exc c d s1 → ResG X.K ca W B σ F m (α := RX) (fun _ _ _ _ _ => False) (f s) := fun cc d s1 z => by
    have h : ResG X.K ca W B σ F m (fun F' m' s' H' (xs : List D × Src) => ∀ J, Walks X.K ca F' m' xs.1 xs.2 J → R J H') ((f s).bind _) := h
    rw [z] at h ⊢; exact h
  cases ef : f s with
  | stuck => exact absurd ef hs
  | exc cc d s1 =>
    exact .inl (key (fun F1 m1 s1 H1 r e => by rw [ef] at e; cases e) hx hs)
  | ok r s1 =>
    have h : ResG X.K ca W B σ F m (fun F' m' s' H' (xs : List D × Src) => ∀ J, Walks X.K ca F' m' xs.1 xs.2 J → R J H') ((f s).bind fun r s1 => match settle r s1 with
      | some (.lst xs, s2) => .ok (xs, .val) s2
      | some (.tup xs, s2) => .ok (xs, .val) s2
      | some (.rol ns, s2) => .ok (ns.map D.int, .val) s2
      | some (.str x, s2) => .ok (strD x, .val) s2
      | some (.ref n, s2) => match s2.hp[n]? with
        | some (.lst xs) => .ok (xs, .ob n) s2
        | _ => .stuck
      | _ => .stuck) := h
    rw [ef] at h
    unfold Rs.bind at h
    simp only at h
    cases es : settle r s1 with
    | none => rw [es] at h; exact h.elim
    | some q =>
      obtain ⟨d, s2⟩ := q
      rw [es] at h
      cases d with
      | lst xs =>
        refine .inl (key (fun F1 m1 s1' H1 r' e' a1 a2 c1 v rv => ?_) hx hs)
        rw [ef] at e'; cases e'
        obtain ⟨F2, b1, c2, a, vs, rfl, ha, rr⟩ := settle_ok c1 rv es
        exact ⟨a, rfl, ⟨vs, SqL.of (c2.fh a _ ha)⟩, h F2 m1 H1 (a1.trans b1) a2 c2 _ (walks_list (SqL.of ha) rr)⟩
      | rol ns =>
        refine .inl (key (fun F1 m1 s1' H1 r' e' a1 a2 c1 v rv => ?_) hx hs)
        rw [ef] at e'; cases e'
        obtain ⟨F2, b1, c2, a, rfl, ha⟩ := settle_ok c1 rv es
        exact ⟨a, rfl, ⟨_, c2.fh.sqL ha⟩, h F2 m1 H1 (a1.trans b1) a2 c2 _ (walks_list ha (RWs.ints ns))⟩
      | tup xs =>
        refine .inr (.inl (key (fun F1 m1 s1' H1 r' e' a1 a2 c1 v rv => ?_) hx hs))
        rw [ef] at e'; cases e'
        obtain ⟨F2, b1, c2, a, vs, rfl, ha, rr⟩ := settle_ok c1 rv es
        exact ⟨a, rfl, ⟨vs, (ha.sqt c2.fh)⟩, h F2 m1 H1 (a1.trans b1) a2 c2 _ (walks_tup ha rr)⟩
      | str x =>
        refine .inr (.inr (key (fun F1 m1 s1' H1 r' e' a1 a2 c1 v rv => ?_) hx hs))
        rw [ef] at e'; cases e'
        obtain ⟨F2, b1, c2, rr⟩ := settle_ok c1 rv es
        have rr : v = .str x := rr
        subst rr
        exact ⟨x, rfl, h F2 m1 H1 (a1.trans b1) a2 c2 _ walks_str⟩
      | ref n =>
        simp only at h
        cases eh : s2.hp[n]? with
        | none => rw [eh] at h; exact h.elim
        | some ob =>
          rw [eh] at h
          cases ob with
          | lst xs =>
            refine .inl (key (fun F1 m1 s1' H1 r' e' a1 a2 c1 v rv => ?_) hx hs)
            rw [ef] at e'; cases e'
            obtain ⟨F2, b1, c2, a, hm, rfl⟩ := settle_ok c1 rv es
            obtain ⟨vs, hv, rr⟩ := c2.hp n _ a eh hm
            exact ⟨a, rfl, ⟨vs, SqL.of hv⟩, h F2 m1 H1 (a1.trans b1) a2 c2 _ (walks_ob hm)⟩
          | ins _ _ => exact h.elim
          | gone => exact h.elim
          | xin _ _ => exact h.elim
      | non => exact h.elim
      | bl _ => exact h.elim
      | int _ => exact h.elim
      | dct => exact h.elim
      | pr _ => exact h.elim
theorem arg_tA {K : PySem.W.Frag} {σ : St} {H : Hp} {B F : Hp} {m : List Addr} {s : Sx} {β : Type} {P : Hp → List Addr → Sx → Hp → β → Prop} {k : D → Sx → Rs β} {Q : List V → Hp → Prop} (c : Cor K ca B F m s σ H)
    (h : ResG K ca W B σ F m P ((arg f s).bind k)) (hk : ∀ F1 m1 s1 H1 d v, Cor K ca B F1 m1 s1 σ H1 → RW K F1 m1 d v → ResG K ca W B σ F1 m1 P (k d s1) → Q [v] H1) : tA K ca W [f] σ H Q := by
  refine ⟨B, F, m, s, c, ?_⟩
  show ResG K ca W B σ F m _ ((arg f s).bind fun d s1 => .ok [d] s1)
  cases e : arg f s with
  | ok d s1 =>
    rw [e] at h
    intro F1 m1 H1 a1 a2 c1 vs rv
    obtain ⟨v, r, rfl, rv, rr⟩ := rv
    have rr' : r = [] := rr
    subst rr'
    exact hk F1 m1 s1 H1 d v c1 rv (ResG.mono a1 a2 h)
  | exc cc row s1 => rw [e] at h; exact h
  | stuck => rw [e] at h; exact h
theorem q_r1 (hg : Gl X "range") (hm : X.mg "range" = none) (ha : PA X [e] (tA X.K ca W [f])) (hs : starEach [e] X.env = [(false, eval e X.env)] := by rfl) : PI X tg (.Call (.Name "range" p) [e] [] pos) (tI X.K ca W (qR1 f)) := by
  refine PI.imp (pi_range1 hg hm ha hs) fun σ H R ⟨B, F, m, s, c, h⟩ => ?_
  refine arg_tA c h fun F1 m1 s1 H1 d v c1 rv h1 => ?_
  cases d with
  | int j =>
    have rv : v = .int j := rv
    subst rv
    simp only at h1
    by_cases hj : dec (-(2 ^ 62) ≤ j ∧ j < 2 ^ 62) = true
    · rw [if_pos hj] at h1
      have hj := dec_iff.mp hj
      exact ⟨j, rfl, hj.1, hj.2, ResG.now (W := W) c1 h1 _ walks_rng⟩
    · rw [if_neg hj] at h1; exact h1.elim
  | _ => exact h1.elim
theorem q_r2 (hg : Gl X "range") (hm : X.mg "range" = none) (ha : PA X [e, e2] (tA X.K ca W [f, g])) (hs : starEach [e, e2] X.env = [(false, eval e X.env), (false, eval e2 X.env)] := by rfl) (hs2 : starEach [e2] X.env = [(false, eval e2 X.env)] := by rfl) :
    PI X tg (.Call (.Name "range" p) [e, e2] [] pos) (tI X.K ca W (qR2 f g)) := by
  refine PI.imp (pi_range2 hg hm ha hs hs2) fun σ H R ⟨B, F, m, s, c, h⟩ => ?_
  refine args_imp c h fun F1 m1 s1 H1 ds vs hl c1 rv h1 => ?_
  split at h1
  · rename_i i j
    obtain ⟨v, r, rfl, rv, u, r', rfl, ru, rr⟩ := rv
    have rr' : r' = [] := rr
    subst rr'
    have rv : v = .int i := rv
    have ru : u = .int j := ru
    subst rv ru
    split at h1
    · rename_i hj
      exact ⟨i, j, rfl, dec_iff.mp hj, ResG.now (W := W) c1 h1 _ walks_rng⟩
    · exact h1.elim
  · exact h1.elim
end
end Lk
namespace Lk
open PySem L2
section
variable {X : Cx} {ca : Cl → Addr} {K : PySem.W.Frag} {F : Hp} {m : List Addr} {H : Hp}
theorem opr {f : Value → Value → Sem Value} {g : D → D → Option RX} (h : ∀ (B F : Hp) (m : List Addr) (s : Sx) (σ : St) (H : Hp) (d e : D) (r : RX) (x y : V) (Q : VK), Cor X.K ca B F m s σ H → RP X.K F m H d x → RP X.K F m H e y → g d e = some r →
      (∀ (F' H' : Hp) (v : V), Sub F F' → Cor X.K ca B F' m s σ H' → RR X.K B F' m s σ H' r v → Q v H') → ∃ t : R2, OpR X f t ∧ t x y H Q) : OpR X f (r2 X.K ca g) := by
  intro pins s σ H x y v u Q I rx ry ⟨B, F, m, s1, σ1, d, e, r, c, hx, hy, hg, q⟩
  obtain ⟨t, ht, hq⟩ := h B F m s1 σ1 H d e r x y Q c hx hy hg q
  exact ht pins s σ H x y v u Q I rx ry hq
theorem ansW {B F : Hp} {m : List Addr} {s : Sx} {σ : St} {H : Hp} {Q : VK} {d : D} {v : V} (c : Cor K ca B F m s σ H) (q : ∀ (F' H' : Hp) (v : V), Sub F F' → Cor K ca B F' m s σ H' → RR K B F' m s σ H' (.w d) v → Q v H') (r : RW K F m d v) : Q v H :=
  q F H v (Sub.refl F) c r
theorem ansL {B F : Hp} {m : List Addr} {s : Sx} {σ : St} {H : Hp} {Q : VK} {xs : List D} {vs : List V} (c : Cor K ca B F m s σ H) (q : ∀ (F' H' : Hp) (v : V), Sub F F' → Cor K ca B F' m s σ H' → RR K B F' m s σ H' (.fr xs) v → Q v H') (r : RWs K F m xs vs) (p : Addr) (hp : H p = none) :
    Q (.ref p) (upd H p (.lst vs)) :=
  q F _ _ (Sub.refl F) (c.other (c.fresh hp)) ⟨p, vs, rfl, upd_same, r, c.fresh hp⟩
theorem ansT {B F : Hp} {m : List Addr} {s : Sx} {σ : St} {H : Hp} {Q : VK} {xs : List D} {vs : List V} (c : Cor K ca B F m s σ H) (q : ∀ (F' H' : Hp) (v : V), Sub F F' → Cor K ca B F' m s σ H' → RR K B F' m s σ H' (.w (.tup xs)) v → Q v H') (r : RWs K F m xs vs) (p : Addr) (ob : Obj) (hp : H p = none) (hd : ob.dict = none) :
    Q (.ref p) (upd H p (tupO ob vs)) := by
  have g : Sub F (upd F p (tupO ob vs)) := Sub.grow (c.fresh hp).1
  exact q _ _ _ g (c.frz hp) ⟨p, vs, rfl, tupO_at hd, RWs.mono g (List.prefix_refl _) xs vs r⟩
end
section
open PySem PySem.Spec PyProof.Rows
variable {X : Cx}
def rCatN (K : PySem.W.Frag) : R2 := fun x y H Q => ∃ a b xs ys, x = .ref a ∧ y = .ref b ∧ SqT K H a xs ∧ SqT K H b ys ∧ xs.length + ys.length ≤ sizeLine ∧
  (xs = [] → Q (.ref b) H) ∧ (xs ≠ [] → ys = [] → Q (.ref a) H) ∧ (xs ≠ [] → ys ≠ [] → ∀ p ob, H p = none → ob.dict = none → Q (.ref p) (upd H p (tupO ob (xs ++ ys))))
theorem op_catN : OpR X (binaryOp .Add) (rCatN X.K) := by
  intro pins s σ H x y v u Q I rx ry h
  obtain ⟨a, b, xs, ys, rfl, rfl, ha, hb, hz, q0, q1, q2⟩ := h
  by_cases hx : xs = []
  · subst hx
    cases rx
    cases ry
    obtain ⟨its, r1, p1, _⟩ := I.tuple ha
    obtain ⟨its2, r2, p2, _⟩ := I.tuple hb
    cases r1
    exact cat_tup0 p1 p2 ⟨.ref b, H, I, rfl, q0 rfl⟩
  cases rx
  cases ry
  obtain ⟨its, r1, p1, _⟩ := I.tuple ha
  obtain ⟨its2, r2, p2, _⟩ := I.tuple hb
  refine HT.cat_tup p1 p2 (fun z => hx (r1.nil_iff.mp z)) (fun z => ⟨.ref a, H, I, rfl, q1 hx (r2.nil_iff.mp z)⟩) (fun z => ?_) (by rw [← r1.length, ← r2.length]; exact hz)
  have I2 : Inv X pins σ (upd H s.heap.objs.size (tupO { cls := .type "tuple", data := .seq (its ++ its2).toArray } (xs ++ ys))) { s with heap := s.heap.push { cls := .type "tuple", data := .seq (its ++ its2).toArray } } :=
    I.laid (t' := s.toks) (fun b ob q => Heap.get?_push_of_some _ q) (Nat.le_refl _) (tupO_ok (Heap.get?_push_size _ rfl) (show ObjOk X.prog X.w _ _ _ (.tup (xs ++ ys)) from ⟨by rw [List.length_append]; exact hz, _, r1.append r2, IsTup.new _ _⟩))
  exact ⟨.ref s.heap.objs.size, _, I2, rfl, q2 hx (fun w => z (r2.nil_iff.mpr w)) _ _ (I.hok.fresh (Nat.le_refl _)) rfl⟩
theorem call_tuple_ofN : CallR X (.type "tuple") (fun xs H Q => ∃ p ys, xs = [.ref p] ∧ ((SqL X.K H p ys ∧ ∀ l ob, H l = none → ob.dict = none → Q (.ref l) (upd H l (tupO ob ys))) ∨ (SqT X.K H p ys ∧ Q (.ref p) H))) := by
  intro pins s σ H xs us Q I r h
  obtain ⟨p, ys, rfl, h⟩ := h
  obtain ⟨u, rfl, rx⟩ := vals1 r
  cases rx
  rcases h with ⟨hq, q⟩ | ⟨hq, q⟩
  · obtain ⟨its, r', pl, hz⟩ := I.list hq
    have hlen := r'.length
    refine call_tuple_list pl.isList (fun h' kp => ?_) (by simp only [List.size_toArray] <;> omega)
    have I1 : Inv X pins σ H { s with heap := h' } := I.kept (t' := s.toks) kp
    have I2 : Inv X pins σ (upd H h'.objs.size (tupO { cls := .type "tuple", data := .seq its.toArray } ys)) { s with heap := h'.push { cls := .type "tuple", data := .seq its.toArray } } :=
      I1.laid (t' := s.toks) (fun b o e => Heap.get?_push_of_some _ e) (Nat.le_refl _) (tupO_ok (Heap.get?_push_size _ rfl) (show ObjOk X.prog X.w _ _ _ (.tup ys) from ⟨hz, its, r', IsTup.new _ _⟩))
    exact ⟨.ref h'.objs.size, _, I2, rfl, q _ _ (I1.hok.fresh (Nat.le_refl _)) rfl⟩
  · obtain ⟨its, r', pl, hz⟩ := I.tuple hq
    exact call_tuple_same pl ⟨.ref p, H, I, rfl, q⟩
end
noncomputable def mulOk (i j : Int) : Bool := dec (i.natAbs.log2 + j.natAbs.log2 < 100000000)
def gAdd : D → D → Option RX
  | .int i, .int j => some (.w (.int (i + j)))
  | .str x, .str y => if x.length + y.length ≤ 1000000 then some (.w (.str (x ++ y))) else none
  | .lst xs, .lst ys => if xs.length + ys.length ≤ 1000000 then some (.fr (xs ++ ys)) else none
  | .tup xs, .tup ys => if xs.length + ys.length ≤ 1000000 then some (.w (.tup (xs ++ ys))) else none
  | _, _ => none
def gSub : D → D → Option RX
  | .int i, .int j => some (.w (.int (i - j)))
  | _, _ => none
noncomputable def gMul : D → D → Option RX
  | .int i, .int j => if mulOk i j then some (.w (.int (i * j))) else none
  | _, _ => none
def gMod : D → D → Option RX
  | .int i, .int j => if 0 < j then some (.w (.int (i % j))) else none
  | _, _ => none
noncomputable def gDiv : D → D → Option RX
  | .int i, .int j => if dec (0 < j ∧ j < 2 ^ 200) = true then some (.w (.int (i / j))) else none
  | _, _ => none
noncomputable def gPow : D → D → Option RX
  | .int i, .int j => if dec (0 ≤ j ∧ j ≤ 1000 ∧ i.natAbs < 2 ^ 64) = true then some (.w (.int (i ^ j.toNat))) else none
  | _, _ => none
def gCmp (p : Int → Int → Bool) : D → D → Option RX
  | .int i, .int j => some (.w (.bl (p i j)))
  | _, _ => none
def gLt := gCmp fun i j => decide (i < j)
def gLe := gCmp fun i j => decide (i ≤ j)
def gGt := gCmp fun i j => decide (j < i)
def gGe := gCmp fun i j => decide (j ≤ i)
theorem sz6 {n : Nat} (h : n ≤ 1000000) : n ≤ sizeLine := Nat.le_trans h (by rw [sizeLine_eq]; decide)
section
variable {X : Cx} {ca : Cl → Addr}
theorem CMulBig.ok {i j : Int} (h : mulOk i j = true) : IntMulOk i j := by
  have b : ∀ x : Int, Builtin.Int.intBits x ≤ x.natAbs.log2 + 1 := fun x => by
    unfold Builtin.Int.intBits
    split <;> omega
  have h1 := b i
  have h2 := b j
  have h3 : i.natAbs.log2 + j.natAbs.log2 < 100000000 := dec_iff.mp h
  have e : bitsLine = 134217728 := by decide
  unfold IntMulOk
  intro z
  rw [Bool.and_eq_true] at z
  have z2 := z.2
  unfold Builtin.Int.intTooBig at z2
  have z3 := of_decide_eq_true z2
  rw [e] at z3
  omega
theorem op_mulB : OpR X (binaryOp .Mult) (rI (fun i j => mulOk i j = true) fun i j => .int (i * j)) := opI fun _ _ _ _ _ _ _ hc q => PyProof.Rows.mul_int q (CMulBig.ok hc)
theorem o_add : OpR X (binaryOp .Add) (r2 X.K ca gAdd) := opr fun B F m s σ H d e r x y Q c hx hy hg q => by
  cases d with
  | int i =>
    cases e with
    | int j => cases hg; exact ⟨_, op_add, i, j, hx, hy, ansW c q rfl⟩
    | _ => cases hg
  | str a =>
    cases e with
    | str b =>
      have hg : (if a.length + b.length ≤ 1000000 then some (RX.w (.str (a ++ b))) else none) = some r := hg
      split at hg
      · rename_i hl; cases hg; exact ⟨_, op_add_str, a, b, hx, hy, sz6 hl, ansW c q rfl⟩
      · cases hg
    | _ => cases hg
  | lst xs =>
    cases e with
    | lst ys =>
      have hg : (if xs.length + ys.length ≤ 1000000 then some (RX.fr (xs ++ ys)) else none) = some r := hg
      split at hg
      · rename_i hl
        cases hg
        obtain ⟨a, vs, rfl, ha, ra⟩ := hx
        obtain ⟨b, us, rfl, hb, rb⟩ := hy
        exact ⟨_, op_cat, a, b, vs, us, rfl, rfl, ha, hb, sz6 (by rw [← ra.length, ← rb.length]; exact hl), fun p hp => ansL c q (RWs.append ra rb) p hp⟩
      · cases hg
    | _ => cases hg
  | tup xs =>
    cases e with
    | tup ys =>
      have hg : (if xs.length + ys.length ≤ 1000000 then some (RX.w (.tup (xs ++ ys))) else none) = some r := hg
      split at hg
      · rename_i hl
        cases hg
        obtain ⟨a, vs, rfl, ha, ra⟩ := hx
        obtain ⟨b, us, rfl, hb, rb⟩ := hy
        refine ⟨_, op_catN, a, b, vs, us, rfl, rfl, (ha.sqt c.fh), (hb.sqt c.fh), sz6 (by rw [← ra.length, ← rb.length]; exact hl), fun h0 => ?_, fun _ h0 => ?_, fun _ _ p ob hp hd => ansT c q (RWs.append ra rb) p ob hp hd⟩
        · have e0 : xs = [] := List.length_eq_zero_iff.mp (by rw [ra.length, h0]; rfl)
          exact ansW c q ⟨b, us, rfl, hb, by rw [e0]; exact rb⟩
        · have e0 : ys = [] := List.length_eq_zero_iff.mp (by rw [rb.length, h0]; rfl)
          exact ansW c q ⟨a, vs, rfl, ha, by rw [e0, List.append_nil]; exact ra⟩
      · cases hg
    | _ => cases hg
  | _ => cases hg
theorem o_sub : OpR X (binaryOp .Sub) (r2 X.K ca gSub) := opr fun B F m s σ H d e r x y Q c hx hy hg q => by
  unfold gSub at hg
  split at hg
  · cases hg; exact ⟨_, op_sub, _, _, hx, hy, ansW c q rfl⟩
  · cases hg
theorem o_mul : OpR X (binaryOp .Mult) (r2 X.K ca gMul) := opr fun B F m s σ H d e r x y Q c hx hy hg q => by
  unfold gMul at hg
  split at hg
  · split at hg
    · rename_i hm; cases hg; exact ⟨_, op_mulB, _, _, hx, hy, hm, ansW c q rfl⟩
    · cases hg
  · cases hg
theorem o_mod : OpR X (binaryOp .Mod) (r2 X.K ca gMod) := opr fun B F m s σ H d e r x y Q c hx hy hg q => by
  unfold gMod at hg
  split at hg
  · split at hg
    · rename_i hm; cases hg; exact ⟨_, op_mod, _, _, hx, hy, hm, ansW c q rfl⟩
    · cases hg
  · cases hg
theorem o_div : OpR X (binaryOp .FloorDiv) (r2 X.K ca gDiv) := opr fun B F m s σ H d e r x y Q c hx hy hg q => by
  unfold gDiv at hg
  split at hg
  · split at hg
    · rename_i j hm
      have hm := dec_iff.mp hm
      cases hg
      refine ⟨_, op_fdivW, _, _, hx, hy, wide_div (b := 200) hm.1 ?_ (by decide) (by decide), ansW c q rfl⟩
      omega
    · cases hg
  · cases hg
theorem o_pow : OpR X (binaryOp .Pow) (r2 X.K ca gPow) := opr fun B F m s σ H d e r x y Q c hx hy hg q => by
  unfold gPow at hg
  split at hg
  · split at hg
    · rename_i hm
      have hm := dec_iff.mp hm
      cases hg
      exact ⟨_, op_pow, _, _, hx, hy, ⟨hm.1, by omega, hm.2.2⟩, ansW c q rfl⟩
    · cases hg
  · cases hg
theorem o_lt : OpR X (compareOp .Lt) (r2 X.K ca gLt) := opr fun B F m s σ H d e r x y Q c hx hy hg q => by
  unfold gLt gCmp at hg
  split at hg
  · cases hg; exact ⟨_, op_lt, _, _, hx, hy, ansW c q rfl⟩
  · cases hg
theorem o_le : OpR X (compareOp .LtE) (r2 X.K ca gLe) := opr fun B F m s σ H d e r x y Q c hx hy hg q => by
  unfold gLe gCmp at hg
  split at hg
  · cases hg; exact ⟨_, op_le, _, _, hx, hy, ansW c q rfl⟩
  · cases hg
theorem o_gt : OpR X (compareOp .Gt) (r2 X.K ca gGt) := opr fun B F m s σ H d e r x y Q c hx hy hg q => by
  unfold gGt gCmp at hg
  split at hg
  · cases hg; exact ⟨_, op_gt, _, _, hx, hy, ansW c q rfl⟩
  · cases hg
def iNeg (f : E) : E := fun s => (f s).bind fun r s1 => match r with
  | .w (.int i) => .ok (.w (.int (-i))) s1
  | _ => .stuck
theorem e_neg {e : Expr} {W : WX} {f : E} {pos : Pos} (he : PE X e (tE X.K ca W f)) : PE X (.UnaryOp .USub e pos) (tE X.K ca W (iNeg f)) := by
  refine PE.imp (pe_un un_neg he) fun σ H Q ⟨B, F, m, s, c, h⟩ => ?_
  refine ⟨B, F, m, s, c, ResG.imp (ResG.bind h) fun F1 m1 s1 H1 x a1 a2 c1 h1 v rv => ?_⟩
  cases x with
  | w d =>
    cases d with
    | int i => exact ⟨i, rv, ResG.now (W := W) c1 h1 _ rfl⟩
    | _ => exact (show False from h1).elim
  | _ => exact (show False from h1).elim
end
def b2 (b : Bool) : Int := if b then 1 else 0
def weqL (f : D → D → Option Bool) : List D → List D → Option Bool
  | [], [] => some true
  | x :: xs, y :: ys => match f x y, weqL f xs ys with
    | some a, some b => some (a && b)
    | _, _ => none
  | _, _ => some false
def weqS : D → D → Option Bool
  | .int i, .int j => some (decide (i = j))
  | .str x, .str y => some (decide (x = y))
  | .bl a, .bl b => some (decide (a = b))
  | .non, .non => some true
  | .int i, .bl b => some (decide (i = b2 b))
  | .bl a, .int j => some (decide (b2 a = j))
  | .non, .int _ => some false
  | .non, .bl _ => some false
  | .non, .str _ => some false
  | .int _, .non => some false
  | .int _, .str _ => some false
  | .bl _, .non => some false
  | .bl _, .str _ => some false
  | .str _, .non => some false
  | .str _, .int _ => some false
  | .str _, .bl _ => some false
  | _, _ => none
def weqF : Nat → D → D → Option Bool
  | 0, d, e => weqS d e
  | n + 1, d, e => match d, e with
    | .tup xs, .tup ys => weqL (weqF n) xs ys
    | .lst xs, .lst ys => weqL (weqF n) xs ys
    | d, e => weqS d e
def weq (d e : D) : Option Bool := weqF 20 d e
def mixed : D → D → Bool
  | .int _, .bl _ => true
  | .bl _, .int _ => true
  | _, _ => false
def gEq (d e : D) : Option RX := match mixed d e with
  | true => none
  | false => match weq d e with
    | some b => some (.w (.bl b))
    | none => none
def gNe (d e : D) : Option RX := match mixed d e with
  | true => none
  | false => match weqS d e with
    | some b => some (.w (.bl (!b)))
    | none => none
def notL0 : D → Bool
  | .lst _ => false
  | _ => true
def notL (_ : D) : Bool := true
theorem rp_rw {K : PySem.W.Frag} {F H : Hp} {m : List Addr} {d : D} {v : V} (hF : Sub F H) (r : RP K F m H d v) : ∃ F1, Sub F F1 ∧ Sub F1 H ∧ RW K F1 m d v := by
  by_cases n : notL0 d = true
  · exact ⟨F, Sub.refl F, hF, by cases d <;> first | exact r | cases n⟩
  · cases d with
    | lst xs =>
      obtain ⟨a, vs, e, h, rs⟩ := r
      have g : Sub F (upd F a (.lst vs)) := fun b o q => by
        by_cases z : b = a
        · subst z
          have := hF b o q
          rw [h] at this
          rw [upd_same]; exact this
        · rw [upd_ne z]; exact q
      refine ⟨upd F a (.lst vs), g, fun b o q => ?_, a, vs, e, upd_same, RWs.mono g (List.prefix_refl _) xs vs rs⟩
      by_cases z : b = a
      · subst z
        rw [upd_same] at q
        rw [h]; exact q
      · rw [upd_ne z] at q
        exact hF b o q
    | _ => exact absurd rfl n
def gIn (d e : D) : Option RX := match e with
  | .lst xs => if notL d = true ∧ xs.all (fun x => (weqF 20 x d).isSome) = true then some (.w (.bl (xs.any fun x => weqF 20 x d == some true))) else none
  | .tup xs => if notL d = true ∧ xs.all (fun x => (weqF 20 x d).isSome) = true then some (.w (.bl (xs.any fun x => weqF 20 x d == some true))) else none
  | _ => none
def gIs (d e : D) : Option RX := match e with
  | .non => match d with
    | .non => some (.w (.bl true))
    | .rol _ => none
    | _ => some (.w (.bl false))
  | _ => none
def fitD (f : D → D → Option Bool) (xs ys : List D) (j : Nat) : Bool := match xs[j]?, ys[j]? with
  | some x, some y => (f x y).getD false
  | _, _ => false
theorem weqL_at {f : D → D → Option Bool} : ∀ (xs ys : List D) (b : Bool), weqL f xs ys = some b →
    (∀ (j : Nat) (x y : D), xs[j]? = some x → ys[j]? = some y → f x y = some (fitD f xs ys j)) ∧ b = ((List.range (min xs.length ys.length)).all (fitD f xs ys) && xs.length == ys.length)
  | [], [], b, h => by
    cases h
    exact ⟨fun j x y hx _ => by simp at hx, by simp⟩
  | [], y :: ys, b, h => by
    cases h
    exact ⟨fun j x y hx _ => by simp at hx, by simp⟩
  | x :: xs, [], b, h => by
    cases h
    exact ⟨fun j x y _ hy => by simp at hy, by simp⟩
  | x :: xs, y :: ys, b, h => by
    unfold weqL at h
    cases e1 : f x y with
    | none => rw [e1] at h; cases h
    | some a =>
      cases e2 : weqL f xs ys with
      | none => rw [e1, e2] at h; cases h
      | some b' =>
        rw [e1, e2] at h
        cases h
        obtain ⟨i1, i2⟩ := weqL_at xs ys b' e2
        have f0 : fitD f (x :: xs) (y :: ys) 0 = a := by
          show (f x y).getD false = a
          rw [e1] <;> rfl
        have fs : ∀ j, fitD f (x :: xs) (y :: ys) (j + 1) = fitD f xs ys j := fun j => by
          unfold fitD
          simp only [List.getElem?_cons_succ]
        refine ⟨fun j x' y' hx hy => ?_, ?_⟩
        · cases j with
          | zero =>
            simp at hx hy
            subst hx hy
            rw [f0]; exact e1
          | succ j =>
            rw [fs]
            exact i1 j x' y' (by simpa using hx) (by simpa using hy)
        · have em : min (x :: xs).length (y :: ys).length = min xs.length ys.length + 1 := by
            simp only [List.length_cons]; omega
          rw [em, List.range_succ_eq_map, List.all_cons, List.all_map, f0, i2]
          have ea : (List.range (min xs.length ys.length)).all (fitD f (x :: xs) (y :: ys) ∘ Nat.succ) = (List.range (min xs.length ys.length)).all (fitD f xs ys) := by
            exact congrArg (fun z => (List.range (min xs.length ys.length)).all z) (funext fun j => fs j)
          rw [ea]
          have el : ((x :: xs).length == (y :: ys).length) = (xs.length == ys.length) := by simp
          rw [el, Bool.and_assoc]
section
variable {K : PySem.W.Frag} {F : Hp} {m : List Addr} {H : Hp}
theorem weqL_same {f : D → D → Option Bool} (hf : ∀ x y v b, RW K F m x v → RW K F m y v → f x y = some b → b = true) : ∀ (xs ys : List D) (vs : List V) (b : Bool), RWs K F m xs vs → RWs K F m ys vs → weqL f xs ys = some b → b = true
  | [], [], _, b, _, _, h => by cases h; rfl
  | [], y :: ys, vs, b, r, ⟨v, u, e, _⟩, h => by
    have e' : vs = [] := r
    rw [e'] at e; cases e
  | x :: xs, [], vs, b, ⟨v, u, e, _⟩, r, h => by
    have e' : vs = [] := r
    rw [e'] at e; cases e
  | x :: xs, y :: ys, vs, b, ⟨v, u, e, r1, r2⟩, ⟨v', u', e', r1', r2'⟩, h => by
    rw [e] at e'
    cases e'
    unfold weqL at h
    cases e1 : f x y with
    | none => rw [e1] at h; cases h
    | some a =>
      cases e2 : weqL f xs ys with
      | none => rw [e1, e2] at h; cases h
      | some b' =>
        rw [e1, e2] at h
        cases h
        rw [hf x y v a r1 r1' e1, weqL_same hf xs ys u b' r2 r2' e2] <;> rfl
theorem weqS_same (d e : D) (v : V) (b : Bool) (r1 : RW K F m d v) (r2 : RW K F m e v) (h : weqS d e = some b) : b = true := by
  cases d with
  | non =>
    have r1 : v = .non := r1
    subst r1
    cases e with
    | non => cases h; rfl
    | int j => cases (show V.non = .int j from r2)
    | bl j => cases (show V.non = .bl j from r2)
    | str j => cases (show V.non = .str j from r2)
    | _ => cases h
  | int i =>
    have r1 : v = .int i := r1
    subst r1
    cases e with
    | non => cases (show V.int i = .non from r2)
    | int j => cases (show V.int i = .int j from r2); cases h; simp
    | bl j => cases (show V.int i = .bl j from r2)
    | str j => cases (show V.int i = .str j from r2)
    | _ => cases h
  | bl i =>
    have r1 : v = .bl i := r1
    subst r1
    cases e with
    | non => cases (show V.bl i = .non from r2)
    | int j => cases (show V.bl i = .int j from r2)
    | bl j => cases (show V.bl i = .bl j from r2); cases h; simp
    | str j => cases (show V.bl i = .str j from r2)
    | _ => cases h
  | str i =>
    have r1 : v = .str i := r1
    subst r1
    cases e with
    | non => cases (show V.str i = .non from r2)
    | int j => cases (show V.str i = .int j from r2)
    | bl j => cases (show V.str i = .bl j from r2)
    | str j => cases (show V.str i = .str j from r2); cases h; simp
    | _ => cases h
  | _ => cases h
theorem weqF_succ {n : Nat} {d e : D} {b : Bool} (h : weqF (n + 1) d e = some b) :
    (∃ xs ys, d = .tup xs ∧ e = .tup ys ∧ weqL (weqF n) xs ys = some b) ∨ (∃ xs ys, d = .lst xs ∧ e = .lst ys ∧ weqL (weqF n) xs ys = some b) ∨ weqS d e = some b := by
  unfold weqF at h
  split at h
  · exact .inl ⟨_, _, rfl, rfl, h⟩
  · exact .inr (.inl ⟨_, _, rfl, rfl, h⟩)
  · exact .inr (.inr h)
theorem weqF_same : ∀ (n : Nat) (d e : D) (v : V) (b : Bool), RW K F m d v → RW K F m e v → weqF n d e = some b → b = true := by
  intro n
  induction n with
  | zero => exact fun d e v b r1 r2 h => weqS_same d e v b r1 r2 h
  | succ n ih =>
    intro d e v b r1 r2 h
    rcases weqF_succ h with ⟨xs, ys, rfl, rfl, h⟩ | ⟨xs, ys, rfl, rfl, h⟩ | h
    · obtain ⟨a, vs, ea, ha, ra⟩ := r1
      obtain ⟨a', vs', ea', ha', ra'⟩ := r2
      rw [ea] at ea'; cases ea'
      obtain rfl := ha.inj ha'
      exact weqL_same ih _ _ vs b ra ra' h
    · obtain ⟨a, vs, ea, ha, ra⟩ := r1
      obtain ⟨a', vs', ea', ha', ra'⟩ := r2
      rw [ea] at ea'; cases ea'
      rw [ha] at ha'; cases ha'
      exact weqL_same ih _ _ vs b ra ra' h
    · exact weqS_same _ _ v b r1 r2 h
end
section
variable {X : Cx} {ca : Cl → Addr} {pins : List (Addr × Obj)} {σ : St} {H F : Hp} {m : List Addr} {s : Shared}
theorem weqS_V {K : PySem.W.Frag} {d e : D} {x y : V} {b : Bool} (r1 : RW K F m d x) (r2 : RW K F m e y) (h : weqS d e = some b) : flatV x = true ∧ flatV y = true ∧ eqV x y = b := by
  cases d with
  | non =>
    have r1 : x = .non := r1
    subst r1
    cases e with
    | non => cases (show y = .non from r2); cases h; exact ⟨rfl, rfl, rfl⟩
    | int j => cases (show y = .int j from r2); cases h; exact ⟨rfl, rfl, rfl⟩
    | bl j => cases (show y = .bl j from r2); cases h; exact ⟨rfl, rfl, rfl⟩
    | str j => cases (show y = .str j from r2); cases h; exact ⟨rfl, rfl, rfl⟩
    | _ => cases h
  | int i =>
    have r1 : x = .int i := r1
    subst r1
    cases e with
    | non => cases (show y = .non from r2); cases h; exact ⟨rfl, rfl, rfl⟩
    | int j => cases (show y = .int j from r2); cases h; exact ⟨rfl, rfl, Bool.beq_eq_decide_eq _ _⟩
    | bl j => cases (show y = .bl j from r2); cases h; exact ⟨rfl, rfl, Bool.beq_eq_decide_eq _ _⟩
    | str j => cases (show y = .str j from r2); cases h; exact ⟨rfl, rfl, rfl⟩
    | _ => cases h
  | bl i =>
    have r1 : x = .bl i := r1
    subst r1
    cases e with
    | non => cases (show y = .non from r2); cases h; exact ⟨rfl, rfl, rfl⟩
    | int j => cases (show y = .int j from r2); cases h; exact ⟨rfl, rfl, Bool.beq_eq_decide_eq _ _⟩
    | bl j => cases (show y = .bl j from r2); cases h; exact ⟨rfl, rfl, Bool.beq_eq_decide_eq _ _⟩
    | str j => cases (show y = .str j from r2); cases h; exact ⟨rfl, rfl, rfl⟩
    | _ => cases h
  | str i =>
    have r1 : x = .str i := r1
    subst r1
    cases e with
    | non => cases (show y = .non from r2); cases h; exact ⟨rfl, rfl, rfl⟩
    | int j => cases (show y = .int j from r2); cases h; exact ⟨rfl, rfl, rfl⟩
    | bl j => cases (show y = .bl j from r2); cases h; exact ⟨rfl, rfl, rfl⟩
    | str j => cases (show y = .str j from r2); cases h; exact ⟨rfl, rfl, Bool.beq_eq_decide_eq _ _⟩
    | _ => cases h
  | _ => cases h
theorem RWs.item {K : PySem.W.Frag} {xs : List D} {vs : List V} {us : List Value} (r : RWs K F m xs vs) (q : Vals vs us) {j : Nat} {u : Value} (hj : us[j]? = some u) : ∃ x v, xs[j]? = some x ∧ RW K F m x v ∧ RelV v u := by
  have hl := q.length
  have h1 : j < us.length := (List.getElem?_eq_some_iff.mp hj).1
  obtain ⟨u', e1, r1⟩ := q.get (i := j) (x := vs[j]) (List.getElem?_eq_getElem (by omega))
  rw [hj] at e1; cases e1
  obtain ⟨x, e2, r2⟩ := r.getV (v := vs[j]) (List.getElem?_eq_getElem (by omega))
  exact ⟨x, _, e2, r2, r1⟩
theorem weqF_at (I : Inv X pins σ H s) (hF : Sub F H) : ∀ (n : Nat) (A : Around) (d e : D) (b : Bool) (x y : V) (u v : Value), weqF n d e = some b → RW X.K F m d x → RW X.K F m e y → RelV x u → RelV y v → A.units + n < cLine → SeqAt.EqAt A s u v b := by
  intro n
  induction n with
  | zero =>
    intro A d e b x y u v h r1 r2 q1 q2 hu
    obtain ⟨f1, f2, f3⟩ := weqS_V r1 r2 h
    rw [← f3]
    exact eqAt_V q1 q2 f1 f2
  | succ n ih =>
    intro A d e b x y u v h r1 r2 q1 q2 hu
    have h0 := h
    have hin : A.in1.units + n < cLine := by
      have : A.in1.units = A.units + 1 := rfl
      omega
    rcases weqF_succ h with ⟨xs, ys, rfl, rfl, h⟩ | ⟨xs, ys, rfl, rfl, h⟩ | h
    · have r10 := r1
      have r20 := r2
      obtain ⟨a, vs, rfl, ha, ra⟩ := r1
      obtain ⟨a', vs', rfl, ha', ra'⟩ := r2
      cases q1; cases q2
      by_cases hne : a = a'
      · subst hne
        have hb := weqF_same _ _ _ _ b r10 r20 h0
        subst hb
        exact SeqAt.EqAt.same _
      · obtain ⟨its, rv, p, _⟩ := I.tuple (ha.sqt hF)
        obtain ⟨its', rv', p', _⟩ := I.tuple (ha'.sqt hF)
        obtain ⟨w1, w2⟩ := weqL_at xs ys b h
        have l1 := ra.length; have l2 := rv.length; have l3 := ra'.length; have l4 := rv'.length
        refine SeqAt.EqAt.of_refs hne ?_
        have hr := SeqAt.RcAt.tuples (A := A) (e := fitD (weqF n) xs ys) p p' (by omega) (fun j h1 h2 => by
          obtain ⟨x1, v1, g1, g2, g3⟩ := ra.item rv (j := j) (u := its.toArray[j]) (by simp)
          obtain ⟨y1, w1', k1, k2, k3⟩ := ra'.item rv' (j := j) (u := its'.toArray[j]) (by simp)
          exact ih A.in1 x1 y1 _ v1 w1' _ _ (w1 j x1 y1 g1 k1) g2 k2 g3 k3 hin)
        rw [w2]
        simpa [← l1, ← l2, ← l3, ← l4, List.size_toArray] using hr
    · have r10 := r1
      have r20 := r2
      obtain ⟨a, vs, rfl, ha, ra⟩ := r1
      obtain ⟨a', vs', rfl, ha', ra'⟩ := r2
      cases q1; cases q2
      by_cases hne : a = a'
      · subst hne
        have hb := weqF_same _ _ _ _ b r10 r20 h0
        subst hb
        exact SeqAt.EqAt.same _
      · obtain ⟨its, rv, p, _⟩ := I.list (SqL.of (hF a _ ha))
        obtain ⟨its', rv', p', _⟩ := I.list (SqL.of (hF a' _ ha'))
        obtain ⟨w1, w2⟩ := weqL_at xs ys b h
        have l1 := ra.length; have l2 := rv.length; have l3 := ra'.length; have l4 := rv'.length
        refine SeqAt.EqAt.of_refs hne ?_
        by_cases hl : xs.length = ys.length
        · have hr := SeqAt.RcAt.lists (A := A) (e := fitD (weqF n) xs ys) p.isList p'.isList (by simp; omega) (by omega) (fun j h1 h2 => by
            obtain ⟨x1, v1, g1, g2, g3⟩ := ra.item rv (j := j) (u := its.toArray[j]) (by simp)
            obtain ⟨y1, w1', k1, k2, k3⟩ := ra'.item rv' (j := j) (u := its'.toArray[j]) (by simp)
            exact ih A.in1 x1 y1 _ v1 w1' _ _ (w1 j x1 y1 g1 k1) g2 k2 g3 k3 hin)
          rw [w2]
          simpa [← l1, ← l2, ← l3, ← l4, hl, List.size_toArray] using hr
        · have hr := SeqAt.RcAt.lists_lengths (A := A) p.isList p'.isList (by simp; omega) (by omega)
          rw [w2]
          have : (xs.length == ys.length) = false := by simpa using hl
          rw [this, Bool.and_false]
          exact hr
    · obtain ⟨f1, f2, f3⟩ := weqS_V r1 r2 h
      rw [← f3]
      exact eqAt_V q1 q2 f1 f2
theorem weqS_scal {K : PySem.W.Frag} {d e : D} {x y : V} {b : Bool} (r1 : RW K F m d x) (r2 : RW K F m e y) (h : weqS d e = some b) (hm : mixed d e = false) : scal x y = true ∧ decide (x = y) = b := by
  cases d with
  | non =>
    have r1 : x = .non := r1
    subst r1
    cases e with
    | non => cases (show y = .non from r2); cases h; exact ⟨rfl, by simp⟩
    | int j => cases (show y = .int j from r2); cases h; exact ⟨rfl, by simp⟩
    | bl j => cases (show y = .bl j from r2); cases h; exact ⟨rfl, by simp⟩
    | str j => cases (show y = .str j from r2); cases h; exact ⟨rfl, by simp⟩
    | _ => cases h
  | int i =>
    have r1 : x = .int i := r1
    subst r1
    cases e with
    | non => cases (show y = .non from r2); cases h; exact ⟨rfl, by simp⟩
    | int j => cases (show y = .int j from r2); cases h; exact ⟨rfl, by simp⟩
    | bl j => cases hm
    | str j => cases (show y = .str j from r2); cases h; exact ⟨rfl, by simp⟩
    | _ => cases h
  | bl i =>
    have r1 : x = .bl i := r1
    subst r1
    cases e with
    | non => cases (show y = .non from r2); cases h; exact ⟨rfl, by simp⟩
    | int j => cases hm
    | bl j => cases (show y = .bl j from r2); cases h; exact ⟨rfl, by simp⟩
    | str j => cases (show y = .str j from r2); cases h; exact ⟨rfl, by simp⟩
    | _ => cases h
  | str i =>
    have r1 : x = .str i := r1
    subst r1
    cases e with
    | non => cases (show y = .non from r2); cases h; exact ⟨rfl, by simp⟩
    | int j => cases (show y = .int j from r2); cases h; exact ⟨rfl, by simp⟩
    | bl j => cases (show y = .bl j from r2); cases h; exact ⟨rfl, by simp⟩
    | str j => cases (show y = .str j from r2); cases h; exact ⟨rfl, by simp⟩
    | _ => cases h
  | _ => cases h
theorem flatRP {K : PySem.W.Frag} {d : D} {x : V} {e : D} {b : Bool} (h : weqS d e = some b) (hx : RP K F m H d x) : RW K F m d x := by
  cases d <;> first | exact hx | cases h
theorem flatRP' {K : PySem.W.Frag} {d : D} {x : V} {e : D} {b : Bool} (h : weqS e d = some b) (hx : RP K F m H d x) : RW K F m d x := by
  cases d <;> first | exact hx | (cases e <;> cases h)
end
theorem o_eq {X : Cx} {ca : Cl → Addr} (hu : X.A.units + 30 < cLine) : OpR X (compareOp .Eq) (r2 X.K ca gEq) := by
  intro pins s0 σ0 H x y v u Q I rx ry ⟨B, F, m, s1, σ1, d, e, r, c, hx, hy, hg, q⟩
  unfold gEq at hg
  cases hm : mixed d e with
  | true => rw [hm] at hg; cases hg
  | false =>
  rw [hm] at hg
  cases hw : weq d e with
  | none => simp only [hw] at hg; cases hg
  | some b =>
    simp only [hw] at hg
    cases hg
    have fin : EP X pins σ0 Q (.bool b) s0 := ⟨.bl b, H, I, rfl, ansW c q rfl⟩
    rcases weqF_succ hw with ⟨xs, ys, rfl, rfl, h⟩ | ⟨xs, ys, rfl, rfl, h⟩ | h
    · obtain ⟨a, vs, rfl, ha, ra⟩ := hx
      obtain ⟨a', vs', rfl, ha', ra'⟩ := hy
      cases rx; cases ry
      obtain ⟨its, rv, p, _⟩ := I.tuple ((ha.sqt c.fh))
      obtain ⟨its', rv', p', _⟩ := I.tuple (ha'.sqt c.fh)
      obtain ⟨w1, w2⟩ := weqL_at xs ys b h
      have l1 := ra.length; have l2 := rv.length; have l3 := ra'.length; have l4 := rv'.length
      refine SeqAt.eq_tupleAt (e := fitD (weqF 19) xs ys) p p' (by omega) (fun j h1 h2 => ?_) ?_
      · obtain ⟨x1, v1, g1, g2, g3⟩ := ra.item rv (j := j) (u := its.toArray[j]) (by simp)
        obtain ⟨y1, w1', k1, k2, k3⟩ := ra'.item rv' (j := j) (u := its'.toArray[j]) (by simp)
        exact weqF_at I c.fh 19 X.A.in1 x1 y1 _ v1 w1' _ _ (w1 j x1 y1 g1 k1) g2 k2 g3 k3 (by have : X.A.in1.units = X.A.units + 1 := rfl; omega)
      · rw [w2] at fin
        simpa [← l1, ← l2, ← l3, ← l4, List.size_toArray] using fin
    · obtain ⟨a, vs, rfl, ha, ra⟩ := hx
      obtain ⟨a', vs', rfl, ha', ra'⟩ := hy
      cases rx; cases ry
      obtain ⟨its, rv, p, _⟩ := I.list (SqL.of ha)
      obtain ⟨its', rv', p', _⟩ := I.list (SqL.of ha')
      obtain ⟨w1, w2⟩ := weqL_at xs ys b h
      have l1 := ra.length; have l2 := rv.length; have l3 := ra'.length; have l4 := rv'.length
      by_cases hl : xs.length = ys.length
      · refine SeqAt.eq_listAt (e := fitD (weqF 19) xs ys) p.isList p'.isList (by simp; omega) (by omega) (fun j h1 h2 => ?_) ?_
        · obtain ⟨x1, v1, g1, g2, g3⟩ := ra.item rv (j := j) (u := its.toArray[j]) (by simp)
          obtain ⟨y1, w1', k1, k2, k3⟩ := ra'.item rv' (j := j) (u := its'.toArray[j]) (by simp)
          exact weqF_at I c.fh 19 X.A.in1 x1 y1 _ v1 w1' _ _ (w1 j x1 y1 g1 k1) g2 k2 g3 k3 (by have : X.A.in1.units = X.A.units + 1 := rfl; omega)
        · rw [w2] at fin
          simpa [← l1, ← l2, ← l3, ← l4, hl, List.size_toArray] using fin
      · refine SeqAt.eq_list_lengthsAt p.isList p'.isList (by simp; omega) (by omega) ?_
        rw [w2] at fin
        have : (xs.length == ys.length) = false := by simpa using hl
        rw [this, Bool.and_false] at fin
        exact fin
    · have hx' := flatRP h hx
      have hy' := flatRP' h hy
      obtain ⟨f1, f2⟩ := weqS_scal hx' hy' h hm
      refine op_eq pins s0 σ0 H x y v u Q I rx ry ⟨f1, ?_⟩
      rw [f2]
      exact ansW c q rfl
theorem o_ne {X : Cx} {ca : Cl → Addr} : OpR X (compareOp .NotEq) (r2 X.K ca gNe) := opr fun B F m s σ H d e r x y Q c hx hy hg q => by
  unfold gNe at hg
  cases hm : mixed d e with
  | true => rw [hm] at hg; cases hg
  | false =>
  rw [hm] at hg
  cases h : weqS d e with
  | none => simp only [h] at hg; cases hg
  | some b =>
    simp only [h] at hg
    cases hg
    obtain ⟨f1, f2⟩ := weqS_scal (flatRP h hx) (flatRP' h hy) h hm
    exact ⟨_, op_ne, f1, by rw [f2]; exact ansW c q rfl⟩
theorem o_is {X : Cx} {ca : Cl → Addr} : OpR X (compareOp .Is) (r2 X.K ca gIs) := opr fun B F m s σ H d e r x y Q c hx hy hg q => by
  cases e with
  | non =>
    have hy : y = .non := hy
    have key : ∀ b, r = .w (.bl b) → decide (x = V.non) = b → ∃ t : R2, OpR X (compareOp .Is) t ∧ t x y H Q := fun b e1 e2 => by
      subst e1
      exact ⟨_, op_isN, hy, by rw [e2]; exact ansW c q rfl⟩
    cases d with
    | non => cases hg; exact key true rfl (decide_eq_true hx)
    | bl b => cases hg; have hx : x = .bl b := hx; subst hx; exact key false rfl (by simp)
    | int b => cases hg; have hx : x = .int b := hx; subst hx; exact key false rfl (by simp)
    | str b => cases hg; have hx : x = .str b := hx; subst hx; exact key false rfl (by simp)
    | ref n => cases hg; obtain ⟨a, _, rfl⟩ := hx; exact key false rfl (by simp)
    | tup xs => cases hg; obtain ⟨a, _, rfl, _⟩ := hx; exact key false rfl (by simp)
    | lst xs => cases hg; obtain ⟨a, _, rfl, _⟩ := hx; exact key false rfl (by simp)
    | rol ns => cases hg
    | dct => cases hg; obtain ⟨a, _, rfl, _⟩ := hx; exact key false rfl (by simp)
    | pr _ => first | (cases hg; done) | (cases hg; obtain ⟨a, _, rfl, _⟩ := hx; exact key false rfl (by simp))
  | _ => cases hg
section
variable {X : Cx} {ca : Cl → Addr} {pins : List (Addr × Obj)} {σ : St} {H F : Hp} {m : List Addr} {s : Shared}
open Classical in
noncomputable def hitU (its : List Value) (xs : List D) (d : D) (u : Value) : Bool := decide (∃ (j : Nat) (x : D), its[j]? = some u ∧ xs[j]? = some x ∧ weqF 20 x d = some true)
theorem hit_iff {its : List Value} {xs : List D} {d : D} {u : Value} : hitU its xs d u = true ↔ ∃ (j : Nat) (x : D), its[j]? = some u ∧ xs[j]? = some x ∧ weqF 20 x d = some true := by
  unfold hitU
  simp
theorem hit_at (I : Inv X pins σ H s) (hF : Sub F H) {xs : List D} {vs : List V} {its : List Value} {d : D} {y : V} {v : Value} (r : RWs X.K F m xs vs) (q : Vals vs its) (ha : xs.all (fun x => (weqF 20 x d).isSome) = true) (hd : RW X.K F m d y) (hv : RelV y v)
    (hu : X.A.units + 30 < cLine) : (∀ u ∈ its, SeqAt.EqAt X.A.in1 s u v (hitU its xs d u)) ∧ its.any (hitU its xs d) = xs.any fun x => weqF 20 x d == some true := by
  have hin : X.A.in1.units + 20 < cLine := by
    have : X.A.in1.units = X.A.units + 1 := rfl
    omega
  refine ⟨fun u hm => ?_, ?_⟩
  · by_cases h : hitU its xs d u = true
    · obtain ⟨j, x, e1, e2, e3⟩ := hit_iff.mp h
      obtain ⟨x', w, k1, k2, k3⟩ := r.item q e1
      rw [e2] at k1; cases k1
      rw [h]
      exact weqF_at I hF 20 X.A.in1 x d true w y u v e3 k2 hd k3 hv hin
    · obtain ⟨j, hj⟩ := List.getElem?_of_mem hm
      obtain ⟨x, w, k1, k2, k3⟩ := r.item q hj
      have hs := List.all_eq_true.mp ha x (List.mem_of_getElem? k1)
      cases e : weqF 20 x d with
      | none => rw [e] at hs; cases hs
      | some b =>
        cases b with
        | true => exact absurd (hit_iff.mpr ⟨j, x, hj, k1, e⟩) h
        | false =>
          rw [Bool.not_eq_true] at h
          rw [h]
          exact weqF_at I hF 20 X.A.in1 x d false w y u v e k2 hd k3 hv hin
  · rw [Bool.eq_iff_iff, List.any_eq_true, List.any_eq_true]
    constructor
    · rintro ⟨u, hm, h⟩
      obtain ⟨j, x, e1, e2, e3⟩ := hit_iff.mp h
      exact ⟨x, List.mem_of_getElem? e2, by rw [e3]; rfl⟩
    · rintro ⟨x, hm, h⟩
      obtain ⟨j, hj⟩ := List.getElem?_of_mem hm
      obtain ⟨w, k1, k2⟩ := r.get hj
      obtain ⟨u, k3, k4⟩ := q.get k1
      exact ⟨u, List.mem_of_getElem? k3, hit_iff.mpr ⟨j, x, k3, hj, by simpa using h⟩⟩
theorem gIn_ways {d e : D} {r : RX} (h : gIn d e = some r) : ∃ xs, (e = .lst xs ∨ e = .tup xs) ∧ notL d = true ∧ xs.all (fun x => (weqF 20 x d).isSome) = true ∧ r = .w (.bl (xs.any fun x => weqF 20 x d == some true)) := by
  unfold gIn at h
  split at h
  · split at h
    · rename_i ha; cases h; exact ⟨_, .inl rfl, ha.1, ha.2, rfl⟩
    · cases h
  · split at h
    · rename_i ha; cases h; exact ⟨_, .inr rfl, ha.1, ha.2, rfl⟩
    · cases h
  · cases h
theorem o_in (hu : X.A.units + 30 < cLine) : OpR X (compareOp .In) (r2 X.K ca gIn) := by
  intro pins s0 σ0 H x y v u Q I rx ry ⟨B, F, m, s1, σ1, d, e, r, c, hx, hy, hg, q⟩
  obtain ⟨xs, he, hn, ha, rfl⟩ := gIn_ways hg
  obtain ⟨F1, f1, f2, hx'⟩ := rp_rw c.fh hx
  rcases he with rfl | rfl
  · obtain ⟨a, vs, rfl, hl, ra⟩ := hy
    cases ry
    obtain ⟨its, rv, p, _⟩ := I.list (SqL.of hl)
    obtain ⟨h1, h2⟩ := hit_at I f2 (RWs.mono f1 (List.prefix_refl _) _ _ ra) rv ha hx' rx hu
    refine SeqAt.in_listAt (hitU its xs d) p.isList (fun w hw => h1 w (by simpa using hw)) ⟨.bl _, H, I, rfl, ?_⟩
    have e : its.toArray.any (hitU its xs d) = xs.any fun x => weqF 20 x d == some true := by
      rw [← h2]; simp
    rw [e]
    exact ansW c q rfl
  · obtain ⟨a, vs, rfl, hl, ra⟩ := hy
    cases ry
    obtain ⟨its, rv, p, _⟩ := I.tuple ((hl.sqt c.fh))
    obtain ⟨h1, h2⟩ := hit_at I f2 (RWs.mono f1 (List.prefix_refl _) _ _ ra) rv ha hx' rx hu
    refine SeqAt.in_tupleAt (hitU its xs d) p (fun w hw => h1 w (by simpa using hw)) ⟨.bl _, H, I, rfl, ?_⟩
    have e : its.toArray.any (hitU its xs d) = xs.any fun x => weqF 20 x d == some true := by
      rw [← h2]; simp
    rw [e]
    exact ansW c q rfl
end
def gIx (d e : D) : Option RX := match e with
  | .int i => match d with
    | .lst xs => (atI xs i).map RX.w
    | .tup xs => (atI xs i).map RX.w
    | .rol ns => (atI ns i).map fun n => RX.w (.int n)
    | .str x => if x.length ≤ 1000000 then (atI x.cps.toList i).map fun c => RX.w (.str ⟨#[c]⟩) else none
    | _ => none
  | _ => none
section
variable {X : Cx} {ca : Cl → Addr} {K : PySem.W.Frag} {F : Hp} {m : List Addr}
theorem atI_RW {xs : List D} {vs : List V} {i : Int} {x : D} (r : RWs K F m xs vs) (h : atI xs i = some x) : ∃ v, atI vs i = some v ∧ RW K F m x v := by
  unfold atI at h ⊢
  rw [← r.length]
  cases e : ixN xs.length i with
  | none => rw [e] at h; cases h
  | some j =>
    rw [e] at h
    exact r.get h
theorem o_ix : IxR X (r2 X.K ca gIx) := by
  intro value slice pins s0 σ0 H x y v u Q I rx ry ⟨B, F, m, s1, σ1, d, e, r, c, hx, hy, hg, q⟩ hs
  cases e with
  | int i =>
    have hy : y = .int i := hy
    cases d with
    | lst xs =>
      have hg : (atI xs i).map RX.w = some r := hg
      cases e1 : atI xs i with
      | none => rw [e1] at hg; cases hg
      | some z =>
        rw [e1] at hg; cases hg
        obtain ⟨a, vs, rfl, hl, ra⟩ := hx
        obtain ⟨w, h1, h2⟩ := atI_RW ra e1
        exact ix_list value slice pins s0 σ0 H _ y v u Q I rx ry ⟨a, vs, i, w, rfl, hy, SqL.of hl, h1, ansW c q h2⟩ hs
    | tup xs =>
      have hg : (atI xs i).map RX.w = some r := hg
      cases e1 : atI xs i with
      | none => rw [e1] at hg; cases hg
      | some z =>
        rw [e1] at hg; cases hg
        obtain ⟨a, vs, rfl, hl, ra⟩ := hx
        obtain ⟨w, h1, h2⟩ := atI_RW ra e1
        exact ix_tup value slice pins s0 σ0 H _ y v u Q I rx ry ⟨a, vs, i, w, rfl, hy, (hl.sqt c.fh), h1, ansW c q h2⟩ hs
    | rol ns =>
      have hg : (atI ns i).map (fun n => RX.w (.int n)) = some r := hg
      cases e1 : atI ns i with
      | none => rw [e1] at hg; cases hg
      | some z =>
        rw [e1] at hg; cases hg
        obtain ⟨a, rfl, hl⟩ := hx
        refine ix_list value slice pins s0 σ0 H _ y v u Q I rx ry ⟨a, _, i, .int z, rfl, hy, c.fh.sqL hl, ?_, ansW c q rfl⟩ hs
        unfold atI at e1 ⊢
        rw [List.length_map]
        cases e2 : ixN ns.length i with
        | none => rw [e2] at e1; cases e1
        | some j =>
          rw [e2] at e1
          have e1 : ns[j]? = some z := e1
          show (ns.map V.int)[j]? = some (V.int z)
          rw [List.getElem?_map, e1]; rfl
    | str z =>
      have hg : (if z.length ≤ 1000000 then (atI z.cps.toList i).map (fun c => RX.w (.str ⟨#[c]⟩)) else none) = some r := hg
      split at hg
      · rename_i hz
        cases e1 : atI z.cps.toList i with
        | none => rw [e1] at hg; cases hg
        | some k =>
          rw [e1] at hg; cases hg
          exact ix_str value slice pins s0 σ0 H _ y v u Q I rx ry ⟨z, i, k, hx, hy, sz6 hz, e1, ansW c q rfl⟩ hs
      · cases hg
    | _ => cases hg
  | _ => cases hg
end
def gLen : List D → Option RX
  | [.lst xs] => some (.w (.int xs.length))
  | [.tup xs] => some (.w (.int xs.length))
  | [.rol ns] => some (.w (.int ns.length))
  | [.str x] => if x.length ≤ 1000000 then some (.w (.int x.length)) else none
  | _ => none
def gList : List D → Option RX
  | [.lst xs] => some (.fr xs)
  | [.tup xs] => some (.fr xs)
  | _ => none
def gTuple : List D → Option RX
  | [.lst xs] => some (.w (.tup xs))
  | [.tup xs] => some (.w (.tup xs))
  | _ => none
def gMax : List D → Option RX
  | [.int i, .int j] => some (.w (.int (if j > i then j else i)))
  | _ => none
section
variable {X : Cx} {ca : Cl → Addr}
theorem cbr {f : Value} {g : List D → Option RX} (h : ∀ (B F : Hp) (m : List Addr) (s : Sx) (σ : St) (H : Hp) (ds : List D) (r : RX) (xs : List V) (Q : VK), Cor X.K ca B F m s σ H → RPs X.K F m H ds xs → g ds = some r →
      (∀ (F' H' : Hp) (v : V), Sub F F' → Cor X.K ca B F' m s σ H' → RR X.K B F' m s σ H' r v → Q v H') → ∃ t : List V → Hp → VK → Prop, CallR X f t ∧ t xs H Q) : CallR X f (rc X.K ca g) := by
  intro pins s σ H xs us Q I rx ⟨B, F, m, s1, σ1, ds, r, c, hx, hg, q⟩
  obtain ⟨t, ht, hq⟩ := h B F m s1 σ1 H ds r xs Q c hx hg q
  exact ht pins s σ H xs us Q I rx hq
theorem c_len : CallR X (.builtin "len") (rc X.K ca gLen) := cbr fun B F m s σ H ds r xs Q c hx hg q => by
  unfold gLen at hg
  split at hg
  · cases hg
    obtain ⟨v, rfl, a, vs, rfl, hl, ra⟩ := hx.one
    exact ⟨_, call_len_seq, a, vs, rfl, .inl (SqL.of hl), ansW c q (by rw [← ra.length] <;> rfl)⟩
  · cases hg
    obtain ⟨v, rfl, a, vs, rfl, hl, ra⟩ := hx.one
    exact ⟨_, call_len_seq, a, vs, rfl, .inr ((hl.sqt c.fh)), ansW c q (by rw [← ra.length] <;> rfl)⟩
  · cases hg
    obtain ⟨v, rfl, a, rfl, hl⟩ := hx.one
    exact ⟨_, call_len_seq, a, _, rfl, .inl (c.fh.sqL hl), ansW c q (by rw [List.length_map] <;> rfl)⟩
  · split at hg
    · rename_i hz
      cases hg
      obtain ⟨v, rfl, hv⟩ := hx.one
      exact ⟨_, call_len_str, _, congrArg (fun z => [z]) hv, sz6 hz, ansW c q rfl⟩
    · cases hg
  · cases hg
theorem c_list : CallR X (.type "list") (rc X.K ca gList) := cbr fun B F m s σ H ds r xs Q c hx hg q => by
  unfold gList at hg
  split at hg
  · cases hg
    obtain ⟨v, rfl, a, vs, rfl, hl, ra⟩ := hx.one
    exact ⟨_, call_list_of, a, vs, rfl, .inl (SqL.of hl), fun p hp => ansL c q ra p hp⟩
  · cases hg
    obtain ⟨v, rfl, a, vs, rfl, hl, ra⟩ := hx.one
    exact ⟨_, call_list_of, a, vs, rfl, .inr ((hl.sqt c.fh)), fun p hp => ansL c q ra p hp⟩
  · cases hg
theorem c_tuple : CallR X (.type "tuple") (rc X.K ca gTuple) := cbr fun B F m s σ H ds r xs Q c hx hg q => by
  unfold gTuple at hg
  split at hg
  · cases hg
    obtain ⟨v, rfl, a, vs, rfl, hl, ra⟩ := hx.one
    exact ⟨_, call_tuple_ofN, a, vs, rfl, .inl ⟨SqL.of hl, fun p ob hp hd => ansT c q ra p ob hp hd⟩⟩
  · cases hg
    obtain ⟨v, rfl, a, vs, rfl, hl, ra⟩ := hx.one
    exact ⟨_, call_tuple_ofN, a, vs, rfl, .inr ⟨(hl.sqt c.fh), ansW c q ⟨a, vs, rfl, hl, ra⟩⟩⟩
  · cases hg
theorem c_max (hc : X.calm = true) : CallR X (.builtin "max") (rc X.K ca gMax) := cbr fun B F m s σ H ds r xs Q c hx hg q => by
  unfold gMax at hg
  split at hg
  · cases hg
    obtain ⟨v, u, rfl, hv, hu⟩ := hx.two
    have hv : v = .int _ := hv
    have hu : u = .int _ := hu
    subst hv hu
    exact ⟨_, call_max2 hc, _, _, rfl, ansW c q rfl⟩
  · cases hg
end
end Lk
namespace Lk
open PySem L2
def iChain (g g' : D → D → Option RX) (a b c : E) : E := fun s => (a s).bind fun x s1 => (b s1).bind fun y s2 =>
  match rdv s2 (hold x), rdv s2 (hold y) with
  | some d, some e => match g d e with
    | some (.w (.bl true)) => (c s2).bind fun z s3 => match rdv s3 (hold y), rdv s3 (hold z) with
      | some e', some d' => match g' e' d' with
        | some r => .ok r s3
        | none => .stuck
      | _, _ => .stuck
    | some (.w (.bl false)) => .ok (.w (.bl false)) s2
    | _ => .stuck
  | _, _ => .stuck
section
variable {X : Cx} {ca : Cl → Addr} {W : WX} {a b c e : Expr} {f f' f'' : E} {pos : Pos} {g g' : D → D → Option RX}
theorem chain_imp {K : PySem.W.Frag} {σ : St} {H : Hp} {Q : VK} (h : tE K ca W (iChain g g' f f' f'') σ H Q) : tChain (r2 K ca g) (r2 K ca g') (tE K ca W f) (tE K ca W f') (tE K ca W f'') σ H Q := by
  obtain ⟨B, F, m, s, c, h⟩ := h
  refine ⟨B, F, m, s, c, ResG.imp (ResG.bind h) fun F1 m1 s1 H1 x a1 a2 c1 h1 v rv => ?_⟩
  obtain ⟨F2, b1, c2, hx⟩ := hold_ok c1 rv
  refine ⟨B, F2, m1, s1, c2, ResG.imp (ResG.bind (ResG.mono b1 (List.prefix_refl _) h1)) fun F3 m3 s3 H3 y a3 a4 c3 h3 u ru => ?_⟩
  obtain ⟨F4, b2, c4, hy⟩ := hold_ok c3 ru
  have hx' := HR.mono (a3.trans b2) a4 hx
  have h4 := ResG.mono b2 (List.prefix_refl _) h3
  cases e1 : rdv s3 (hold x) with
  | none => simp only [e1] at h4; exact (show False from h4).elim
  | some d =>
    cases e2 : rdv s3 (hold y) with
    | none => simp only [e1, e2] at h4; exact (show False from h4).elim
    | some e =>
      simp only [e1, e2] at h4
      cases e3 : g d e with
      | none => rw [e3] at h4; exact (show False from h4).elim
      | some r =>
        rw [e3] at h4
        cases r with
        | w dd =>
          cases dd with
          | bl k =>
            refine ⟨B, F4, m3, s3, σ, d, e, _, c4, rdv_rp c4 hx' e1, rdv_rp c4 hy e2, e3, fun F' H' w q1 q2 q3 => ⟨k, q3, ?_⟩⟩
            cases k with
            | false =>
              have h4 : ResG K ca W B σ F4 m3 (PEx K B σ Q) (.ok (.w (.bl false)) s3) := h4
              exact ResG.now (W := W) q2 (ResG.mono q1 (List.prefix_refl _) h4) _ rfl
            | true =>
              refine ⟨B, F', m3, s3, q2, ResG.imp (ResG.bind (ResG.mono q1 (List.prefix_refl _) h4)) fun F5 m5 s5 H5 z x1 x2 c5 h5 w' rw' => ?_⟩
              obtain ⟨F6, y1, c6, hz⟩ := hold_ok c5 rw'
              have h6 := ResG.mono y1 (List.prefix_refl _) h5
              have hy' := HR.mono ((q1.trans x1).trans y1) x2 hy
              cases k1 : rdv s5 (hold y) with
              | none => simp only [k1] at h6; exact (show False from h6).elim
              | some e' =>
                cases k2 : rdv s5 (hold z) with
                | none => simp only [k1, k2] at h6; exact (show False from h6).elim
                | some d' =>
                  simp only [k1, k2] at h6
                  cases k3 : g' e' d' with
                  | none => rw [k3] at h6; exact (show False from h6).elim
                  | some r =>
                    rw [k3] at h6
                    exact ⟨B, F6, m5, s5, σ, e', d', r, c6, rdv_rp c6 hy' k1, rdv_rp c6 hz k2, k3, fun F' H' w q1 q2 q3 => h6 F' m5 H' q1 (List.prefix_refl _) q2 w q3⟩
          | _ => exact (show False from h4).elim
        | _ => exact (show False from h4).elim
theorem e_chain {op op' : CmpOp} (ho : OpR X (compareOp op) (r2 X.K ca g)) (ho' : OpR X (compareOp op') (r2 X.K ca g')) (ha : PE X a (tE X.K ca W f)) (hb : PE X b (tE X.K ca W f')) (hc : PE X c (tE X.K ca W f''))
    (hm : lastMarks [op, op'] [b, c] = false := by with_unfolding_all rfl) : PE X (.Compare a [op, op'] [b, c] pos) (tE X.K ca W (iChain g g' f f' f'')) := PE.imp (pe_chain ho ho' ha hb hc hm) fun _ _ _ => chain_imp
theorem t_chain {op op' : CmpOp} (ho : OpR X (compareOp op) (r2 X.K ca g)) (ho' : OpR X (compareOp op') (r2 X.K ca g')) (ha : PE X a (tE X.K ca W f)) (hb : PE X b (tE X.K ca W f')) (hc : PE X c (tE X.K ca W f''))
    (hm : lastMarks [op, op'] [b, c] = false := by with_unfolding_all rfl) : PT X (.Compare a [op, op'] [b, c] pos) (tT X.K ca W (iChain g g' f f' f'')) := PT.imp (pt_chain ho ho' ha hb hc hm) fun _ _ _ h => chain_imp (tT_of h)
end
inductive Ty where
  | int | bool | str | tuple | list
def Ty.nm : Ty → String
  | .int => "int" | .bool => "bool" | .str => "str" | .tuple => "tuple" | .list => "list"
def isTy : Ty → D → Option Bool
  | _, .ref _ => none
  | _, .rol _ => none
  | .int, .int _ => some true
  | .int, .bl _ => some true
  | .bool, .bl _ => some true
  | .str, .str _ => some true
  | .tuple, .tup _ => some true
  | .tuple, .pr _ => some true
  | .list, .lst _ => some true
  | _, _ => some false
def iIsT (t : Ty) (f : E) : E := fun s => (f s).bind fun r s1 => match rdv s1 (hold r) with
  | some d => match isTy t d with
    | some b => .ok (.w (.bl b)) s1
    | none => .stuck
  | none => .stuck
section
variable {X : Cx} {ca : Cl → Addr} {W : WX} {e c : Expr} {f : E} {pos p : Pos} {K : PySem.W.Frag} {F : Hp} {m : List Addr} {H : Hp}
theorem isTy_ok (hF : Sub F H) {t : Ty} {d : D} {v : V} {b : Bool} (r : RP K F m H d v) (h : isTy t d = some b) : ∃ n : String, TyX K H v (.type n) ∧ kitB n t.nm = some b := by
  cases d with
  | non =>
    have r : v = .non := r
    subst r
    exact ⟨"NoneType", .base .non, by cases t <;> cases h <;> decide +kernel⟩
  | bl k =>
    have r : v = .bl k := r
    subst r
    exact ⟨"bool", .base (.bl k), by cases t <;> cases h <;> decide +kernel⟩
  | int k =>
    have r : v = .int k := r
    subst r
    exact ⟨"int", .base (.int k), by cases t <;> cases h <;> decide +kernel⟩
  | str k =>
    have r : v = .str k := r
    subst r
    exact ⟨"str", .base (.str k), by cases t <;> cases h <;> decide +kernel⟩
  | ref n => cases t <;> cases h
  | rol n => cases t <;> cases h
  | tup xs =>
    obtain ⟨a, vs, rfl, ha, _⟩ := r
    obtain ⟨ob, ha, _⟩ := ha
    exact ⟨"tuple", .fTuple (hF a _ ha), by cases t <;> cases h <;> decide +kernel⟩
  | pr xs =>
    obtain ⟨a, vs, rfl, ha, _⟩ := r
    exact ⟨"tuple", .base (.tup (hF a _ ha)), by cases t <;> cases h <;> decide +kernel⟩
  | lst xs =>
    obtain ⟨a, vs, rfl, ha, _⟩ := r
    exact ⟨"list", .base (.lst ha), by cases t <;> cases h <;> decide +kernel⟩
  | dct =>
    obtain ⟨a, kvs, rfl, ha⟩ := r
    exact ⟨"dict", .base (.dK (hF a _ ha)), by cases t <;> cases h <;> decide +kernel⟩
theorem e_isT {t : Ty} (hg : Gl X "isinstance") (hm : X.mg "isinstance" = none) (he : PE X e (tE X.K ca W f)) (hc : PE X c (tC (.ty t.nm)))
    (hs : starEach [e, c] X.env = (false, eval e X.env) :: starEach [c] X.env := by rfl) (hs2 : starEach [c] X.env = (false, eval c X.env) :: starEach [] X.env := by rfl) (hpl : (backTo pos (starEach [c] X.env)).any (·.1) = false := by rfl) :
    PE X (.Call (.Name "isinstance" p) [e, c] [] pos) (tE X.K ca W (iIsT t f)) := by
  refine PE.imp (pe_callB call_isi hg hm (by decide +kernel) (pa_cons he (pa_cons hc pa_nil hs2) hs) (by decide +kernel) (by decide +kernel) hs hpl) fun σ H Q ⟨B, F, m, s, c, h⟩ => ?_
  refine ⟨B, F, m, s, c, ResG.imp (ResG.bind h) fun F1 m1 s1 H1 x a1 a2 c1 h1 v rv => ?_⟩
  obtain ⟨F2, b1, c2, hx⟩ := hold_ok c1 rv
  have h2 := ResG.mono b1 (List.prefix_refl _) h1
  cases e1 : rdv s1 (hold x) with
  | none => simp only [e1] at h2; exact (show False from h2).elim
  | some d =>
    simp only [e1] at h2
    cases e2 : isTy t d with
    | none => rw [e2] at h2; exact (show False from h2).elim
    | some k =>
      rw [e2] at h2
      obtain ⟨n, q1, q2⟩ := isTy_ok c2.fh (rdv_rp c2 hx e1) e2
      exact ⟨v, .ty t.nm, _, _, k, rfl, .ty _, q1, kit_ty q2, ResG.now (W := W) c2 h2 _ rfl⟩
end
def getF (f : Fl) : List (Fl × D) → Option D
  | [] => none
  | (g, d) :: r => if f = g then some d else getF f r
def putFl (f : Fl) (v : D) : List (Fl × D) → List (Fl × D)
  | [] => [(f, v)]
  | (g, x) :: r => if g = f then (g, v) :: r else (g, x) :: putFl f v r
section
variable {K : PySem.W.Frag} {ca : Cl → Addr} {B F F' : Hp} {m m' : List Addr} {s : Sx} {σ : St} {H H' : Hp}
theorem FsR.get {f : Fl} {d : D} : ∀ {fs : List (Fl × D)} {gs : List (Str × V)}, FsR K F m fs gs → getF f fs = some d → ∃ v, gs.lookup f.nm = some v ∧ RW K F m d v
  | [], _, _, h => by cases h
  | (g, x) :: fs, _, ⟨v, r, e, hx, t⟩, h => by
    subst e
    have h : (if f = g then some x else getF f fs) = some d := h
    by_cases e : f = g
    · subst e
      rw [if_pos rfl] at h; cases h
      exact ⟨v, by simp [List.lookup], hx⟩
    · rw [if_neg e] at h
      obtain ⟨u, h1, h2⟩ := FsR.get t h
      refine ⟨u, ?_, h2⟩
      have hb : (f.nm == g.nm) = false := beq_eq_false_iff_ne.mpr (Fl.nm_ne f g e)
      simp only [List.lookup, hb]
      exact h1
theorem FsR.put {f : Fl} {d : D} {w : V} (hw : RW K F m d w) : ∀ {fs : List (Fl × D)} {gs : List (Str × V)}, FsR K F m fs gs → FsR K F m (putFl f d fs) (putF f.nm w gs)
  | [], _, h => by
    have h' : _ = [] := h
    rw [h']
    exact ⟨w, [], rfl, hw, rfl⟩
  | (g, x) :: fs, _, ⟨v, r, e, hx, t⟩ => by
    subst e
    show FsR K F m (if g = f then (g, d) :: fs else (g, x) :: putFl f d fs) (if g.nm = f.nm then (g.nm, w) :: r else (g.nm, v) :: putF f.nm w r)
    by_cases e : g = f
    · subst e
      rw [if_pos rfl, if_pos rfl]
      exact ⟨w, r, rfl, hw, t⟩
    · rw [if_neg e, if_neg (Fl.nm_ne g f e)]
      exact ⟨v, _, rfl, hx, FsR.put hw t⟩
theorem FsR.length : ∀ {fs : List (Fl × D)} {gs : List (Str × V)}, FsR K F m fs gs → fs.length = gs.length
  | [], _, h => by
    have h' : _ = [] := h
    rw [h'] <;> rfl
  | (g, x) :: fs, _, ⟨v, r, e, hx, t⟩ => by rw [e, List.length_cons, List.length_cons, FsR.length t]
theorem FsR.none {n : Str} (hn : ∀ f : Fl, f.nm ≠ n) : ∀ {fs : List (Fl × D)} {gs : List (Str × V)}, FsR K F m fs gs → gs.lookup n = none
  | [], _, h => by
    have h' : _ = [] := h
    rw [h'] <;> rfl
  | (g, x) :: fs, _, ⟨v, r, e, hx, t⟩ => by
    subst e
    have hb : (n == g.nm) = false := beq_eq_false_iff_ne.mpr (Ne.symm (hn g))
    simp only [List.lookup, hb]
    exact FsR.none hn t
theorem nodup_at {l : List Addr} (h : l.Nodup) {i j : Nat} {x : Addr} (a : l[i]? = some x) (b : l[j]? = some x) : i = j := by
  obtain ⟨h1, e1⟩ := List.getElem?_eq_some_iff.mp a
  obtain ⟨h2, e2⟩ := List.getElem?_eq_some_iff.mp b
  exact (List.getElem_inj h).mp (e1.trans e2.symm)
theorem Cor.setOb (c : Cor K ca B F m s σ H) {n : Nat} {a : Addr} {o : HO} {ob : Ob} (hn : m[n]? = some a) (hl : n < s.hp.length) (ho : ObR K ca F m (upd H a o) a ob) : Cor K ca B F m { s with hp := s.hp.set n ob } σ (upd H a o) := by
  have hm : a ∈ m := List.mem_of_getElem? hn
  obtain ⟨f1, f2⟩ := c.mf a hm
  refine ⟨c.fh.updR f1, c.bh.updR f2, c.bf, c.nd, c.mf, fun b hb => ?_, by rw [List.length_set]; exact c.ml, fun k o' b h1 h2 => ?_, c.el, fun i x h => ?_, c.dis⟩
  · by_cases e : b = a
    · subst e; exact ⟨o, upd_same⟩
    · rw [upd_ne e]; exact c.md b hb
  · by_cases e : n = k
    · subst e
      rw [hn] at h2; cases h2
      rw [List.getElem?_set_self hl] at h1; cases h1
      exact ho
    · rw [List.getElem?_set_ne e] at h1
      refine (c.hp k o' b h1 h2).mono (Sub.refl _) (List.prefix_refl _) (upd_ne ?_)
      rintro rfl
      exact e (nodup_at c.nd hn h2)
  · have q := c.env i x h
    cases x with
    | no => trivial
    | v d => exact q
    | exc _ _ _ _ => exact q
    | own xs =>
      obtain ⟨b, vs, e, hb, r, g1, g2, g3⟩ := q
      refine ⟨b, vs, e, ?_, r, g1, g2, g3⟩
      rw [upd_ne]; exact hb
      rintro rfl; exact g3 hm
    | ownd t kvs =>
      obtain ⟨b, e, hb, g1, g2, g3⟩ := q
      refine ⟨b, e, hb.mono (Sub.refl _) (List.prefix_refl _) (upd_ne ?_), g1, g2, g3⟩
      rintro rfl; exact g3 hm
theorem Cor.addOb (c : Cor K ca B F m s σ H) {a : Addr} {ob : Ob} (f : Free B F m s σ a) (hh : ∃ o, H a = some o) (ho : ObR K ca F (m ++ [a]) H a ob) : Cor K ca B F (m ++ [a]) { s with hp := s.hp ++ [ob] } σ H := by
  obtain ⟨f1, f2, f3, f4⟩ := f
  have hp : m <+: m ++ [a] := List.prefix_append _ _
  refine ⟨c.fh, c.bh, c.bf, ?_, fun b hb => ?_, fun b hb => ?_, by rw [List.length_append, List.length_append, c.ml] <;> rfl, fun k o' b h1 h2 => ?_, c.el, fun i x h => ?_, c.dis⟩
  · rw [List.nodup_append]
    refine ⟨c.nd, List.nodup_cons.mpr ⟨by simp, List.nodup_nil⟩, fun x hx y hy e => ?_⟩
    have : y = a := by simpa using hy
    subst this; subst e; exact f3 hx
  · rcases List.mem_append.mp hb with hb | hb
    · exact c.mf b hb
    · have : b = a := by simpa using hb
      subst this; exact ⟨f1, f2⟩
  · rcases List.mem_append.mp hb with hb | hb
    · exact c.md b hb
    · have : b = a := by simpa using hb
      subst this; exact hh
  · by_cases e : k < s.hp.length
    · rw [List.getElem?_append_left e] at h1
      rw [List.getElem?_append_left (by rw [c.ml]; exact e)] at h2
      exact (c.hp k o' b h1 h2).mono (Sub.refl _) hp rfl
    · have e' : k = s.hp.length := by
        have := (List.getElem?_eq_some_iff.mp h1).1
        rw [List.length_append] at this
        simp at this
        omega
      subst e'
      rw [List.getElem?_concat_length] at h1; cases h1
      rw [← c.ml, List.getElem?_concat_length] at h2; cases h2
      exact ho
  · have q := c.env i x h
    cases x with
    | no => trivial
    | v d => obtain ⟨v, e, r⟩ := q; exact ⟨v, e, RW.mono (Sub.refl _) hp d v r⟩
    | exc _ row _ _ => obtain ⟨e, v, h1, r⟩ := q; exact ⟨e, v, h1, RW.mono (Sub.refl _) hp row v r⟩
    | own xs =>
      obtain ⟨b, vs, e, hb, r, g1, g2, g3⟩ := q
      refine ⟨b, vs, e, hb, RWs.mono (Sub.refl _) hp xs vs r, g1, g2, fun hm => ?_⟩
      rcases List.mem_append.mp hm with hm | hm
      · exact g3 hm
      · have : b = a := by simpa using hm
        subst this; exact f4 i _ h rfl e
    | ownd t kvs =>
      obtain ⟨b, e, hb, g1, g2, g3⟩ := q
      refine ⟨b, e, hb.mono (Sub.refl _) hp rfl, g1, g2, fun hm => ?_⟩
      rcases List.mem_append.mp hm with hm | hm
      · exact g3 hm
      · have : b = a := by simpa using hm
        subst this; exact f4 i _ h rfl e
end
structure HasOk (K : PySem.W.Frag) (ca : Cl → Addr) (has : Cl → Fl → Bool) : Prop where
  ok : ∀ c f, has c f = true → Cls K (ca c) ∧ NoAttr K (ca c) f.nm
def iFld (has : Cl → Fl → Bool) (f : Fl) (o : E) : E := fun s => (o s).bind fun r s1 => match r with
  | .w (.ref n) => match s1.hp[n]? with
    | some (.ins c fs) => match has c f with
      | true => match getF f fs with
        | some d => .ok (.w d) s1
        | none => .stuck
      | false => .stuck
    | _ => .stuck
  | _ => .stuck
def iSetF (has : Cl → Fl → Bool) (f : Fl) (o v : E) : I := fun s => thenS (arg v s) fun d s1 => thenS (o s1) fun r s2 => match r with
  | .w (.ref n) => match s2.hp[n]? with
    | some (.ins c fs) => match has c f with
      | true => if fs.length < 900 then .nx { s2 with hp := s2.hp.set n (.ins c (putFl f d fs)) } else .stuck
      | false => .stuck
    | _ => .stuck
  | _ => .stuck
section
variable {X : Cx} {ca : Cl → Addr} {W : WX} {e o v : Expr} {f : E} {g : E} {pos pos' : Pos} {has : Cl → Fl → Bool} {fl : Fl} {n : Str}
theorem e_fld (G : HasOk X.K ca has) (he : PE X e (tE X.K ca W f)) (hn : fl.nm = n := by decide +kernel) (hb : attributeBase e n X.env (eval e X.env) = eval e X.env := by rfl) : PE X (.Attribute e n pos) (tE X.K ca W (iFld has fl f)) := by
  subst hn
  refine PE.imp (pe_fld he hb) fun σ H Q ⟨B, F, m, s, c, h⟩ => ?_
  refine ⟨B, F, m, s, c, ResG.imp (ResG.bind h) fun F1 m1 s1 H1 x a1 a2 c1 h1 u ru => ?_⟩
  cases x with
  | w d =>
    cases d with
    | ref k =>
      obtain ⟨a, hm, rfl⟩ := ru
      simp only at h1
      cases e1 : s1.hp[k]? with
      | none => rw [e1] at h1; exact (show False from h1).elim
      | some ob =>
        rw [e1] at h1
        cases ob with
        | ins cc fs =>
          simp only at h1
          cases e2 : has cc fl with
          | false => rw [e2] at h1; exact (show False from h1).elim
          | true =>
            rw [e2] at h1
            simp only at h1
            cases e3 : getF fl fs with
            | none => rw [e3] at h1; exact (show False from h1).elim
            | some d =>
              rw [e3] at h1
              obtain ⟨dx, gs, hh, hr⟩ := c1.hp k _ a e1 hm
              obtain ⟨w, q1, q2⟩ := hr.get e3
              obtain ⟨g1, g2⟩ := G.ok cc fl e2
              exact ⟨a, ca cc, dx, gs, w, rfl, hh, g1, g2, q1, ResG.now (W := W) c1 h1 w q2⟩
        | lst _ => exact (show False from h1).elim
        | gone => exact (show False from h1).elim
        | xin _ _ => exact (show False from h1).elim
    | _ => exact (show False from h1).elim
  | _ => exact (show False from h1).elim
theorem fld_imp (G : HasOk X.K ca has) {E : Ends} {σ : St} {H : Hp} (h : tS X.K ca W (iSetF has fl f g) E σ H) : sFld X.K (tE X.K ca W f) (tE X.K ca W g) fl.nm E σ H := by
  obtain ⟨B, F, m, s, c, h⟩ := h
  refine argS c h fun F1 m1 s1 H1 d u c1 rd h1 => ?_
  refine ⟨B, F1, m1, s1, c1, ResG.imp (thenS_g h1) fun F2 m2 s2 H2 x a1 a2 c2 h2 w rw => ?_⟩
  have rd' := RW.mono a1 a2 d u rd
  cases x with
  | w d' =>
    cases d' with
    | ref k =>
      obtain ⟨a, hm, rfl⟩ := rw
      simp only at h2
      cases e1 : s2.hp[k]? with
      | none => rw [e1] at h2; exact (show False from h2).elim
      | some ob =>
        rw [e1] at h2
        cases ob with
        | ins cc fs =>
          simp only at h2
          cases e2 : has cc fl with
          | false => rw [e2] at h2; exact (show False from h2).elim
          | true =>
            rw [e2] at h2
            simp only at h2
            split at h2
            · rename_i hl
              obtain ⟨dx, gs, hh, hr⟩ := c2.hp k _ a e1 hm
              obtain ⟨g1, g2⟩ := G.ok cc fl e2
              refine ⟨a, ca cc, dx, gs, rfl, hh, g1, g2, by rw [← hr.length]; omega, ?_⟩
              refine SRg.now (W := W) (c2.setOb (ob := .ins cc (putFl fl d fs)) hm (List.getElem?_eq_some_iff.mp e1).1 ?_) h2
              exact ⟨dx, _, upd_same, hr.put rd'⟩
            · exact (show False from h2).elim
        | lst _ => exact (show False from h2).elim
        | gone => exact (show False from h2).elim
        | xin _ _ => exact (show False from h2).elim
    | _ => exact (show False from h2).elim
  | _ => exact (show False from h2).elim
theorem s_setF (G : HasOk X.K ca has) (ho : PE X o (tE X.K ca W f)) (hv : PE X v (tE X.K ca W g)) (hn : fl.nm = n := by decide +kernel) (hs : swapsWith v (some (.Attribute o n pos')) pos.line X.env = pure false := by rfl) :
    PS X (.Assign [.Attribute o n pos'] v pos) (tS X.K ca W (iSetF has fl f g)) := by
  subst hn
  exact PS.imp (ps_fld ho hv hs) fun _ _ _ => fld_imp G
end
section
variable {X : Cx} {CX : CXT} {k : Nat} {f C : Addr} {fd : FuncData} {ps : List Str} {sp : Sp} {E : St → XK} {x m : Str} {p pos apos : Pos} {e o : Expr} {es : List Expr} {ta : TE} {t : TA}
def tMethS (C : Addr) (m : Str) (sp : Sp) (E : St → XK) (ta : TE) (t : TA) : TE := fun σ H Q => ta σ H fun x H1 => ∃ a dx fs, x = .ref a ∧ H1 a = some (.ins C dx fs) ∧ fs.lookup m = none ∧
  t σ H1 fun vs H2 => sp (x :: vs) H2 Q (E σ)
def tMakeS (C : Addr) (sp : Sp) (E : St → XK) (t : TA) : TE := fun σ H Q => t σ H fun vs H1 => ∀ x dx, H1 x = none → H1 dx = none → dx ≠ x →
  sp (.ref x :: vs) (upd (upd H1 dx (.own x)) x (.ins C dx [])) (fun v H2 => v = .non ∧ Q (.ref x) H2) (E σ)
theorem pe_methS {pl : Sem Bool} (he : PE X o ta) (c : Cls X.K C) (hm : Meth X.K C m f) (F : FnOk X.prog X.w X.K X.mg X.base CX k f fd ps sp) (hr : Room k X.A) (hb : Binds X.K fd ps []) (hx : ∀ σ, PassesAt CX X σ (E σ)) (ha : PA X (e :: es) t)
    (hst : starEach (e :: es) X.env = (false, eval e X.env) :: starEach es X.env) (hpl : (backTo pos (starEach es X.env)).any (·.1) = false)
    (ht : eval (.Call (.Attribute o m apos) (e :: es) [] pos) X.env = (do
      let ov ← eval o X.env
      standAt apos.atName
      let (f, first) ← holding [ov] (getMethod ov m pl)
      callWith pos f first (backTo pos (starEach (e :: es) X.env)) (backToKw pos (keywordEach [] X.env)))) :
    PE X (.Call (.Attribute o m apos) (e :: es) [] pos) (tMethS C m sp E ta t) := by
  refine ⟨fun pins s σ H Q I h => ?_⟩
  refine PySem.W.methodCall_KW (pl := pl) (thn (he.run pins s σ H _ I h) fun u s1 ⟨x, H1, I1, rx, a, dx, fs, ex, ea, l, q⟩ => ?_) ht
  subst ex
  obtain rfl : u = Value.ref a := rx
  refine getmeth_ok I1 ea c hm l ?_
  refine PySem.W.callWith_K (first := [.ref a]) (h₀ := X.base) I.ok.mod.kin hm.kp (thn (ha.run pos pins s1 σ H1 _ I1 q) fun us s2 ⟨vs, H2, I2, r, q2⟩ => ⟨I2.kIn, ?_⟩) hst hpl
  exact run_fnS (us := .ref a :: us) (vs := .ref a :: vs) F hr hb (hx σ) I2 (.cons rfl r) q2
theorem run_makeS {pins : List (Addr × Obj)} {σ : St} {H : Hp} {s : Shared} {Q : VK} {us : List Value} {vs : List V} (M : Mk X.K C f) (F : FnOk X.prog X.w X.K X.mg X.base CX k f fd ps sp) (hr : Room (k + 1) X.A) (hb : Binds X.K fd ps [])
    (hx : ∀ σ, PassesAt CX X σ (E σ)) (I : Inv X pins σ H s) (r : Vals vs us)
    (h : ∀ x dx, H x = none → H dx = none → dx ≠ x → sp (.ref x :: vs) (upd (upd H dx (.own x)) x (.ins C dx [])) (fun v H2 => v = .non ∧ Q (.ref x) H2) (E σ)) :
    wpAny (model X.prog X.w) X.A (call (.ref C) us) (EP X pins σ Q) X.xe s := by
  have hq := h (s.heap.objs.size + 1) s.heap.objs.size (I.hok.fresh (Nat.le_succ _)) (I.hok.fresh (Nat.le_refl _)) (Nat.ne_of_lt (Nat.lt_succ_self _))
  have I2 := Inv.made (C := C) I
  have r2 : Vals (V.ref (s.heap.objs.size + 1) :: vs) (Value.ref (s.heap.objs.size + 1) :: us) := .cons rfl r
  have hl : (Value.ref (s.heap.objs.size + 1) :: us).length = ps.length := by
    have e := r2.length
    rw [F.len _ _ _ _ hq] at e
    exact e.symm
  have hbb := hb _ (Value.ref (s.heap.objs.size + 1) :: us) I2.kIn (by rw [List.append_nil]; exact hl)
  rw [List.append_nil] at hbb
  refine wpAny_call (make_map (f := f) I.kIn M.makes M.init (beq_iff_eq.mp M.fn) (codeAny_mono (F.run _ X.stack _ _ ⟨Value.ref (s.heap.objs.size + 1) :: us, []⟩ (Value.ref (s.heap.objs.size + 1) :: us) _ _ (E σ) (hr.make C us [])
    (I2.env0.make C us []) hbb r2 hq) fun r s' hq' => ?_))
  cases r with
  | error e => exact hx σ pins _ _ e s' I2 hq'
  | ok fl =>
    cases fl with
    | ret u =>
      obtain ⟨v, H', I3, rv, ev, q3⟩ := I2.after hq'
      subst ev
      exact ⟨rv, ⟨V.ref (s.heap.objs.size + 1), H', I3, rfl, q3⟩⟩
    | next => exact False.elim hq'
    | brk => exact False.elim hq'
    | cont => exact False.elim hq'
theorem pe_makeS (M : Mk X.K C f) (F : FnOk X.prog X.w X.K X.mg X.base CX k f fd ps sp) (hr : Room (k + 1) X.A) (hg : Gl X x) (hm : X.mg x = some (.ref C)) (hb : Binds X.K fd ps []) (hx : ∀ σ, PassesAt CX X σ (E σ))
    (ha : PA X (e :: es) t) (hdb : (x == ("__debug__" : Str)) = false) (he : starEach (e :: es) X.env = (false, eval e X.env) :: starEach es X.env) (hpl : (backTo pos (starEach es X.env)).any (·.1) = false) :
    PE X (.Call (.Name x p) (e :: es) [] pos) (tMakeS C sp E t) := by
  refine ⟨fun pins s σ H Q I h => ?_⟩
  refine wpAny_Call_Name_kw (ld_glob I hg hm ?_ hdb)
  refine PySem.W.callWith_K (h₀ := X.base) I.ok.mod.kin M.kp (thn (ha.run pos pins s σ H _ I h) fun us s1 ⟨vs, H1, I1, r, q⟩ => ⟨I1.kIn, ?_⟩) he hpl
  exact run_makeS M F hr hb hx I1 r q
end
structure MOk (X : Cx) (ca : Cl → Addr) (m : Str) (n : Nat) (c : Cl) (M : Fn) : Prop where
  ok : ∃ (f : Addr) (k : Nat) (fd : FuncData) (ps : List Str), ps.length = n ∧ Cls X.K (ca c) ∧ Meth X.K (ca c) m f ∧ FnOk X.prog X.w X.K X.mg X.base (L2.CX X.prog X.w) k f fd ps (spF X.K ca n M) ∧ Room k X.A ∧ Binds X.K fd ps []
def lookM (c : Cl) : List (Cl × Fn) → Option Fn
  | [] => none
  | (c', M) :: r => if c = c' then some M else lookM c r
def iMeth (tbl : List (Cl × Fn)) (o : E) (fs : List E) : E := fun s => match o s with
  | .ok (.w (.ref n)) s1 => match s1.hp[n]? with
    | some (.ins c _) => match lookM c tbl with
      | some M => (args fs s1).bind fun ds s2 => backR (M (.ref n :: ds) s2.hp) s2
      | none => .stuck
    | _ => .stuck
  | _ => .stuck
def iNew (c : Cl) (M : Fn) (fs : List E) : E := fun s => (args fs s).bind fun ds s1 => match M (.ref s1.hp.length :: ds) (s1.hp ++ [.ins c []]) with
  | .ok (.v .non) hp => .ok (.w (.ref s1.hp.length)) { s1 with hp := hp }
  | .exc cc d hp => .exc cc d { s1 with hp := hp }
  | _ => .stuck
def iHeap (f : E) : E := fun s => (f s).bind fun r s1 => match r with
  | .fr xs => .ok (.w (.ref s1.hp.length)) { s1 with hp := s1.hp ++ [.lst xs] }
  | _ => .stuck
section
variable {X : Cx} {ca : Cl → Addr} {W : WX} {e o : Expr} {es : List Expr} {f : E} {fs : List E} {pos apos p : Pos} {m : Str} {tbl : List (Cl × Fn)} {M : Fn} {c : Cl}
theorem meth_ways {K : PySem.W.Frag} {σ : St} {H : Hp} {Q : VK} (h : tE K ca W (iMeth tbl f fs) σ H Q) : ∃ (c : Cl) (M : Fn), lookM c tbl = some M ∧
    (∃ (B F : Hp) (mm : List Addr) (s : Sx), Cor K ca B F mm s σ H ∧ ∃ (n : Nat) (fls : List (Fl × D)) (s1 : Sx), f s = .ok (.w (.ref n)) s1 ∧ s1.hp[n]? = some (.ins c fls) ∧
      ResG K ca W B σ F mm (PEx K B σ Q) ((args fs s1).bind fun ds s2 => backR (M (.ref n :: ds) s2.hp) s2)) := by
  obtain ⟨B, F, mm, s, c, h⟩ := h
  unfold iMeth at h
  split at h
  · rename_i n s1 e1
    split at h
    · rename_i cc fls e2
      cases e3 : lookM cc tbl with
      | none => rw [e3] at h; exact h.elim
      | some M => rw [e3] at h; exact ⟨cc, M, e3, B, F, mm, s, c, n, fls, s1, e1, e2, h⟩
    · exact h.elim
  · exact h.elim
theorem lookM_mem {c : Cl} {M : Fn} : ∀ {tbl : List (Cl × Fn)}, lookM c tbl = some M → (c, M) ∈ tbl
  | [], h => by cases h
  | (c', M') :: r, h => by
    have h : (if c = c' then some M' else lookM c r) = some M := h
    split at h
    · rename_i e; cases h; subst e; exact List.mem_cons_self
    · exact List.mem_cons_of_mem _ (lookM_mem h)
theorem e_meth {pl : Sem Bool} (hT : ∀ c M, (c, M) ∈ tbl → MOk X ca m (fs.length + 1) c M) (tk : Takes X W) (he : PE X o (tE X.K ca W f)) (ha : PA X (e :: es) (tA X.K ca W fs)) (hn : ∀ g : Fl, g.nm ≠ m := by intro g; cases g <;> decide +kernel)
    (hst : starEach (e :: es) X.env = (false, eval e X.env) :: starEach es X.env := by rfl) (hpl : (backTo pos (starEach es X.env)).any (·.1) = false := by rfl)
    (ht : eval (.Call (.Attribute o m apos) (e :: es) [] pos) X.env = (do
      let ov ← eval o X.env
      standAt apos.atName
      let (f, first) ← holding [ov] (getMethod ov m pl)
      callWith pos f first (backTo pos (starEach (e :: es) X.env)) (backToKw pos (keywordEach [] X.env))) := by rfl) :
    PE X (.Call (.Attribute o m apos) (e :: es) [] pos) (tE X.K ca W (iMeth tbl f fs)) := by
  refine ⟨fun pins s σ H Q I h => ?_⟩
  obtain ⟨c, M, hl, B, F, mm, s0, cor, n, fls, s1, e1, e2, g⟩ := meth_ways h
  obtain ⟨fa, k, fd, ps, hps, cl, mt, fo, hr, hb⟩ := (hT c M (lookM_mem hl)).ok
  refine (pe_methS (E := WE W) he cl mt fo hr hb (fun σ => passAt tk σ) ha hst hpl ht).run pins s σ H Q I ?_
  refine ⟨B, F, mm, s0, cor, ?_⟩
  rw [e1]
  intro F1 m1 H1 a1 a2 c1 v rv
  obtain ⟨a, hm, rfl⟩ := rv
  obtain ⟨dx, gs, hh, hr⟩ := c1.hp n _ a e2 hm
  refine ⟨a, dx, gs, rfl, hh, hr.none hn, ?_⟩
  refine args_imp2 c1 (ResG.mono a1 a2 g) fun F2 m2 s2 H2 ds vs _ b2 el c2 rv h2 => ?_
  exact call_sp (ds := .ref n :: ds) c2 (by rw [List.length_cons, ← rv.length, el]) (RWs.cons ⟨a, get_prefix b2 hm, rfl⟩ rv) h2
theorem new_sp {K : PySem.W.Frag} {σ : St} {H : Hp} {B F : Hp} {m : List Addr} {s : Sx} {ds : List D} {vs : List V} {Q : VK} {n : Nat} (c' : Cl) (cor : Cor K ca B F m s σ H) (hn : vs.length + 1 = n) (r : RWs K F m ds vs)
    (h : ResG K ca W B σ F m (PEx K B σ Q) (match M (.ref s.hp.length :: ds) (s.hp ++ [.ins c' []]) with
      | .ok (.v .non) hp => .ok (.w (.ref s.hp.length)) { s with hp := hp }
      | .exc cc d hp => .exc cc d { s with hp := hp }
      | _ => .stuck)) : ∀ x dx, H x = none → H dx = none → dx ≠ x → spF K ca n M (.ref x :: vs) (upd (upd H dx (.own x)) x (.ins (ca c') dx [])) (fun v H2 => v = .non ∧ Q (.ref x) H2) (WE W σ) := by
  intro x dx hx hdx hne
  have c1 := (cor.other (o := .own x) (cor.fresh hdx))
  have hx1 : (upd H dx (.own x)) x = none := by rw [upd_ne (Ne.symm hne)]; exact hx
  have fx := c1.fresh hx1
  have c2 := c1.other (o := .ins (ca c') dx []) fx
  have c3 := c2.addOb (ob := .ins c' []) fx ⟨_, upd_same⟩ ⟨dx, [], upd_same, rfl⟩
  have hp : m <+: m ++ [x] := List.prefix_append _ _
  have hr : RWs K F (m ++ [x]) (.ref s.hp.length :: ds) (.ref x :: vs) := RWs.cons ⟨x, by rw [← cor.ml, List.getElem?_concat_length], rfl⟩ (RWs.mono (Sub.refl _) hp _ _ r)
  refine ⟨by rw [List.length_cons]; exact hn, rest F (m ++ [x]) _, F, m ++ [x], .ref s.hp.length :: ds, s.hp ++ [.ins c' []], c3.enter, hr, ?_⟩
  cases e : M (.ref s.hp.length :: ds) (s.hp ++ [.ins c' []]) with
  | ok rv hp' =>
    rw [e] at h
    cases rv with
    | v dd =>
      cases dd with
      | non =>
        intro F' m' H' v hF hm d rr
        refine ⟨rr, ?_⟩
        have cb := c3.back hF hm d
        exact h F' m' H' hF (hp.trans hm) cb (.ref x) ⟨x, get_prefix hm (by rw [← cor.ml, List.getElem?_concat_length]), rfl⟩
      | _ => exact h.elim
    | fr xs => exact h.elim
  | exc cc row hp' =>
    rw [e] at h
    exact fun F' m' H' d hF hm dd xr => h F' m' H' d hF (hp.trans hm) (c3.back hF hm dd) xr
  | stuck => rw [e] at h; exact h
theorem e_new {k : Nat} {fa : Addr} {fd : FuncData} {ps : List Str} {x : Str} (Mm : Mk X.K (ca c) fa) (FF : FnOk X.prog X.w X.K X.mg X.base (L2.CX X.prog X.w) k fa fd ps (spF X.K ca ps.length M)) (tk : Takes X W) (hr : Room (k + 1) X.A) (hg : Gl X x) (hm : X.mg x = some (.ref (ca c)))
    (hb : Binds X.K fd ps []) (ha : PA X (e :: es) (tA X.K ca W fs)) (hl : fs.length + 1 = ps.length := by rfl) (hdb : (x == ("__debug__" : Str)) = false := by decide +kernel) (he : starEach (e :: es) X.env = (false, eval e X.env) :: starEach es X.env := by rfl)
    (hpl : (backTo pos (starEach es X.env)).any (·.1) = false := by rfl) : PE X (.Call (.Name x p) (e :: es) [] pos) (tE X.K ca W (iNew c M fs)) := by
  refine PE.imp (pe_makeS (E := WE W) Mm FF hr hg hm hb (fun σ => passAt tk σ) ha hdb he hpl) fun σ H Q ⟨B, F, m, s, cor, h⟩ => ?_
  exact args_imp cor h fun F1 m1 s1 H1 ds vs el c1 rv h1 => new_sp c c1 (by rw [← rv.length, el, hl]) rv h1
theorem e_heap (he : PE X e (tE X.K ca W f)) : PE X e (tE X.K ca W (iHeap f)) := by
  refine PE.imp he fun σ H Q ⟨B, F, m, s, cor, h⟩ => ?_
  refine ⟨B, F, m, s, cor, ResG.imp (ResG.bind h) fun F1 m1 s1 H1 x a1 a2 c1 h1 v rv => ?_⟩
  cases x with
  | fr xs =>
    obtain ⟨a, vs, rfl, ha, r, f⟩ := rv
    have hp : m1 <+: m1 ++ [a] := List.prefix_append _ _
    exact h1 F1 (m1 ++ [a]) H1 (Sub.refl _) hp (c1.addOb f ⟨_, ha⟩ ⟨vs, ha, RWs.mono (Sub.refl _) hp xs vs r⟩) _ ⟨a, by rw [← c1.ml, List.getElem?_concat_length], rfl⟩
  | w d => exact (show False from h1).elim
  | sl i => exact (show False from h1).elim
  | frd => exact (show False from h1).elim
end
def getL (s : Sx) : RX → Option (List D)
  | .sl i => match s.env[i]? with
    | some (.own xs) => some xs
    | _ => none
  | .w (.ref n) => match s.hp[n]? with
    | some (.lst xs) => some xs
    | _ => none
  | _ => none
def putL (s : Sx) (ys : List D) : RX → Sx
  | .sl i => { s with env := s.env.set i (.own ys) }
  | .w (.ref n) => { s with hp := s.hp.set n (.lst ys) }
  | _ => s
section
variable {K : PySem.W.Frag} {ca : Cl → Addr} {B F : Hp} {m : List Addr} {s : Sx} {σ : St} {H : Hp}
theorem Cor.list_at (c : Cor K ca B F m s σ H) {r : RX} {v : V} {xs : List D} (h : HR K F m σ r v) (e : getL s r = some xs) :
    ∃ a vs, v = .ref a ∧ H a = some (.lst vs) ∧ RWs K F m xs vs ∧ ∀ (ys : List D) (us : List V), RWs K F m ys us → Cor K ca B F m (putL s ys r) σ (upd H a (.lst us)) := by
  cases r with
  | sl i =>
    have e : (match s.env[i]? with | some (SV.own xs) => some xs | _ => none) = some xs := e
    split at e
    · rename_i zs hi
      cases e
      obtain ⟨a, vs, e1, h1, h2, f1, f2, f3⟩ := c.env i _ hi
      have e2 : σ[i]? = some (some v) := h
      rw [e1] at e2; cases e2
      refine ⟨a, vs, rfl, h1, h2, fun ys us r => ?_⟩
      have il : i < s.env.length := (List.getElem?_eq_some_iff.mp hi).1
      have c0 : Cor K ca B F m { s with env := s.env.set i .no } σ H := by
        refine ⟨c.fh, c.bh, c.bf, c.nd, c.mf, c.md, c.ml, c.hp, by rw [← c.el]; simp, fun j x hj => ?_, fun j k b x y hj hk mx my e1 e2 => ?_⟩
        · by_cases hji : i = j
          · subst hji
            rw [List.getElem?_set_self il] at hj; cases hj; trivial
          · rw [List.getElem?_set_ne hji] at hj
            exact c.env j x hj
        · by_cases hji : i = j
          · subst hji
            rw [List.getElem?_set_self il] at hj; cases hj; cases mx
          · by_cases hki : i = k
            · subst hki
              rw [List.getElem?_set_self il] at hk; cases hk; cases my
            · rw [List.getElem?_set_ne hji] at hj
              rw [List.getElem?_set_ne hki] at hk
              exact c.dis j k b x y hj hk mx my e1 e2
      have fr : Free B F m { s with env := s.env.set i .no } σ a := by
        refine ⟨f1, f2, f3, fun j x hj mx ej => ?_⟩
        by_cases hji : i = j
        · subst hji
          rw [List.getElem?_set_self il] at hj; cases hj; cases mx
        · rw [List.getElem?_set_ne hji] at hj
          exact hji (c.dis i j a _ x hi hj rfl mx e1 ej)
      have c1 := c0.other (o := .lst us) fr
      have c2 := c1.setOwn (i := i) fr upd_same r (by simpa using il)
      have e3 : σ.set i (some (.ref a)) = σ := by
        have hl : i < σ.length := by rw [← c.el]; exact il
        apply List.ext_getElem?
        intro j
        by_cases hj : i = j
        · subst hj; rw [List.getElem?_set_self hl, e1]
        · rw [List.getElem?_set_ne hj]
      rw [e3] at c2
      have e4 : putL s ys (.sl i) = { s with env := (s.env.set i .no).set i (.own ys) } := by
        show ({ s with env := s.env.set i (.own ys) } : Sx) = _
        rw [List.set_set]
      rw [e4]
      exact c2
    · cases e
  | w d =>
    cases d with
    | ref n =>
      have e : (match s.hp[n]? with | some (Ob.lst xs) => some xs | _ => none) = some xs := e
      split at e
      · rename_i zs hn
        cases e
        obtain ⟨a, hm, rfl⟩ := h
        obtain ⟨vs, h1, h2⟩ := c.hp n _ a hn hm
        exact ⟨a, vs, rfl, h1, h2, fun ys us r => c.setOb (ob := .lst ys) hm (List.getElem?_eq_some_iff.mp hn).1 ⟨us, upd_same, r⟩⟩
      · cases e
    | _ => cases e
  | fr xs => cases e
  | frd => cases e
end
def mutTail (g : List D → List D → Option (D × List D)) (r : RX) (ds : List D) (s2 : Sx) : Rs RX := match getL s2 (hold r) with
  | some xs => match g xs ds with
    | some (d, ys) => .ok (.w d) (putL s2 ys (hold r))
    | none => .stuck
  | none => .stuck
def iMut (g : List D → List D → Option (D × List D)) (o : E) (fs : List E) : E := fun s => (o s).bind fun r s1 => match getL s1 (hold r) with
  | some _ => (args fs s1).bind fun ds s2 => mutTail g r ds s2
  | none => .stuck
def rm (K : PySem.W.Frag) (g : List D → List D → Option (D × List D)) : V → List V → Hp → VK → Prop := fun x us H Q => ∃ (F : Hp) (m : List Addr) (a : Addr) (vs : List V) (xs ds : List D) (d : D) (ys : List D), x = .ref a ∧ H a = some (.lst vs) ∧ RWs K F m xs vs ∧ RWs K F m ds us ∧ Sub F H ∧ g xs ds = some (d, ys) ∧
  ∀ (v : V) (ws : List V), RW K F m d v → RWs K F m ys ws → Q v (upd H a (.lst ws))
def gApp : List D → List D → Option (D × List D)
  | xs, [d] => if xs.length < 1000000 then some (.non, xs ++ [d]) else none
  | _, _ => none
section
variable {X : Cx} {ca : Cl → Addr} {W : WX} {e o : Expr} {es : List Expr} {f : E} {fs : List E} {pos apos p : Pos} {n : Str} {g : List D → List D → Option (D × List D)} {id : String}
theorem mut_tail {σ : St} {H : Hp} {Q : VK} {B F : Hp} {m : List Addr} {s1 : Sx} {r : RX} {x : V} (c : Cor X.K ca B F m s1 σ H) (hx : HR X.K F m σ (hold r) x) (h : ResG X.K ca W B σ F m (PEx X.K B σ Q) ((args fs s1).bind fun ds s2 => mutTail g r ds s2)) :
    tA X.K ca W fs σ H fun us H2 => rm X.K g x us H2 Q :=
  args_imp2 c h fun F1 m1 s2 H1 ds us a1 a2 el c1 rv h1 => by
    unfold mutTail at h1
    cases e1 : getL s2 (hold r) with
    | none => simp only [e1] at h1; exact (show False from h1).elim
    | some xs =>
      simp only [e1] at h1
      cases e2 : g xs ds with
      | none => rw [e2] at h1; exact (show False from h1).elim
      | some q =>
        obtain ⟨d, ys⟩ := q
        rw [e2] at h1
        obtain ⟨a, vs, rfl, ha, hr, hp⟩ := c1.list_at (HR.mono a1 a2 hx) e1
        exact ⟨F1, m1, a, vs, xs, ds, d, ys, rfl, ha, hr, rv, c1.fh, e2, fun v ws q1 q2 => h1 F1 m1 _ (Sub.refl _) (List.prefix_refl _) (hp ys ws q2) v q1⟩
theorem mut_imp {σ : St} {H : Hp} {Q : VK} (h : tE X.K ca W (iMut g f fs) σ H Q) : tE X.K ca W f σ H fun x H1 => tyV X.K "list" x H1 ∧ tA X.K ca W fs σ H1 fun us H2 => rm X.K g x us H2 Q := by
  obtain ⟨B, F, m, s, c, h⟩ := h
  refine ⟨B, F, m, s, c, ResG.imp (ResG.bind h) fun F1 m1 s1 H1 x a1 a2 c1 h1 v rv => ?_⟩
  obtain ⟨F2, b1, c2, hx⟩ := hold_ok c1 rv
  have h2 := ResG.mono b1 (List.prefix_refl _) h1
  cases e1 : getL s1 (hold x) with
  | none => simp only [e1] at h2; exact (show False from h2).elim
  | some xs =>
    simp only [e1] at h2
    refine ⟨?_, mut_tail c2 hx h2⟩
    obtain ⟨a, vs, rfl, ha, _⟩ := c2.list_at hx e1
    exact .inl ⟨rfl, vs, SqL.of ha⟩
theorem e_mut (slot : Slot "list" n id) (hty : typeOf (.builtin id) = pure (.type "method_descriptor")) (hm : MtR X id (rm X.K g)) (ho : PE X o (tE X.K ca W f)) (ha : PA X (e :: es) (tA X.K ca W fs))
    (hbase : attributeBase o n X.env (eval o X.env) = eval o X.env := by rfl)
    (hfew : ((backTo pos (starEach (e :: es) X.env)).all (fun x => !x.1) && (backToKw pos (keywordEach [] X.env)).all (fun x => x.1.isSome)
      && decide ((e :: es).length + ([] : List Keyword).length + (if ([] : List Keyword).isEmpty then 0 else 1) < 30)) = true := by rfl)
    (hline : (apos.endLine == pos.line) = true := by rfl) (hs : starEach (e :: es) X.env = (false, eval e X.env) :: starEach es X.env := by rfl) (hplain : (backTo pos (starEach es X.env)).any (·.1) = false := by rfl) :
    PE X (.Call (.Attribute o n apos) (e :: es) [] pos) (tE X.K ca W (iMut g f fs)) := PE.imp (pe_bm PySem.F.plainAttrs_list slot hty hm ho ha hbase hfew hline hs hplain) fun _ _ _ h => mut_imp h
theorem RWs.one {K : PySem.W.Frag} {F : Hp} {m : List Addr} {d : D} {vs : List V} (h : RWs K F m [d] vs) : ∃ v, vs = [v] ∧ RW K F m d v := by
  obtain ⟨v, us, rfl, h, t⟩ := h
  have t' : us = [] := t
  subst t'
  exact ⟨v, rfl, h⟩
theorem m_app : MtR X "list.append" (rm X.K gApp) := by
  intro pins s σ H x xs v us Q I rx rs hh
  obtain ⟨F, m, a, vs, ys, ds, d, zs, rfl, ha, ry, rd, hF, hg, q⟩ := hh
  unfold gApp at hg
  split at hg
  · split at hg
    · rename_i hl
      cases hg
      obtain ⟨u, rfl, ru⟩ := rd.one
      refine mt_append pins s σ H _ _ v us Q I rx rs ⟨a, vs, u, rfl, rfl, ha, ?_, q .non _ rfl (RWs.append ry (RWs.cons ru RWs.nil))⟩
      rw [← ry.length]
      exact Nat.lt_of_lt_of_le hl (sz6 (Nat.le_refl _))
    · cases hg
  · cases hg
end
end Lk
namespace Lk
open PySem L2
structure FK (P : Program) (w : World) (K : PySem.W.Frag) (mg : Str → Option Value) (base : Heap) (ca : Cl → Addr) (k : Nat) (f : Addr) (ps : List Str) (M : Fn) : Prop where
  ok : ∃ fd, FnOk P w K mg base (L2.CX P w) k f fd ps (spF K ca ps.length M) ∧ Binds K fd ps []
  kp : PySem.W.keepIn K (.ref f) = true
structure FT (K : PySem.W.Frag) (x qual : Str) (st : Stmt) (f : Addr) (ps : List Str) : Prop where
  ok : ∃ fd, Fun K x qual st f fd ∧ Binds K fd ps []
section
variable {P : Program} {w : World} {K : PySem.W.Frag} {mg : Str → Option Value} {base : Heap} {ca : Cl → Addr} {k : Nat} {f : Addr} {ps : List Str} {M : Fn}
theorem FK.mono {j : Nat} (h : FK P w K mg base ca k f ps M) (hj : k ≤ j) : FK P w K mg base ca j f ps M := by
  obtain ⟨⟨fd, a, b⟩, c⟩ := h
  exact ⟨⟨fd, a.mono hj, b⟩, c⟩
theorem fk_stuck {x qual : Str} {st : Stmt} (F : FT K x qual st f ps) : FK P w K mg base ca 0 f ps (fun _ _ => .stuck) := by
  obtain ⟨fd, F, b⟩ := F
  refine ⟨⟨fd, ⟨fun vs H Q E h => h.1, fun A outer s H args us vs Q E _ _ _ _ h => ?_⟩, b⟩, F.kp⟩
  obtain ⟨_, B, F0, m, ds, hp, _, _, g⟩ := h
  exact g.elim
theorem fk_ok {x qual : Str} {st : Stmt} {N : List Str} {n j : Nat} {body : I} (F : FT K x qual st f ps) (S : FnScope N ps (defScope st)) (hn : ps.length = n) (hj : N.length = n + j)
    (hb : ∀ (cdv : Value) (A : Around) (outer : List Env) (s : Shared) (H : Hp) (E : XK), Room k (A.deeper (PyProof.Rows.envOfC qual (defScope st) s.heap.objs.size f cdv)) →
      ∀ W : WX, Takes (bodyX P w K mg base N qual st f cdv A outer s H E) W → PassesOwn (model P w) (bodyX P w K mg base N qual st f cdv A outer s H E).A (bodyX P w K mg base N qual st f cdv A outer s H E).env (bodyX P w K mg base N qual st f cdv A outer s H E).xe → PSs (bodyX P w K mg base N qual st f cdv A outer s H E) (defBody st) (tS K ca W body)) :
    FK P w K mg base ca (k + 1) f ps (mkFn n j body) := by
  obtain ⟨fd, F, b⟩ := F
  refine ⟨⟨fd, ?_, b⟩, F.kp⟩
  rw [hn]
  exact fn_ok F S hn hj fun cdv A outer s H E hr W _ tk po => hb cdv A outer s H E hr W tk po
end
section
variable {X : Cx} {ca : Cl → Addr} {W : WX} {e : Expr} {es : List Expr} {fs : List E} {pos p : Pos} {x : Str} {M : Fn} {k j : Nat} {f : Addr} {ps : List Str} {c : Cl}
theorem e_callK (FF : FK X.prog X.w X.K X.mg X.base ca j f ps M) (tk : Takes X W) (hr : Room k X.A) (hg : Gl X x) (hm : X.mg x = some (.ref f)) (ha : PA X (e :: es) (tA X.K ca W fs)) (hl : fs.length = ps.length := by rfl) (hj : j ≤ k := by decide) (hdb : (x == ("__debug__" : Str)) = false := by decide +kernel)
    (he : starEach (e :: es) X.env = (false, eval e X.env) :: starEach es X.env := by rfl) (hpl : (backTo pos (starEach es X.env)).any (·.1) = false := by rfl) : PE X (.Call (.Name x p) (e :: es) [] pos) (tE X.K ca W (iCall M fs)) := by
  obtain ⟨⟨fd, F, b⟩, kp⟩ := FF
  exact e_call F tk (hr.mono hj) hg hm kp b ha hl hdb he hpl
structure CK (K : PySem.W.Frag) (mg : Str → Option Value) (ca : Cl → Addr) (c : Cl) (x : Str) (f : Addr) : Prop where
  made : Mk K (ca c) f
  name : mg x = some (.ref (ca c))
theorem e_newK (C : CK X.K X.mg ca c x f) (FF : FK X.prog X.w X.K X.mg X.base ca j f ps M) (tk : Takes X W) (hr : Room k X.A) (hg : Gl X x) (ha : PA X (e :: es) (tA X.K ca W fs)) (hl : fs.length + 1 = ps.length := by rfl) (hj : j + 1 ≤ k := by decide) (hdb : (x == ("__debug__" : Str)) = false := by decide +kernel)
    (he : starEach (e :: es) X.env = (false, eval e X.env) :: starEach es X.env := by rfl) (hpl : (backTo pos (starEach es X.env)).any (·.1) = false := by rfl) : PE X (.Call (.Name x p) (e :: es) [] pos) (tE X.K ca W (iNew c M fs)) := by
  obtain ⟨⟨fd, F, b⟩, kp⟩ := FF
  exact e_new C.made F tk (hr.mono hj) hg C.name b ha hl hdb he hpl
theorem mok (cl : Cls X.K (ca c)) {m : Str} (mt : Meth X.K (ca c) m f) (FF : FK X.prog X.w X.K X.mg X.base ca j f ps M) (hr : Room k X.A) (hj : j ≤ k := by decide) {n : Nat} (hn : ps.length = n := by rfl) : MOk X ca m n c M := by
  obtain ⟨⟨fd, F, b⟩, kp⟩ := FF
  subst hn
  exact ⟨f, j, fd, ps, rfl, cl, mt, F, hr.mono hj, b⟩
theorem mok_nil {m : Str} {n : Nat} : ∀ c M, (c, M) ∈ ([] : List (Cl × Fn)) → MOk X ca m n c M := fun c M h => by cases h
theorem mok_cons {m : Str} {n : Nat} {tbl : List (Cl × Fn)} (h : MOk X ca m n c M) (t : ∀ c M, (c, M) ∈ tbl → MOk X ca m n c M) : ∀ c' M', (c', M') ∈ (c, M) :: tbl → MOk X ca m n c' M' := fun c' M' q => by
  rcases List.mem_cons.mp q with e | e
  · cases e; exact h
  · exact t c' M' e
end
theorem bt_len : bootBuiltins "len" = some (.builtin "len") := by decide +kernel
theorem bt_max : bootBuiltins "max" = some (.builtin "max") := by decide +kernel
theorem bt_all : bootBuiltins "all" = some (.builtin "all") := by decide +kernel
theorem bt_sorted : bootBuiltins "sorted" = some (.builtin "sorted") := by decide +kernel
theorem bt_list : bootBuiltins "list" = some (.type "list") := by decide +kernel
theorem bt_tuple : bootBuiltins "tuple" = some (.type "tuple") := by decide +kernel
theorem bt_int : bootBuiltins "int" = some (.type "int") := by decide +kernel
theorem bt_bool : bootBuiltins "bool" = some (.type "bool") := by decide +kernel
theorem bt_str : bootBuiltins "str" = some (.type "str") := by decide +kernel
theorem no_cx {P : Program} {w : World} {l : List Env} {H : Hp} {s : Shared} {e : Value} {s' : Shared} (h : L2.CX P w l H s (fun _ _ _ => False) e s') : False := by
  obtain ⟨_, _, _, _, _, _, _, _, _, _, _, _, z⟩ := h
  exact z.elim
def Cl.nm : Cl → Str
  | .lateError => "LateError" | .noState => "NoState" | .noWish => "NoWish" | .noText => "NoText" | .tooGreat => "TooGreat" | .world => "World" | .rule => "Rule" | .bound => "Bound"
  | .hire => "Hire" | .buyer => "Buyer" | .line => "Line" | .both => "Both" | .nearest => "Nearest" | .shelf => "Shelf" | .front => "Front" | .ways => "Ways" | .changer => "Changer"
  | .store => "Store" | .keeper => "Keeper" | .bags => "Bags" | .filler => "Filler"
def caOf (K : PySem.W.Frag) (c : Cl) : Addr := match PySem.W.nsIn K mainGlobals c.nm with
  | some (some (.ref a)) => a
  | _ => 0
theorem caOf_eq {K : PySem.W.Frag} {c : Cl} {C : Addr} (h : PySem.W.nsIn K mainGlobals c.nm = some (some (.ref C))) : C = caOf K c := by
  unfold caOf
  rw [h]
theorem sub_rd_none {K : PySem.W.Frag} {H : Hp} (h : Only H) : Cor K (caOf K) (fun _ => none) H [] ⟨[], []⟩ [] H :=
  ⟨Sub.refl H, fun a o e => (by cases e), fun a o e => (by cases e), List.nodup_nil, fun a ha => (by cases ha), fun a ha => (by cases ha), rfl, fun n o a e => (by simp at e), rfl, fun i x e => (by simp at e), fun i j a x y e => (by simp at e)⟩
theorem law_walk {l : PySem.W.OpenLaw} {q : Program} {loose : List Str} {XP : (Str → Option Value) → Heap → Prop} {YP : World → Heap → Prop} {d : DefRec} {K : Params → PySem.W.Frag} {M : Fn} {x : Str} {k : Nat}
    (hn : l.most = some 63) (hdf : d.params.defaults = []) (hk : Room k callerA) (hY : ∀ (w : World) (h : Heap), YP w h → (K w.params).In h)
    (F : ∀ (w : World) (mg : Str → Option Value) (fa : Addr) (h : Heap), (K w.params).In h → h.Ns mainGlobals mg → mg d.name = some (.ref fa) →
      ∃ (fd : FuncData), (∀ (s : Shared) (u : Value), BindsTo s fd ⟨[u], []⟩ [(x, u)]) ∧
        ∀ base : Heap, (K w.params).In base → base.Ns mainGlobals mg → FnOk l.prog w (K w.params) mg base (L2.CX l.prog w) k fa fd [x] (spF (K w.params) (caOf (K w.params)) 1 M))
    (hM : ∀ ns : List Int, ns.length ≤ 63 → (∀ z ∈ ns, Builtin.Int.intBits z ≤ 1048576) → ∃ hp, M [.rol ns] [] = .ok (.v (.bl true)) hp) :
    PySem.W.WalkO q loose XP YP l.row.toRowW d [] (fun f vs => PySem.call f vs) := by
  refine L2.walk_ofB (n := 63) (k := k) (x := x) (CX := fun w => L2.CX l.prog w) (sp := fun w => spF (K w.params) (caOf (K w.params)) 1 M) hn (by decide) hdf hk hY F ?_ fun w H s e s' h => no_cx h
  intro w H a ns hl hb ho hs
  refine ⟨rfl, fun _ => none, H, [], [.rol ns], [], sub_rd_none ho, RWs.cons ⟨a, rfl, hs⟩ RWs.nil, ?_⟩
  obtain ⟨hp, e⟩ := hM ns hl hb
  rw [e]
  intro F' m' H' v _ _ _ r
  exact r
end Lk
namespace Lk
open PySem L2
mutual
def noRef : D → Bool
  | .ref _ => false
  | .tup xs => noRefs xs
  | .pr xs => noRefs xs
  | .lst xs => noRefs xs
  | _ => true
def noRefs : List D → Bool
  | [] => true
  | x :: xs => noRef x && noRefs xs
end
def isFlat : D → Bool
  | .non => true
  | .bl _ => true
  | .int _ => true
  | .str _ => true
  | _ => false
section
variable {K : PySem.W.Frag} {F : Hp} {m : List Addr}
end
def rdvL (s : Sx) : RX → Option D
  | .w d => some d
  | .sl i => match s.env[i]? with
    | some (.own xs) => some (.lst xs)
    | _ => none
  | _ => none
def rdvLs (s : Sx) : List RX → Option (List D)
  | [] => some []
  | r :: rs => match rdvL s r, rdvLs s rs with
    | some d, some ds => some (d :: ds)
    | _, _ => none
open Classical in
noncomputable def lent (F : Hp) (s : Sx) (σ : St) (H : Hp) : Hp := fun b => if F b = none ∧ ∃ (i : Nat) (xs : List D), s.env[i]? = some (.own xs) ∧ σ[i]? = some (some (.ref b)) then H b else F b
section
variable {K : PySem.W.Frag} {ca : Cl → Addr} {B F : Hp} {m : List Addr} {s : Sx} {σ : St} {H : Hp}
end
section
variable {X : Cx} {ca : Cl → Addr} {W : WX} {e : Expr} {es : List Expr} {fs : List E} {pos p : Pos} {x : Str} {M : Fn} {k j : Nat} {f : Addr} {ps : List Str}
theorem HRs.length {K : PySem.W.Frag} {F : Hp} {m : List Addr} {σ : St} : ∀ {rs : List RX} {vs : List V}, HRs K F m σ rs vs → rs.length = vs.length
  | [], _, h => by
    have h' : _ = [] := h
    rw [h'] <;> rfl
  | r :: rs, _, ⟨v, us, e, h, t⟩ => by rw [e, List.length_cons, List.length_cons, HRs.length t]
end
theorem hu30 {A : Around} {k : Nat} (hr : Room k A) : A.units + 30 < cLine := by
  have := hr.un
  omega
def ConstAt (mg : Str → Option Value) (x : Str) (v : V) : Prop := ∃ u, RelV v u ∧ mg x = some u
theorem nobehind' {op : CmpOp} (h : op ≠ .In) (h2 : op ≠ .NotIn) {b : Expr} : behindInMarks op b = false := nobehind b h h2
def iDct : E := fun s => .ok .frd s
section
variable {X : Cx} {ca : Cl → Addr} {W : WX} {pos : Pos} {x : Str}
theorem e_gint' {n : Int} (hg : Gl X x) (hm : ConstAt X.mg x (.int n)) (hd : (x == ("__debug__" : Str)) = false := by decide +kernel) : PE X (.Name x pos) (tE X.K ca W (iC (.int n))) := by
  obtain ⟨u, r, e⟩ := hm
  exact e_c (v := .int n) (pe_glob hg e r hd) fun _ _ _ => rfl
theorem e_gstr' {z : Str} (hg : Gl X x) (hm : ConstAt X.mg x (.str z)) (hd : (x == ("__debug__" : Str)) = false := by decide +kernel) : PE X (.Name x pos) (tE X.K ca W (iC (.str z))) := by
  obtain ⟨u, r, e⟩ := hm
  exact e_c (v := .str z) (pe_glob hg e r hd) fun _ _ _ => rfl
end
end Lk
namespace Lk
theorem loop_cons {tg : Tgt} {body : I} {all xs : List D} {x : D} {s : Sx} : loop tg body .val all (x :: xs) s = (match tg x s with
      | some s1 => match body s1 with
        | .nx s2 => loop tg body .val all xs s2
        | .cnt s2 => loop tg body .val all xs s2
        | .brk s2 => .nx s2
        | .ret r s2 => .ret r s2
        | .exc c d s2 => .exc c d s2
        | .stuck => .stuck
      | none => .stuck) := rfl
theorem loop_go {tg : Tgt} {body : I} {all : List D} (Inv : Nat → Sx → Prop) : ∀ (xs : List D) (k : Nat) (s : Sx), Inv k s →
    (∀ (i : Nat) (x : D) (s : Sx), xs[i]? = some x → Inv (k + i) s → ∃ s1 s2, tg x s = some s1 ∧ (body s1 = .nx s2 ∨ body s1 = .cnt s2) ∧ Inv (k + i + 1) s2) →
    ∃ s', loop tg body .val all xs s = .nx s' ∧ Inv (k + xs.length) s' := by
  intro xs
  induction xs with
  | nil => exact fun k s h _ => ⟨s, rfl, h⟩
  | cons x xs ih =>
    intro k s h st
    obtain ⟨s1, s2, e1, e2, h2⟩ := st 0 x s rfl h
    have st' : ∀ (i : Nat) (y : D) (s : Sx), xs[i]? = some y → Inv (k + 1 + i) s → ∃ s1 s2, tg y s = some s1 ∧ (body s1 = .nx s2 ∨ body s1 = .cnt s2) ∧ Inv (k + 1 + i + 1) s2 := fun i y s hy hi => by
      have q := st (i + 1) y s (by simpa using hy) (by rw [show k + (i + 1) = k + 1 + i by omega]; exact hi)
      rw [show k + (i + 1) + 1 = k + 1 + i + 1 by omega] at q
      exact q
    obtain ⟨s', e3, h3⟩ := ih (k + 1) s2 h2 st'
    refine ⟨s', ?_, by rw [List.length_cons, show k + (xs.length + 1) = k + 1 + xs.length by omega]; exact h3⟩
    rw [loop_cons, e1]
    rcases e2 with e2 | e2
    · simp only [e2]; exact e3
    · simp only [e2]; exact e3
theorem rngD_get {lo : Int} {n i : Nat} {x : D} (h : (rngD lo n)[i]? = some x) : i < n ∧ x = .int (lo + i) := by
  unfold rngD at h
  rw [List.getElem?_map] at h
  by_cases hi : i < n
  · rw [List.getElem?_eq_getElem (by simpa using hi)] at h
    simp only [Option.map_some, Option.some.injEq, List.getElem_range] at h
    exact ⟨hi, h.symm⟩
  · rw [List.getElem?_eq_none (by simpa using Nat.le_of_not_lt hi)] at h
    cases h
theorem rngD_length {lo : Int} {n : Nat} : (rngD lo n).length = n := by
  unfold rngD; simp
theorem for_ok {q : Sq} {tg : Tgt} {body : I} {s s1 : Sx} {xs : List D} {src : Src} {r : SR} (h : q s = .ok (xs, src) s1) (k : loop tg body src xs xs s1 = r) : iFor q tg body s = r := by
  unfold iFor thenS; rw [h]; exact k
theorem r1_ok {f : E} {s s1 : Sx} {j : Int} {n : Nat} (h : arg f s = .ok (.int j) s1) (e : j = (n : Int)) (hn : n < 4611686018427387904) : qR1 f s = .ok (rngD 0 n, .val) s1 := by
  unfold qR1 Rs.bind
  rw [h]
  subst e
  have a : -(2 ^ 62) ≤ (n : Int) ∧ (n : Int) < 2 ^ 62 := by omega
  show (if dec (-(2 ^ 62) ≤ (n : Int) ∧ (n : Int) < 2 ^ 62) = true then _ else _) = _
  rw [if_pos (dec_of a), Int.toNat_natCast]
theorem r2_ok {f g : E} {s s1 : Sx} {i j : Int} {n : Nat} (h : args [f, g] s = .ok [.int i, .int j] s1) (e : (j - i).toNat = n) (hi : -4611686018427387904 ≤ i ∧ i < 4611686018427387904) (hj : -4611686018427387904 ≤ j ∧ j < 4611686018427387904) : qR2 f g s = .ok (rngD i n, .val) s1 := by
  unfold qR2 Rs.bind
  rw [h]
  subst e
  have a : -(2 ^ 62) ≤ i ∧ i < 2 ^ 62 ∧ -(2 ^ 62) ≤ j ∧ j < 2 ^ 62 := by omega
  show (if dec (-(2 ^ 62) ≤ i ∧ i < 2 ^ 62 ∧ -(2 ^ 62) ≤ j ∧ j < 2 ^ 62) = true then _ else _) = _
  rw [if_pos (dec_of a)]
theorem gset {hp : List Ob} {n : Nat} {o : Ob} (e : hp[n]? = some o) (y : Ob) : (hp.set n y)[n]? = some y := by
  have hl : n < hp.length := (List.getElem?_eq_some_iff.mp e).1
  simp [hl]
theorem set_app {α : Type} (l r : List α) (n : Nat) (x : α) (h : n < l.length) : (l ++ r).set n x = l.set n x ++ r := by
  rw [List.set_append, if_pos h]
theorem get_app {α : Type} (l r : List α) (n : Nat) (h : n < l.length) : (l ++ r)[n]? = l[n]? := List.getElem?_append_left h
def Bits (k : Nat) (i : Int) : Prop := i.natAbs < 2 ^ k
theorem Bits.mono {j k : Nat} {i : Int} (h : Bits j i) (hk : j ≤ k) : Bits k i := Nat.lt_of_lt_of_le h (Nat.pow_le_pow_right (by decide) hk)
theorem Bits.add {k : Nat} {i j : Int} (a : Bits k i) (b : Bits k j) : Bits (k + 1) (i + j) := by
  unfold Bits at a b ⊢
  have h : (i + j).natAbs ≤ i.natAbs + j.natAbs := Int.natAbs_add_le i j
  rw [Nat.pow_succ]
  omega
theorem log2_lt {a k : Nat} (hk : 0 < k) (h : a < 2 ^ k) : a.log2 < k := by
  by_cases h0 : a = 0
  · subst h0; simpa using hk
  · exact (Nat.log2_lt h0).mpr h
theorem mulOk_of {k l : Nat} {i j : Int} (a : Bits k i) (b : Bits l j) (h : k + l < 90000000) : mulOk i j = true := by
  have x := log2_lt (k := k + 1) (by omega) (Nat.lt_of_lt_of_le a (Nat.pow_le_pow_right (by decide) (Nat.le_succ k)))
  have y := log2_lt (k := l + 1) (by omega) (Nat.lt_of_lt_of_le b (Nat.pow_le_pow_right (by decide) (Nat.le_succ l)))
  unfold mulOk
  exact dec_of (by omega)
theorem Bits.small {i : Int} {n k : Nat} (h : i.natAbs ≤ n) (hn : n < 2 ^ k) : Bits k i := Nat.lt_of_le_of_lt h hn
theorem bits_int {z : Int} (h : PySem.Builtin.Int.intBits z ≤ 1048576) : Bits 1048577 z := by
  unfold PySem.Builtin.Int.intBits at h
  unfold Bits
  by_cases h0 : z.natAbs = 0
  · rw [h0]; exact Nat.two_pow_pos _
  · have e : z.natAbs.log2 < 1048577 := by
      split at h
      · rename_i q; simp_all
      · omega
    exact (Nat.log2_lt h0).mp e
@[simp] theorem weqS_non_non  : weqS .non .non = some (true) := rfl
@[simp] theorem weqF_non_non (n : Nat)  : weqF n .non .non = some (true) := by cases n <;> rfl
@[simp] theorem weq_non_non  : weq .non .non = some (true) := rfl
@[simp] theorem mixed_non_non  : mixed .non .non = false := rfl
@[simp] theorem weqS_non_bl (b : Bool) : weqS .non (.bl b) = some (false) := rfl
@[simp] theorem weqF_non_bl (n : Nat) (b : Bool) : weqF n .non (.bl b) = some (false) := by cases n <;> rfl
@[simp] theorem weq_non_bl (b : Bool) : weq .non (.bl b) = some (false) := rfl
@[simp] theorem mixed_non_bl (b : Bool) : mixed .non (.bl b) = false := rfl
@[simp] theorem weqS_non_int (b : Int) : weqS .non (.int b) = some (false) := rfl
@[simp] theorem weqF_non_int (n : Nat) (b : Int) : weqF n .non (.int b) = some (false) := by cases n <;> rfl
@[simp] theorem weq_non_int (b : Int) : weq .non (.int b) = some (false) := rfl
@[simp] theorem mixed_non_int (b : Int) : mixed .non (.int b) = false := rfl
@[simp] theorem weqS_non_str (b : PySem.Str) : weqS .non (.str b) = some (false) := rfl
@[simp] theorem weqF_non_str (n : Nat) (b : PySem.Str) : weqF n .non (.str b) = some (false) := by cases n <;> rfl
@[simp] theorem weq_non_str (b : PySem.Str) : weq .non (.str b) = some (false) := rfl
@[simp] theorem mixed_non_str (b : PySem.Str) : mixed .non (.str b) = false := rfl
@[simp] theorem weqS_bl_non (a : Bool) : weqS (.bl a) .non = some (false) := rfl
@[simp] theorem weqF_bl_non (n : Nat) (a : Bool) : weqF n (.bl a) .non = some (false) := by cases n <;> rfl
@[simp] theorem weq_bl_non (a : Bool) : weq (.bl a) .non = some (false) := rfl
@[simp] theorem mixed_bl_non (a : Bool) : mixed (.bl a) .non = false := rfl
@[simp] theorem weqS_bl_bl (a : Bool) (b : Bool) : weqS (.bl a) (.bl b) = some (decide (a = b)) := rfl
@[simp] theorem weqF_bl_bl (n : Nat) (a : Bool) (b : Bool) : weqF n (.bl a) (.bl b) = some (decide (a = b)) := by cases n <;> rfl
@[simp] theorem weq_bl_bl (a : Bool) (b : Bool) : weq (.bl a) (.bl b) = some (decide (a = b)) := rfl
@[simp] theorem mixed_bl_bl (a : Bool) (b : Bool) : mixed (.bl a) (.bl b) = false := rfl
@[simp] theorem weqS_bl_int (a : Bool) (b : Int) : weqS (.bl a) (.int b) = some (decide (b2 a = b)) := rfl
@[simp] theorem weqF_bl_int (n : Nat) (a : Bool) (b : Int) : weqF n (.bl a) (.int b) = some (decide (b2 a = b)) := by cases n <;> rfl
@[simp] theorem weq_bl_int (a : Bool) (b : Int) : weq (.bl a) (.int b) = some (decide (b2 a = b)) := rfl
@[simp] theorem mixed_bl_int (a : Bool) (b : Int) : mixed (.bl a) (.int b) = true := rfl
@[simp] theorem weqS_bl_str (a : Bool) (b : PySem.Str) : weqS (.bl a) (.str b) = some (false) := rfl
@[simp] theorem weqF_bl_str (n : Nat) (a : Bool) (b : PySem.Str) : weqF n (.bl a) (.str b) = some (false) := by cases n <;> rfl
@[simp] theorem weq_bl_str (a : Bool) (b : PySem.Str) : weq (.bl a) (.str b) = some (false) := rfl
@[simp] theorem mixed_bl_str (a : Bool) (b : PySem.Str) : mixed (.bl a) (.str b) = false := rfl
@[simp] theorem weqS_int_non (a : Int) : weqS (.int a) .non = some (false) := rfl
@[simp] theorem weqF_int_non (n : Nat) (a : Int) : weqF n (.int a) .non = some (false) := by cases n <;> rfl
@[simp] theorem weq_int_non (a : Int) : weq (.int a) .non = some (false) := rfl
@[simp] theorem mixed_int_non (a : Int) : mixed (.int a) .non = false := rfl
@[simp] theorem weqS_int_bl (a : Int) (b : Bool) : weqS (.int a) (.bl b) = some (decide (a = b2 b)) := rfl
@[simp] theorem weqF_int_bl (n : Nat) (a : Int) (b : Bool) : weqF n (.int a) (.bl b) = some (decide (a = b2 b)) := by cases n <;> rfl
@[simp] theorem weq_int_bl (a : Int) (b : Bool) : weq (.int a) (.bl b) = some (decide (a = b2 b)) := rfl
@[simp] theorem mixed_int_bl (a : Int) (b : Bool) : mixed (.int a) (.bl b) = true := rfl
@[simp] theorem weqS_int_int (a : Int) (b : Int) : weqS (.int a) (.int b) = some (decide (a = b)) := rfl
@[simp] theorem weqF_int_int (n : Nat) (a : Int) (b : Int) : weqF n (.int a) (.int b) = some (decide (a = b)) := by cases n <;> rfl
@[simp] theorem weq_int_int (a : Int) (b : Int) : weq (.int a) (.int b) = some (decide (a = b)) := rfl
@[simp] theorem mixed_int_int (a : Int) (b : Int) : mixed (.int a) (.int b) = false := rfl
@[simp] theorem weqS_int_str (a : Int) (b : PySem.Str) : weqS (.int a) (.str b) = some (false) := rfl
@[simp] theorem weqF_int_str (n : Nat) (a : Int) (b : PySem.Str) : weqF n (.int a) (.str b) = some (false) := by cases n <;> rfl
@[simp] theorem weq_int_str (a : Int) (b : PySem.Str) : weq (.int a) (.str b) = some (false) := rfl
@[simp] theorem mixed_int_str (a : Int) (b : PySem.Str) : mixed (.int a) (.str b) = false := rfl
@[simp] theorem weqS_str_non (a : PySem.Str) : weqS (.str a) .non = some (false) := rfl
@[simp] theorem weqF_str_non (n : Nat) (a : PySem.Str) : weqF n (.str a) .non = some (false) := by cases n <;> rfl
@[simp] theorem weq_str_non (a : PySem.Str) : weq (.str a) .non = some (false) := rfl
@[simp] theorem mixed_str_non (a : PySem.Str) : mixed (.str a) .non = false := rfl
@[simp] theorem weqS_str_bl (a : PySem.Str) (b : Bool) : weqS (.str a) (.bl b) = some (false) := rfl
@[simp] theorem weqF_str_bl (n : Nat) (a : PySem.Str) (b : Bool) : weqF n (.str a) (.bl b) = some (false) := by cases n <;> rfl
@[simp] theorem weq_str_bl (a : PySem.Str) (b : Bool) : weq (.str a) (.bl b) = some (false) := rfl
@[simp] theorem mixed_str_bl (a : PySem.Str) (b : Bool) : mixed (.str a) (.bl b) = false := rfl
@[simp] theorem weqS_str_int (a : PySem.Str) (b : Int) : weqS (.str a) (.int b) = some (false) := rfl
@[simp] theorem weqF_str_int (n : Nat) (a : PySem.Str) (b : Int) : weqF n (.str a) (.int b) = some (false) := by cases n <;> rfl
@[simp] theorem weq_str_int (a : PySem.Str) (b : Int) : weq (.str a) (.int b) = some (false) := rfl
@[simp] theorem mixed_str_int (a : PySem.Str) (b : Int) : mixed (.str a) (.int b) = false := rfl
@[simp] theorem weqS_str_str (a : PySem.Str) (b : PySem.Str) : weqS (.str a) (.str b) = some (decide (a = b)) := rfl
@[simp] theorem weqF_str_str (n : Nat) (a : PySem.Str) (b : PySem.Str) : weqF n (.str a) (.str b) = some (decide (a = b)) := by cases n <;> rfl
@[simp] theorem weq_str_str (a : PySem.Str) (b : PySem.Str) : weq (.str a) (.str b) = some (decide (a = b)) := rfl
@[simp] theorem mixed_str_str (a : PySem.Str) (b : PySem.Str) : mixed (.str a) (.str b) = false := rfl
@[simp] theorem mixed_tup (xs ys : List D) : mixed (.tup xs) (.tup ys) = false := rfl
@[simp] theorem mixed_lst (xs ys : List D) : mixed (.lst xs) (.lst ys) = false := rfl
end Lk
namespace Lk
open PySem L2
def isSub (c C : Cl) : Bool := if c = C then true else decide (C = .lateError)
structure XC (K : PySem.W.Frag) (mg : Str → Option Value) (ca : Cl → Addr) (fI : Addr) (c : Cl) : Prop where
  name : mg c.nm = some (.ref (ca c))
  oex : OexC K (ca c)
  ini : PySem.W.findIn K (.ref (ca c)) "__init__" = some (some (.ref fI))
  row : PySem.W.findIn K (.ref (ca c)) "row" = some none
  xf : XfC K (ca c)
  isc : PySem.W.isClsIn K (ca c) = true
  cls : PySem.W.findIn K (.ref (ca c)) "__class__" = some (some (.builtin "object.__class__"))
  mro : PySem.W.mroIn K (ca c) (.type "object") = some true
  ve : PySem.W.kitOne K (.ref (ca c)) (.type "ValueError") = some true
structure XA (K : PySem.W.Frag) (mg : Str → Option Value) (ca : Cl → Addr) (fI : Addr) (ex : Cl → Bool) : Prop where
  one : ∀ c, ex c = true → XC K mg ca fI c
  sub : ∀ c C, ex c = true → ex C = true → PySem.W.subIn K (.ref (ca c)) (.ref (ca C)) = some (isSub c C)
  tI : PySem.W.typeIn K (.ref fI) = some (.type "function")
  gn : PySem.W.specialIn K (.builtin "object.__class__") "__get__" = some (some (.builtin "getset_descriptor.__get__"))
  gt : PySem.W.takesIn K (.builtin "object.__class__") = some true
  vV : PySem.W.findCls K (.type "ValueError") (.type "type") "__init__" = some (.val (.builtin "ValueError.__init__"))
  bV : mg "ValueError" = none
theorem XA.exm {K : PySem.W.Frag} {mg : Str → Option Value} {ca : Cl → Addr} {fI : Addr} {ex : Cl → Bool} (T : XA K mg ca fI ex) {c C : Cl} (hc : ex c = true) (hC : ex C = true) : PySem.W.exmOne K (.ref (ca c)) (.ref (ca C)) = some (isSub c C) :=
  PySem.W.exm_ref (T.one C hC).oex.exC (T.one C hC).xf.hdC (T.one C hC).oex.tyC (T.sub c C hc hC)
def spOx (K : PySem.W.Frag) (ca : Cl → Addr) : Sp := fun vs H Q _ => ∃ (a : Addr) (c : Cl) (v : V), vs = [.ref a, v] ∧ OexC K (ca c) ∧ PySem.W.findIn K (.ref (ca c)) (Fl.nm .row) = some none ∧ H a = some (exo a (ca c) none) ∧
  ∀ dx, H dx = none → dx ≠ a → Q .non (upd (upd H dx (exd dx [(Fl.nm .row, v)])) a (exo a (ca c) (some dx)))
def tXi (K : PySem.W.Frag) : TS := tSeq (tDrop (tVeI K (tCons (tVar 0) (tCons (tC (.str "refused")) tNil)))) (tOst K (Fl.nm .row) (tVar 0) (tVar 1))
structure FX (P : Program) (w : World) (K : PySem.W.Frag) (mg : Str → Option Value) (base : Heap) (ca : Cl → Addr) (k : Nat) (f : Addr) : Prop where
  ok : ∃ fd ds, FnOk P w K mg base (L2.CX P w) k f fd ["self", "row"] (spOx K ca) ∧ Vals [.non] ds ∧ Binds K fd ["self", "row"] [] ∧ Binds K fd ["self", "row"] ds
structure FTX (K : PySem.W.Frag) (x qual : Str) (st : Stmt) (f : Addr) : Prop where
  ok : ∃ fd ds, FunD K x qual (defArgs st) (defBody st) (defScope st) [.non] [] f fd ∧ Vals [.non] ds ∧ Binds K fd ["self", "row"] [] ∧ Binds K fd ["self", "row"] ds
theorem ftx_mk {K : PySem.W.Frag} {x qual : Str} {st : Stmt} {f : Addr} {fd : FuncData} (F : FunD K x qual (defArgs st) (defBody st) (defScope st) [.non] [] f fd)
    (h1 : ∀ (T : Addr) (kV doc pm : Value) (an : Option Addr) (cdv ct : Value) (us its : List Value), us.length = 1 → its.length = 1 → ∃ k, bindArgs (PySem.W.fnOf x qual (defArgs st) (defBody st) (defScope st) (.ref T) kV doc pm an cdv ct) ⟨us, []⟩ = seqItems? (.ref T) >>= k ∧ k (some its.toArray) = pure ((["self", "row"] : List Str).zip (us ++ its.drop 0)))
    (h2 : ∀ (T : Addr) (kV doc pm : Value) (an : Option Addr) (cdv ct : Value) (us its : List Value), us.length = 2 → its.length = 1 → ∃ k, bindArgs (PySem.W.fnOf x qual (defArgs st) (defBody st) (defScope st) (.ref T) kV doc pm an cdv ct) ⟨us, []⟩ = seqItems? (.ref T) >>= k ∧ k (some its.toArray) = pure ((["self", "row"] : List Str).zip (us ++ its.drop 1))) : FTX K x qual st f := by
  obtain ⟨ds, a, b⟩ := F.binds1 (ps := ["self", "row"]) 1 0 (by simp) rfl h1
  obtain ⟨es, c, d⟩ := F.binds1 (ps := ["self", "row"]) 2 1 (by simp) rfl h2
  cases c
  exact ⟨fd, ds, F, a, d, b⟩
theorem fx_ok {P : Program} {w : World} {K : PySem.W.Frag} {mg : Str → Option Value} {base : Heap} {ca : Cl → Addr} {f : Addr} {k : Nat} {x qual : Str} {st : Stmt} (F : FTX K x qual st f) (S : FnScope ["self", "row"] ["self", "row"] (defScope st))
    (hb : ∀ (cdv : Value) (A : Around) (outer : List Env) (s : Shared) (H : Hp) (E : XK), PSs (bodyX P w K mg base ["self", "row"] qual st f cdv A outer s H E) (defBody st) (tXi K)) :
    FX P w K mg base ca (k + 1) f := by
  obtain ⟨fd, ds, F, h1, h0, h2⟩ := F.ok
  refine ⟨fd, ds, F.ok S (fun vs H Q E h => ?_) fun cdv A outer s H vs Q E hr h => ⟨_, hb cdv A outer s H E, ?_⟩, h1, h0, h2⟩
  · obtain ⟨a, c, v, rfl, _⟩ := h; rfl
  · obtain ⟨a, c, v, rfl, T, hn, ha, q⟩ := h
    refine ⟨_, rfl, a, ca c, [.str "refused"], rfl, by simp, T, ha, ?_⟩
    refine ⟨_, rfl, _, rfl, a, ca c, rfl, T, hn, .inl ⟨ha, fun dx n e => q dx n e⟩⟩
theorem FX.mono {P : Program} {w : World} {K : PySem.W.Frag} {mg : Str → Option Value} {base : Heap} {ca : Cl → Addr} {f : Addr} {j k : Nat} (h : FX P w K mg base ca j f) (hj : j ≤ k) : FX P w K mg base ca k f := by
  obtain ⟨fd, ds, a, b⟩ := h.ok
  exact ⟨fd, ds, a.mono hj, b⟩
section
variable {X : Cx} {ca : Cl → Addr} {W : WX} {ex : Cl → Bool} {fI : Addr} {c : Cl} {j k : Nat} {x : Str} {e : Expr} {f : E} {p pos pos2 : Pos}
def mkGoal (C : Addr) (vs : List V) (H1 : Hp) (sp : Sp) (Q : XK) : Prop := ∀ a, H1 a = none → sp (.ref a :: vs) (upd H1 a (exo a C none))
  (fun v H2 => v = .non ∧ ∃ (d : Addr) (fs : List (Str × V)), H2 a = some (exo a C (some d)) ∧ H2 d = some (exd d fs) ∧ H1 d = none ∧ Q (.ref C) (some d) (upd (del H2 a) d (.xd fs))) (fun _ _ _ => False)
theorem mk_goal (T : XC X.K X.mg ca fI c) {v : V} {H1 : Hp} {Q : XK} (h : ∀ d, H1 d = none → Q (.ref (ca c)) (some d) (upd H1 d (.xd [(Fl.nm .row, v)]))) : mkGoal (ca c) [v] H1 (spOx X.K ca) Q := by
  intro a ha
  refine ⟨a, c, v, rfl, T.oex, T.row, upd_same, fun dx n e => ⟨rfl, dx, [(Fl.nm .row, v)], upd_same, ?_, ?_, ?_⟩⟩
  · rw [upd_ne e, upd_same]
  · rw [upd_ne e] at n; exact n
  · rw [upd_ne e] at n
    have q : upd (del (upd (upd (upd H1 a (exo a (ca c) none)) dx (exd dx [(Fl.nm .row, v)])) a (exo a (ca c) (some dx))) a) dx (.xd [(Fl.nm .row, v)]) = upd H1 dx (.xd [(Fl.nm .row, v)]) := by
      funext b
      by_cases h1 : b = dx
      · rw [h1, upd_same, upd_same]
      · rw [upd_ne h1, upd_ne h1]
        by_cases h2 : b = a
        · rw [h2, del_same, ha]
        · rw [del_ne h2, upd_ne h2, upd_ne h1, upd_ne h2]
    rw [q]
    exact h dx n
theorem mk_call {fd : FuncData} {ds us : List Value} {vs dvs : List V} {H1 : Hp} {pins : List (Addr × Obj)} {σ : St} {Q : XK} {s1 : Shared} {sp : Sp} (T : XA X.K X.mg ca fI ex) (hc : ex c = true)
    (F1 : FnOk X.prog X.w X.K X.mg X.base (L2.CX X.prog X.w) k fI fd ["self", "row"] sp) (hr : Room (k + 1) X.A) (hb : Binds X.K fd ["self", "row"] ds) (hd : Vals dvs ds) (I1 : Inv X pins σ H1 s1) (r1 : Vals vs us) (hus : us.length ≤ 2)
    (q1 : mkGoal (ca c) (vs ++ dvs) H1 sp Q) : wpAny (model X.prog X.w) X.A (call (.ref (ca c)) us) (MkP X pins σ Q) X.xe s1 := by
  obtain ⟨hp, g, dr, tk, os⟩ := s1
  obtain ⟨nm, q, N, bs, bm, sn, sub, ab, col, dd, k0, k1, k2, k3, k5, hC, hbm⟩ := (T.one c hc).oex.cls
  have h0 : H1 (hp.objs.size + 1) = none := I1.hok.fresh (Nat.le_succ _)
  have go := q1 (hp.objs.size + 1) h0
  have old : ∀ b o, hp.get? b = some o →
      ((hp.push (PySem.W.kdv_tup us)).push (PySem.HandSPX.excO (ca c) hp.objs.size)).get? b = some o := fun b o z => Heap.get?_push_of_some _ (Heap.get?_push_of_some _ z)
  have at1 : ((hp.push (PySem.W.kdv_tup us)).push (PySem.HandSPX.excO (ca c) hp.objs.size)).get? (hp.objs.size + 1)
      = some (PySem.HandSPX.excO (ca c) hp.objs.size) := by heap_get
  have I2 : Inv X pins σ (upd H1 (hp.objs.size + 1) (exo (hp.objs.size + 1) (ca c) none))
      ⟨(hp.push (PySem.W.kdv_tup us)).push (PySem.HandSPX.excO (ca c) hp.objs.size), g, dr, tk, os⟩ :=
    I1.laid (t' := tk) (a := hp.objs.size + 1) (o := exo (hp.objs.size + 1) (ca c) none) old (Nat.le_succ _) (exo_ok at1)
  have r2 : Vals (.ref (hp.objs.size + 1) :: (vs ++ dvs)) (Value.ref (hp.objs.size + 1) :: (us ++ ds)) := .cons rfl (r1.append hd)
  have hl : (Value.ref (hp.objs.size + 1) :: us ++ ds).length = 2 := by
    have z := r2.length
    rw [F1.len _ _ _ _ go] at z
    exact z.symm
  have hsz : us.length ≤ sizeLine := by rw [sizeLine_eq]; omega
  refine wpAny_call (PySem.HandSPX.call_own F.excBase_ValueError (fun Y => PySem.HandSPX.refsVE_contains Y bm hbm) (I1.kIn _ _ hC) (PySem.W.looks_findIn I1.kIn (T.one c hc).ini) (fun z => PySem.W.bind_fn I1.kIn z T.tI) hsz ?_)
  refine codeAny_mono (F1.run _ X.stack _ _ ⟨Value.ref (hp.objs.size + 1) :: us, []⟩ (.ref (hp.objs.size + 1) :: (us ++ ds)) _ _ (fun _ _ _ => False) (hr.make (ca c) us []) (I2.env0.make (ca c) us []) (hb _ (.ref (hp.objs.size + 1) :: us) I2.kIn hl) r2 go) fun r s' z => ?_
  cases r with
  | error er => exact (no_cx z).elim
  | ok fl =>
    cases fl with
    | ret u =>
      obtain ⟨v, H2, os2, bare2, un2, hok2, rv, ev, d, fs, ea, ed, hd1, q2⟩ := z
      subst ev
      obtain ⟨h2, g2, d2, t2, os'⟩ := s'
      exact ⟨rv, mk_end (raises_own (T.one c hc).oex.exC (T.one c hc).oex.tyC) I1 (Nat.le_succ _) old un2 hok2 os2 bare2 ea ed hd1 q2⟩
    | next => exact z.elim
    | brk => exact z.elim
    | cont => exact z.elim
def iRaise (c : Cl) (f : E) : I := fun s => thenS (arg f s) fun d s1 => .exc c d s1
theorem raise_imp {K : PySem.W.Frag} {F : Hp} {m : List Addr} {s : Sx} {B : Hp} {σ : St} {H : Hp} {d : D} {v : V} {Q : Cl → Addr → Hp → Prop} (c1 : Cor K ca B F m s σ H) (r : RW K F m d v)
    (h : ∀ (F' : Hp) (m' : List Addr) (H' : Hp) (a : Addr), Sub F F' → m <+: m' → Cor K ca B F' m' s σ H' → XcR K F' m' H' d a → Q c a H') : ∀ a, H a = none → Q c a (upd H a (.xd [(Fl.nm .row, v)])) := fun a n => by
  have f := c1.fresh n
  have g : Sub F (upd F a (.xd [(Fl.nm .row, v)])) := Sub.grow f.1
  exact h _ m _ a g (List.prefix_refl _) (c1.frz n) ⟨v, upd_same, RW.mono g (List.prefix_refl _) d v r⟩
theorem s_raise0 (T : XA X.K X.mg ca fI ex) (FI : FX X.prog X.w X.K X.mg X.base ca j fI) (tk : Takes X W) (hr : Room k X.A) (hc : X.calm = true) (hx : ex c = true) (hn : c.nm = x) (hg : Gl X x) (hj : j + 1 ≤ k := by decide) (hdb : (x == ("__debug__" : Str)) = false := by decide +kernel) :
    PS X (.Raise (some (.Call (.Name x p) [] [] pos)) none pos2) (tS X.K ca W (iRaise c (iC .non))) := by
  subst hn
  obtain ⟨fd, ds, F1, hd, _, hb⟩ := FI.ok
  have hr := hr.mono hj
  have mk : PMk X (.Call (.Name c.nm p) [] [] pos) (fun σ H Q => mkGoal (ca c) [.non] H (spOx X.K ca) Q) := fun pins s σ H Q I h => by
    refine wpAny_Call_Name_kw (ld_glob I hg (T.one c hx).name ?_ hdb)
    exact PySem.W.callWith_K0 I.kIn (T.one c hx).oex.kC (mk_call (us := []) (vs := []) T hx F1 hr hb hd I .nil (by simp) h)
  refine PS.imp (ps_raise hc tk mk) fun D σ H ⟨B, F, m, s, c1, h⟩ => ?_
  exact mk_goal (T.one c hx) (raise_imp (Q := fun c a H' => W (.ref (ca c)) (some a) σ H') (d := .non) (v := .non) c1 rfl fun F' m' H' a a1 a2 c2 x2 => h F' m' σ H' a a1 a2 c2 x2)
theorem s_raise1 (T : XA X.K X.mg ca fI ex) (FI : FX X.prog X.w X.K X.mg X.base ca j fI) (tk : Takes X W) (hr : Room k X.A) (hc : X.calm = true) (hx : ex c = true) (hn : c.nm = x) (hg : Gl X x) (ha : PA X [e] (tA X.K ca W [f])) (hj : j + 1 ≤ k := by decide) (hdb : (x == ("__debug__" : Str)) = false := by decide +kernel)
    (he : starEach [e] X.env = (false, eval e X.env) :: starEach [] X.env := by rfl) :
    PS X (.Raise (some (.Call (.Name x p) [e] [] pos)) none pos2) (tS X.K ca W (iRaise c f)) := by
  subst hn
  obtain ⟨fd, ds, F1, _, hb, _⟩ := FI.ok
  have hr := hr.mono hj
  have mk : PMk X (.Call (.Name c.nm p) [e] [] pos) (fun σ H Q => tA X.K ca W [f] σ H fun vs H1 => ∃ v, vs = [v] ∧ mkGoal (ca c) [v] H1 (spOx X.K ca) Q) := fun pins s σ H Q I h => by
    refine wpAny_Call_Name_kw (ld_glob I hg (T.one c hx).name ?_ hdb)
    refine PySem.W.callWith_K (h₀ := X.base) I.ok.mod.kin (T.one c hx).oex.kC (thn (ha.run pos pins s σ H _ I h) fun us s1 ⟨vs, H1, I1, r1, v, ev, q⟩ => ⟨I1.kIn, ?_⟩) he (by rfl)
    subst ev
    have l1 : us.length = 1 := r1.length.symm
    exact mk_call (us := us) (vs := [v]) (dvs := []) (ds := []) T hx F1 hr hb .nil I1 r1 (by omega) q
  refine PS.imp (ps_raise hc tk mk) fun D σ H ⟨B, F, m, s, c1, h⟩ => ?_
  refine ⟨B, F, m, s, c1, ?_⟩
  unfold args
  have h := thenS_g (σ := σ) h
  cases ea : arg f s with
  | ok d s1 =>
    rw [ea] at h
    show ResG X.K ca W B σ F m _ (.ok [d] s1)
    intro F1' m1 H1 a1 a2 c2 vs rs
    obtain ⟨v, us, rfl, r, rs⟩ := rs
    obtain rfl : us = [] := rs
    refine ⟨v, rfl, mk_goal (T.one c hx) (raise_imp (Q := fun c a H' => W (.ref (ca c)) (some a) σ H') (d := d) c2 r fun F' m' H' a b1 b2 c3 x2 => ?_)⟩
    exact h F1' m1 H1 a1 a2 c2 F' m' σ H' a b1 b2 c3 x2
  | exc cc row s1 => rw [ea] at h; exact h
  | stuck => rw [ea] at h; exact h
end
def Sx.clr (i : Nat) (s : Sx) : Sx := { s with env := s.env.set i .no }
def clr (i : Nat) : SR → SR
  | .nx s => .nx (s.clr i)
  | .ret r s => .ret r (s.clr i)
  | .brk s => .brk (s.clr i)
  | .cnt s => .cnt (s.clr i)
  | .exc _ _ _ => .stuck
  | .stuck => .stuck
open Classical in
section
variable {K : PySem.W.Frag} {ca : Cl → Addr} {W : WX} {B F : Hp} {m : List Addr} {s : Sx} {σ : St} {H : Hp} {D : Ends} {r : SR} {i : Nat}
theorem Cor.unset (c : Cor K ca B F m s σ H) : Cor K ca B F m (s.clr i) (σ.set i none) H := by
  have old : ∀ {j : Nat} {y : SV}, (s.env.set i .no)[j]? = some y → y ≠ .no → i ≠ j ∧ s.env[j]? = some y := fun {j y} h n => by
    by_cases e : i = j
    · subst e
      have il : i < s.env.length := by simpa using (List.getElem?_eq_some_iff.mp h).1
      rw [List.getElem?_set_self il] at h
      cases h
      exact absurd rfl n
    · rw [List.getElem?_set_ne e] at h
      exact ⟨e, h⟩
  refine ⟨c.fh, c.bh, c.bf, c.nd, c.mf, c.md, c.ml, c.hp, by simp [Sx.clr, c.el], fun j y h => ?_, fun j k a x y h1 h2 m1 m2 e1 e2 => ?_⟩
  · cases y with
    | no => trivial
    | v dd =>
      obtain ⟨e, h⟩ := old h (by simp)
      obtain ⟨v, q, r⟩ := c.env j _ h
      exact ⟨v, by rw [List.getElem?_set_ne e]; exact q, r⟩
    | exc cc row a d =>
      obtain ⟨e, h⟩ := old h (by simp)
      obtain ⟨q, r⟩ := c.env j _ h
      exact ⟨by rw [List.getElem?_set_ne e]; exact q, r⟩
    | own xs =>
      obtain ⟨e, h⟩ := old h (by simp)
      obtain ⟨a, vs, q, r⟩ := c.env j _ h
      exact ⟨a, vs, by rw [List.getElem?_set_ne e]; exact q, r⟩
    | ownd t kvs =>
      obtain ⟨e, h⟩ := old h (by simp)
      obtain ⟨a, q, r⟩ := c.env j _ h
      exact ⟨a, by rw [List.getElem?_set_ne e]; exact q, r⟩
  · obtain ⟨n1, h1⟩ := old h1 (by rintro rfl; cases m1)
    obtain ⟨n2, h2⟩ := old h2 (by rintro rfl; cases m2)
    rw [List.getElem?_set_ne n1] at e1
    rw [List.getElem?_set_ne n2] at e2
    exact c.dis j k a x y h1 h2 m1 m2 e1 e2
end
section
variable {X : Cx} {ca : Cl → Addr} {W : WX} {ex : Cl → Bool} {fI : Addr} {C : Cl} {i : Nat} {fb : I} {su : Cl → Addr → Addr → I} {x n : Str} {body suite : List Stmt} {b₀ : Stmt} {np pos pos' : Pos}
end
section
variable {X : Cx} {ca : Cl → Addr} {W : WX} {ex : Cl → Bool} {fI a dd : Addr} {c C : Cl} {i : Nat} {n x : Str} {oe : Obj} {pn : List (Addr × Obj)} {p p2 pos : Pos}
end
end Lk
namespace Lk
open PySem L2
structure CMd (K : PySem.W.Frag) (mg : Str → Option Value) (ca : Cl → Addr) (c : Cl) (m : Str) (f : Addr) : Prop where
  name : mg c.nm = some (.ref (ca c))
  rd : ClX.CRead K (ca c) (.type "type")
  at_ : PySem.W.findCls K (.ref (ca c)) (.type "type") m = some (.val (.ref f))
section
variable {X : Cx} {ca : Cl → Addr} {W : WX} {e : Expr} {es : List Expr} {fs : List E} {pos p apos : Pos} {x m : Str} {M : Fn} {k j : Nat} {f : Addr} {ps : List Str} {c : Cl} {pl : Sem Bool}
theorem e_clsm (T : CMd X.K X.mg ca c m f) (FF : FK X.prog X.w X.K X.mg X.base ca j f ps M) (tk : Takes X W) (hr : Room k X.A) (hn : c.nm = x) (hg : Gl X x) (ha : PA X (e :: es) (tA X.K ca W fs)) (hl : fs.length = ps.length := by rfl) (hj : j ≤ k := by decide) (hdb : (x == ("__debug__" : Str)) = false := by decide +kernel)
    (ht : eval (.Call (.Attribute (.Name x p) m apos) (e :: es) [] pos) X.env = (do
      let ov ← eval (.Name x p) X.env
      standAt apos.atName
      let (f, first) ← holding [ov] (getMethod ov m pl)
      callWith pos f first (backTo pos (starEach (e :: es) X.env)) (backToKw pos (keywordEach [] X.env))) := by rfl)
    (he : starEach (e :: es) X.env = (false, eval e X.env) :: starEach es X.env := by rfl) (hpl : (backTo pos (starEach es X.env)).any (·.1) = false := by rfl) :
    PE X (.Call (.Attribute (.Name x p) m apos) (e :: es) [] pos) (tE X.K ca W (iCall M fs)) := by
  subst hn
  obtain ⟨⟨fd, F, b⟩, kp⟩ := FF
  refine PE.imp (t := tCallS (spF X.K ca ps.length M) (WE W) (tA X.K ca W fs)) ⟨fun pins s σ H Q I h => ?_⟩ fun σ H Q ⟨B, F, m, s, c, h⟩ => ?_
  · refine PySem.W.methodCall_KW (pl := pl) (ld_glob I hg T.name ?_ hdb) ht
    refine PySem.W.method_cls I.kIn T.rd.ga (PySem.W.cls_value I.kIn T.rd.rd T.at_ rfl ?_)
    refine PySem.W.callWith_K (first := []) (h₀ := X.base) I.ok.mod.kin kp (thn (ha.run pos pins _ σ H _ (I.tok _) h) fun us s1 ⟨vs, H1, I1, r, q⟩ => ⟨I1.kIn, ?_⟩) he hpl
    exact run_fnS F (hr.mono hj) b (passAt tk σ) I1 r q
  · exact args_imp c h fun F1 m1 s1 H1 ds vs el c1 rv h1 => call_sp c1 (by rw [← rv.length, el, hl]) rv h1
end
theorem kit_ve {K : PySem.W.Frag} {C : Addr} (h : PySem.W.subIn K (.ref C) (.type "ValueError") = some true) : PySem.W.kitOne K (.ref C) (.type "ValueError") = some true := by
  unfold PySem.W.kitOne
  rw [if_neg (by simp)]
  show (if PySem.W.kitMeta "ValueError" = true then PySem.W.subIn K (.ref C) (.type "ValueError") else none) = _
  rw [if_pos (by decide +kernel)]
  exact h
theorem takes_no {X : Cx} : Takes X (fun _ _ _ _ => False) := fun u s' ⟨_, _, _, _, _, _, _, _, _, _, _, _, _, _, _, _, w⟩ => w.elim
structure OC (K : PySem.W.Frag) (ca : Cl → Addr) (c : Cl) : Prop where
  cl : Cls K (ca c)
  ha : PySem.W.findIn K (.ref (ca c)) "__class__" = some (some (.builtin "object.__class__"))
  hm : PySem.W.mroIn K (ca c) (.type "object") = some true
structure OG (K : PySem.W.Frag) : Prop where
  hn : PySem.W.specialIn K (.builtin "object.__class__") "__get__" = some (some (.builtin "getset_descriptor.__get__"))
  ht : PySem.W.takesIn K (.builtin "object.__class__") = some true
section
variable {X : Cx} {ca : Cl → Addr} {W : WX} {e : Expr} {f : E} {pos p p2 : Pos} {x : Str} {C : Addr} {tbl : List (Cl × Bool)}
end
end Lk
namespace Lk
open PySem L2
theorem rws_ints {K : PySem.W.Frag} {F : Hp} {m : List Addr} : ∀ {ns : List Int}, RWs K F m (ns.map D.int) (ns.map V.int)
  | [] => rfl
  | n :: ns => ⟨.int n, ns.map V.int, rfl, rfl, rws_ints⟩
def sortI (ns : List Int) : List Int := ns.mergeSort (fun a b => decide (a ≤ b))
theorem sortI_perm (ns : List Int) : (sortI ns).Perm ns := List.mergeSort_perm _ _
theorem sortI_pw (ns : List Int) : (sortI ns).Pairwise (· ≤ ·) := by
  have h := List.pairwise_mergeSort (le := fun a b : Int => decide (a ≤ b)) (fun a b c h1 h2 => decide_eq_true (Int.le_trans (of_decide_eq_true h1) (of_decide_eq_true h2))) (fun a b => by
    rcases Int.le_total a b with q | q
    · rw [decide_eq_true q]; rfl
    · rw [decide_eq_true q, Bool.or_true]) ns
  exact h.imp fun {a b} q => of_decide_eq_true q
theorem sorted_eq : ∀ {xs ys : List Int}, xs.Perm ys → xs.Pairwise (· ≤ ·) → ys.Pairwise (· ≤ ·) → xs = ys := fun p a b => p.eq_of_pairwise (fun _ _ _ _ => Int.le_antisymm) a b
section
variable {X : Cx} {ca : Cl → Addr}
end
def iTgt (tg : Tgt) (f : E) : I := fun s => thenS (arg f s) fun d s1 => match tg d s1 with
  | some s2 => .nx s2
  | none => .stuck
section
variable {X : Cx} {ca : Cl → Addr} {W : WX} {e tg : Expr} {f : E} {t : Tgt} {pos : Pos}
theorem s_tgt (hg : PG X tg (tG X.K ca t)) (he : PE X e (tE X.K ca W f)) (hs : swapsWithSole [tg] e pos.line X.env = pure false := by rfl) (hw : swappedStores [tg] e X.env = pure none := by rfl)
    (h1 : (assignEach [tg] X.env).map (·.2) = [assign tg X.env] := by rfl) : PS X (.Assign [tg] e pos) (tS X.K ca W (iTgt t f)) := by
  refine PS.imp (ps_asg he hg hs hw h1) fun D σ H ⟨B, F, m, s, c, h⟩ => ?_
  refine argS c h fun F1 m1 s1 H1 d v c1 r h1 => ?_
  cases e1 : t d s1 with
  | none => rw [e1] at h1; exact h1.elim
  | some s2 =>
    rw [e1] at h1
    exact ⟨B, F1, m1, s1, d, s2, c1, r, e1, fun σ' c2 => SRg.now (W := W) c2 h1⟩
end
section
variable {X : Cx} {ca : Cl → Addr}
end
end Lk
namespace Lk
open PySem L2
def wipeE (e : List SV) : List Nat → List SV
  | [] => e
  | v :: vs => (wipeE e vs).set v .no
def Sx.wipe (vs : List Nat) (s : Sx) : Sx := { s with env := wipeE s.env vs }
section
variable {K : PySem.W.Frag} {ca : Cl → Addr} {W : WX} {B B' F : Hp} {m : List Addr} {s : Sx} {σ : St} {H : Hp}
theorem Cor.wipe (c : Cor K ca B F m s σ H) : ∀ vs : List Nat, Cor K ca B F m (s.wipe vs) (L2.wipe σ vs) H
  | [] => c
  | v :: vs => (Cor.wipe c vs).unset
theorem wipeE_get {e : List SV} {x : SV} : ∀ {vs : List Nat} {i : Nat}, (wipeE e vs)[i]? = some x → x ≠ .no → i ∉ vs ∧ e[i]? = some x
  | [], i, h, n => ⟨by simp, h⟩
  | v :: vs, i, h, n => by
    unfold wipeE at h
    by_cases q : v = i
    · subst q
      have il : v < (wipeE e vs).length := by simpa using (List.getElem?_eq_some_iff.mp h).1
      rw [List.getElem?_set_self il] at h
      cases h
      exact absurd rfl n
    · rw [List.getElem?_set_ne q] at h
      obtain ⟨a, b⟩ := wipeE_get h n
      exact ⟨by simp [a, Ne.symm q], b⟩
theorem wipe_get : ∀ {vs : List Nat} {i : Nat}, i ∉ vs → (L2.wipe σ vs)[i]? = σ[i]?
  | [], i, h => rfl
  | v :: vs, i, h => by
    unfold L2.wipe
    rw [List.getElem?_set_ne (by rintro rfl; exact h List.mem_cons_self)]
    exact wipe_get fun z => h (List.mem_cons_of_mem _ z)
theorem Cor.unwipe {vs : List Nat} (c : Cor K ca B F m (s.wipe vs) (L2.wipe σ vs) H) : Cor K ca B F m (s.wipe vs) σ H := by
  refine ⟨c.fh, c.bh, c.bf, c.nd, c.mf, c.md, c.ml, c.hp, by rw [c.el, wipe_length], fun i x h => ?_, fun i j a x y h1 h2 m1 m2 e1 e2 => ?_⟩
  · have q := c.env i x h
    have key : x ≠ .no → (L2.wipe σ vs)[i]? = σ[i]? := fun n => wipe_get (wipeE_get h n).1
    cases x with
    | no => trivial
    | v d => obtain ⟨v, e, r⟩ := q; exact ⟨v, (key (by simp)).symm.trans e, r⟩
    | exc cc row a d => obtain ⟨e, r⟩ := q; exact ⟨(key (by simp)).symm.trans e, r⟩
    | own xs => obtain ⟨a, vs', e, r⟩ := q; exact ⟨a, vs', (key (by simp)).symm.trans e, r⟩
    | ownd t kvs => obtain ⟨a, e, r⟩ := q; exact ⟨a, (key (by simp)).symm.trans e, r⟩
  · have k1 : (L2.wipe σ vs)[i]? = σ[i]? := wipe_get (wipeE_get h1 (by rintro rfl; cases m1)).1
    have k2 : (L2.wipe σ vs)[j]? = σ[j]? := wipe_get (wipeE_get h2 (by rintro rfl; cases m2)).1
    exact c.dis i j a x y h1 h2 m1 m2 (k1.trans e1) (k2.trans e2)
theorem Cor.prot {p : Addr} {o : HO} (c : Cor K ca B F m s σ H) (f : Free B F m s σ p) (h : H p = some o) : Cor K ca (upd B p o) F m s σ H := by
  obtain ⟨f1, f2, f3, f4⟩ := f
  have nn : ∀ a, a ≠ p → B a = none → (upd B p o) a = none := fun a e h => by rw [upd_ne e]; exact h
  refine ⟨c.fh, fun a u e => ?_, fun a u e => ?_, c.nd, fun a ha => ⟨(c.mf a ha).1, nn a (by rintro rfl; exact f3 ha) (c.mf a ha).2⟩, c.md, c.ml, c.hp, c.el, fun i x hi => ?_, c.dis⟩
  · by_cases q : a = p
    · subst q; rw [upd_same] at e; cases e; exact h
    · rw [upd_ne q] at e; exact c.bh a u e
  · by_cases q : a = p
    · subst q; exact f1
    · rw [upd_ne q] at e; exact c.bf a u e
  · have q := c.env i x hi
    cases x with
    | no => trivial
    | v d => exact q
    | exc _ _ _ _ => exact q
    | own xs =>
      obtain ⟨a, vs, e, ha, r, g1, g2, g3⟩ := q
      exact ⟨a, vs, e, ha, r, g1, nn a (by rintro rfl; exact f4 i _ hi rfl e) g2, g3⟩
    | ownd t kvs =>
      obtain ⟨a, e, ha, g1, g2, g3⟩ := q
      exact ⟨a, e, ha, g1, nn a (by rintro rfl; exact f4 i _ hi rfl e) g2, g3⟩
theorem Cor.weak (c : Cor K ca B' F m s σ H) (h : Sub B B') : Cor K ca B F m s σ H := by
  have nn : ∀ a, B' a = none → B a = none := fun a e => h.none e
  refine ⟨c.fh, fun a u e => c.bh a u (h a u e), fun a u e => c.bf a u (h a u e), c.nd, fun a ha => ⟨(c.mf a ha).1, nn a (c.mf a ha).2⟩, c.md, c.ml, c.hp, c.el, fun i x hi => ?_, c.dis⟩
  have q := c.env i x hi
  cases x with
  | no => trivial
  | v d => exact q
  | exc _ _ _ _ => exact q
  | own xs => obtain ⟨a, vs, e, ha, r, g1, g2, g3⟩ := q; exact ⟨a, vs, e, ha, r, g1, nn a g2, g3⟩
  | ownd t kvs => obtain ⟨a, e, ha, g1, g2, g3⟩ := q; exact ⟨a, e, ha, g1, nn a g2, g3⟩
theorem Cor.unprot {p : Addr} {o : HO} (c : Cor K ca (upd B p o) F m s σ H) (h : B p = none) : Cor K ca B F m s σ H ∧ Free B F m s σ p := by
  refine ⟨c.weak (Sub.grow h), c.bf p o upd_same, h, fun hm => ?_, fun i x hi hx e => ?_⟩
  · have z := (c.mf p hm).2
    rw [upd_same] at z; cases z
  · obtain ⟨_, _, z, _⟩ := c.own_at hi hx e
    rw [upd_same] at z; cases z
end
def tGw (K : PySem.W.Frag) (ca : Cl → Addr) (vs : List Nat) (t : Tgt) : TG := fun v σ H Q => ∃ (B F : Hp) (m : List Addr) (s : Sx) (d : D) (s' : Sx), Cor K ca B F m s σ H ∧ RW K F m d v ∧ t d s = some s' ∧ ∀ σ', L2.wipe σ' vs = L2.wipe σ vs → Cor K ca B F m s' σ' H → Q σ' H
theorem wipe_set {σ : St} {i : Nat} {x : Option V} : ∀ {vs : List Nat}, i ∈ vs → L2.wipe (σ.set i x) vs = L2.wipe σ vs
  | [], h => by cases h
  | v :: vs, h => by
    unfold L2.wipe
    by_cases q : i ∈ vs
    · rw [wipe_set q]
    · have e : i = v := by
        rcases List.mem_cons.mp h with e | e
        · exact e
        · exact absurd e q
      subst e
      have k : ∀ {ws : List Nat}, i ∉ ws → L2.wipe (σ.set i x) ws = (L2.wipe σ ws).set i x := by
        intro ws
        induction ws with
        | nil => intro _; rfl
        | cons w ws ih =>
          intro n
          show (L2.wipe (σ.set i x) ws).set w none = ((L2.wipe σ ws).set w none).set i x
          rw [ih fun z => n (List.mem_cons_of_mem _ z), List.set_comm _ _ (by rintro rfl; exact n List.mem_cons_self)]
      rw [k q, List.set_set]
section
variable {X : Cx} {ca : Cl → Addr} {n : Str} {i : Nat} {pos : Pos} {e : Expr} {es : List Expr} {t : Tgt} {ts : List Tgt} {vs : List Nat}
theorem h_name (hN : X.N.Nodup) (hv : i ∈ vs) (hi : X.N[i]? = some n := by rfl) (hx : Loc X.env.scope n := by first | exact Or.inl rfl | exact Or.inr rfl) (hf : X.fn n = true ∨ X.env.scope.names.lookup n = some .local := by first | exact .inl rfl | exact .inr rfl) : PG X (.Name n pos) (tGw X.K ca vs (tgN i)) := by
  refine PG.imp (pg_len (pg_name hN hi hx hf)) fun v σ H Q ⟨B, F, m, s, d, s', c, r, e, q⟩ hl => ?_
  cases e
  exact q _ (wipe_set hv) (c.setV r (lt_of c hl hi))
end
noncomputable def lcLoop (tg : Tgt) (test elt : E) (vs : List Nat) (src : Src) (all : List D) : List D → List D → Sx → Rs RX
  | [], acc, s => match okAt src all s with
    | true => .ok (.fr acc) s
    | false => .stuck
  | x :: xs, acc, s => match okAt src all s with
    | true => match tg x s with
      | some s1 => match test s1 with
        | .ok (.w (.bl true)) s2 => match arg elt s2 with
          | .ok d s3 => if acc.length < 1000000 then lcLoop tg test elt vs src all xs (acc ++ [d]) (s3.wipe vs) else .stuck
          | _ => .stuck
        | .ok (.w (.bl false)) s2 => lcLoop tg test elt vs src all xs acc (s2.wipe vs)
        | _ => .stuck
      | none => .stuck
    | false => .stuck
noncomputable def iLc (q : Sq) (tg : Tgt) (test elt : E) (vs : List Nat) : E := fun s => (q s).bind fun xs s1 => lcLoop tg test elt vs xs.2 xs.1 xs.1 [] (s1.wipe vs)
section
variable {K : PySem.W.Frag} {ca : Cl → Addr} {W : WX} {q : Sq} {t : Tgt} {test elt : E} {vs : List Nat}
theorem argE {B F : Hp} {m : List Addr} {s : Sx} {σ : St} {H : Hp} {fe : E} {Q : VK} {P : Hp → List Addr → Sx → Hp → D → Prop} (c : Cor K ca B F m s σ H) (h : ResG K ca W B σ F m P (arg fe s))
    (hk : ∀ F1 m1 s1 H1 d v, Sub F F1 → m <+: m1 → Cor K ca B F1 m1 s1 σ H1 → RW K F1 m1 d v → P F1 m1 s1 H1 d → Q v H1) : tE K ca W fe σ H Q := by
  unfold arg at h
  refine ⟨B, F, m, s, c, ResG.imp (ResG.bind h) fun F1 m1 s1 H1 x a1 a2 c1 h1 v rv => ?_⟩
  cases e : settle x s1 with
  | none => rw [e] at h1; exact h1.elim
  | some p =>
    obtain ⟨d, s2⟩ := p
    rw [e] at h1
    obtain ⟨F2, b1, c2, hd⟩ := settle_ok c1 rv e
    have h3 := ResG.now (W := W) c2 (ResG.mono b1 (List.prefix_refl _) h1)
    exact hk F2 m1 s2 H1 d v (a1.trans b1) a2 c2 hd h3
theorem wipe_in {σ : St} : ∀ {vs : List Nat} {i : Nat}, i ∈ vs → (L2.wipe σ vs)[i]? = if i < σ.length then some none else none
  | [], i, h => by cases h
  | v :: vs, i, h => by
    unfold L2.wipe
    by_cases q : v = i
    · subst q
      rw [List.getElem?_set, if_pos rfl, wipe_length]
    · rw [List.getElem?_set_ne q]
      rcases List.mem_cons.mp h with e | e
      · exact absurd e.symm q
      · exact wipe_in e
theorem wipe_idem {σ : St} {vs : List Nat} : L2.wipe (L2.wipe σ vs) vs = L2.wipe σ vs := by
  apply List.ext_getElem?
  intro i
  by_cases h : i ∈ vs
  · rw [wipe_in h, wipe_in h, wipe_length]
  · rw [wipe_get h]
abbrev NW : WX := fun _ _ _ _ => False
theorem lc_imp {σ : St} {H : Hp} {Q : VK} (h : tE K ca W (iLc q t test elt vs) σ H Q) : tLc (tI K ca W q) (tGw K ca vs t) (tT K ca NW test) (tE K ca NW elt) vs σ H Q := by
  obtain ⟨B, F, m, s, c, h⟩ := h
  refine ⟨B, F, m, s, c, ResG.imp (ResG.bind h) fun F1 m1 s1 H1 ⟨xs, src⟩ a1 a2 c1 h1 J hJ p hp => ?_⟩
  have hB : B p = none := c1.bh.none hp
  have f0 := c1.fresh hp
  refine ⟨fun i n H2 => i + n = xs.length ∧ ∃ (F2 : Hp) (m2 : List Addr) (s2 : Sx) (acc : List D) (us : List V), Sub F1 F2 ∧ m1 <+: m2 ∧ H2 p = some (.lst us) ∧ Cor K ca (upd B p (.lst us)) F2 m2 (s2.wipe vs) (L2.wipe σ vs) H2 ∧ RWs K F2 m2 acc us ∧
    ResG K ca W B σ F2 m2 (PEx K B σ Q) (lcLoop t test elt vs src xs (xs.drop i) acc (s2.wipe vs)), ⟨xs.length, by omega, F1, m1, s1, [], [], Sub.refl _, List.prefix_refl _, upd_same, ?_, RWs.nil, by rw [List.drop_zero]; exact h1⟩, ?_⟩
  · have c2 : Cor K ca B F1 m1 s1 σ (upd H1 p (.lst [])) := c1.other f0
    exact (c2.prot f0 upd_same).wipe vs
  rintro i n H2 ⟨hin, F2, m2, s2, acc, us, b1, b2, hp2, c2, ra, h2⟩
  obtain ⟨c2u, f2⟩ := c2.unprot hB
  by_cases hlt : i < xs.length
  · refine .inr ?_
    have hd : xs.drop i = xs[i] :: xs.drop (i + 1) := List.drop_eq_getElem_cons hlt
    rw [hd] at h2
    unfold lcLoop at h2
    cases e0 : okAt src xs (s2.wipe vs) with
    | false => rw [e0] at h2; exact h2.elim
    | true =>
      rw [e0] at h2
      obtain ⟨w1, w2, w3⟩ := hJ (upd B p (.lst us)) F2 m2 (s2.wipe vs) (L2.wipe σ vs) H2 b1 b2 c2 e0
      refine ⟨w1 i hlt, fun H3 => ∃ (F3 : Hp) (m3 : List Addr) (s3 : Sx) (acc3 : List D) (us3 : List V), Sub F1 F3 ∧ m1 <+: m3 ∧ H3 p = some (.lst us3) ∧ Cor K ca (upd B p (.lst us3)) F3 m3 (s3.wipe vs) (L2.wipe σ vs) H3 ∧ RWs K F3 m3 acc3 us3 ∧
        ResG K ca W B σ F3 m3 (PEx K B σ Q) (lcLoop t test elt vs src xs (xs.drop (i + 1)) acc3 (s3.wipe vs)), fun H3 hq => ⟨n - 1, by omega, by omega, hq⟩, fun v H3 hy => ?_⟩
      obtain ⟨F3, d1, c3, r3⟩ := w3 i xs[i] v H3 (by simp [hlt]) hy
      cases e1 : t xs[i] (s2.wipe vs) with
      | none => simp only [e1] at h2; exact h2.elim
      | some s3 =>
        simp only [e1] at h2
        refine ⟨_, F3, m2, _, xs[i], s3, c3, r3, e1, fun σ4 w4 c4 => ⟨w4.trans ?_, _, F3, m2, s3, c4, ?_⟩⟩
        · exact wipe_idem
        cases e2 : test s3 with
        | exc _ _ _ => rw [e2] at h2; exact h2.elim
        | stuck => rw [e2] at h2; exact h2.elim
        | ok r s4 =>
          rw [e2] at h2
          cases r with
          | w d =>
            cases d with
            | bl k =>
              intro F4 m4 H4 x1 x2 c5
              have lk : ∀ {F5 : Hp} {m5 : List Addr} {s5 : Sx} {H5 : Hp}, Cor K ca (upd B p (.lst us)) F5 m5 s5 σ4 H5 → H5 p = some (.lst us) := fun c => c.bh _ _ upd_same
              have w5 : L2.wipe σ4 vs = L2.wipe σ vs := w4.trans wipe_idem
              cases k with
              | false =>
                dsimp only at h2
                simp only [Bool.false_eq_true, if_false]
                refine ⟨F4, m4, s4, acc, us, b1.trans (d1.trans x1), b2.trans x2, lk c5, ?_, RWs.mono (d1.trans x1) x2 acc us ra, ResG.mono (d1.trans x1) x2 h2⟩
                rw [← w5]; exact c5.wipe vs
              | true =>
                dsimp only at h2
                simp only [if_true]
                cases e3 : arg elt s4 with
                | exc _ _ _ => rw [e3] at h2; exact h2.elim
                | stuck => rw [e3] at h2; exact h2.elim
                | ok d s5 =>
                  rw [e3] at h2
                  dsimp only at h2
                  by_cases hz : acc.length < 1000000
                  · rw [if_pos hz] at h2
                    have hg : ResG K ca NW (upd B p (.lst us)) σ4 F4 m4 (fun _ _ s6 _ d6 => s6 = s5 ∧ d6 = d) (arg elt s4) := by
                      rw [e3]; exact fun _ _ _ _ _ _ => ⟨rfl, rfl⟩
                    refine argE c5 hg fun F6 m6 s6 H6 d6 y y1 y2 c6 r6 ⟨es, ed⟩ => ?_
                    subst es ed
                    obtain ⟨c7, f7⟩ := c6.unprot hB
                    have q1 := (d1.trans x1).trans y1
                    have q2 := x2.trans y2
                    refine ⟨us, lk c6, by rw [← ra.length, sizeLine_eq]; omega, F6, m6, s6, acc ++ [d6], us ++ [y], b1.trans q1, b2.trans q2, upd_same, ?_, (RWs.mono q1 q2 acc us ra).append (RWs.cons r6 RWs.nil), ResG.mono q1 q2 h2⟩
                    have c8 : Cor K ca B F6 m6 s6 σ4 (upd H6 p (.lst (us ++ [y]))) := c7.other f7
                    rw [← w5]
                    exact (c8.prot f7 upd_same).wipe vs
                  · rw [if_neg hz] at h2; exact h2.elim
            | _ => exact h2.elim
          | _ => exact h2.elim
  · have e : i = xs.length := by omega
    subst e
    rw [List.drop_length] at h2
    unfold lcLoop at h2
    cases e0 : okAt src xs (s2.wipe vs) with
    | false => rw [e0] at h2; exact h2.elim
    | true =>
      rw [e0] at h2
      obtain ⟨w1, w2, w3⟩ := hJ (upd B p (.lst us)) F2 m2 (s2.wipe vs) (L2.wipe σ vs) H2 b1 b2 c2 e0
      have c5 : Cor K ca B F2 m2 (s2.wipe vs) σ H2 := c2u.unwipe
      refine .inl ⟨w2, ResG.now (W := W) c5 h2 _ ⟨p, us, rfl, hp2, ra, f2.1, f2.2.1, f2.2.2.1, fun j y hj hy ej => ?_⟩⟩
      have k : (L2.wipe σ vs)[j]? = σ[j]? := wipe_get (wipeE_get hj (by rintro rfl; cases hy)).1
      exact f2.2.2.2 j y hj hy (k.trans ej)
end
section
variable {X : Cx} {ca : Cl → Addr} {W : WX} {q : Sq} {t : Tgt} {te fe : E} {vs : List Nat} {elt tg iter cnd : Expr} {scope : Scope} {own : List (Str × Nat)} {pos spos py : Pos} {i : Nat} {y : Str}
abbrev bX (X : Cx) (scope : Scope) (s : Shared) (H : Hp) (C : Addr) (cl : List (Str × Addr)) (fp : List Addr) : Cx := X.blk s H scope (compEnvC scope cl C X.env) fp
theorem e_lc (hc : X.calm = true) (hN : X.N.Nodup) (hi : PI X tg iter (tI X.K ca W q)) (ok : BlkOk X.N X.env.scope scope own) (hv : own.map (·.2) = vs)
    (hg : ∀ (s : Shared) (H : Hp) (C : Addr) (cl : List (Str × Addr)) (fp : List Addr), PG (bX X scope s H C cl fp) tg (tGw X.K ca vs t))
    (he : ∀ (s : Shared) (H : Hp) (C : Addr) (cl : List (Str × Addr)) (fp : List Addr), Takes (bX X scope s H C cl fp) NW → PE (bX X scope s H C cl fp) elt (tE X.K ca NW fe)) (hs : ∀ x, foldedSetIterable iter X.env x = pure x := by intro _; rfl) :
    PE X (.ListComp elt [⟨tg, iter, [], 0⟩] scope pos) (tE X.K ca W (iLc q t (iC (.bl true)) fe vs)) := by
  subst hv
  refine PE.imp (pe_lc (tt := tT X.K ca NW (iC (.bl true))) hc hN hi ok hg (fun s H C cl fp => ⟨fun pins s1 σ H1 Q I h => pts_nil.run pins s1 σ H1 Q I ?_⟩) (fun s H C cl fp => he s H C cl fp takes_no) hs) fun σ H Q h => lc_imp h
  obtain ⟨B, F, m, s2, c, h⟩ := h
  exact ResG.now (W := NW) c h
theorem s_setLc (hc : X.calm = true) (hN : X.N.Nodup) (hy : X.N[i]? = some y) (hyl : X.env.scope.names.lookup y = some .local) (hsw : swapsWith (.ListComp elt [⟨tg, iter, [], 0⟩] scope pos) (some (.Name y py)) spos.line X.env = pure true)
    (hi : PI X tg iter (tI X.K ca W q)) (ok : BlkOk X.N X.env.scope scope own) (hv : own.map (·.2) = vs)
    (hg : ∀ (s : Shared) (H : Hp) (C : Addr) (cl : List (Str × Addr)) (fp : List Addr), PG (bX X scope s H C cl fp) tg (tGw X.K ca vs t))
    (he : ∀ (s : Shared) (H : Hp) (C : Addr) (cl : List (Str × Addr)) (fp : List Addr), Takes (bX X scope s H C cl fp) NW → PE (bX X scope s H C cl fp) elt (tE X.K ca NW fe)) (hs : ∀ x, foldedSetIterable iter X.env x = pure x := by intro _; rfl) :
    PS X (.Assign [.Name y py] (.ListComp elt [⟨tg, iter, [], 0⟩] scope pos) spos) (tS X.K ca W (iSet i (iLc q t (iC (.bl true)) fe vs))) := by
  subst hv
  refine ps_len (ps_setLc (tt := tT X.K ca NW (iC (.bl true))) hc hN hy hyl hsw hi ok hg (fun s H C cl fp => ⟨fun pins s1 σ H1 Q I h => pts_nil.run pins s1 σ H1 Q I ?_⟩) (fun s H C cl fp => he s H C cl fp takes_no) hs) fun D σ H hl h => lc_imp (asg_tail hl hy h)
  obtain ⟨B, F, m, s2, c, h⟩ := h
  exact ResG.now (W := NW) c h
end
end Lk
namespace Lk
open PySem L2
def cutD (xs : List D) (lo hi : Option Int) : List D := (xs.drop (HT.sIx xs.length 0 lo)).take (HT.sIx xs.length xs.length hi - HT.sIx xs.length 0 lo)
abbrev Pt := Sx → Rs (Option Int)
def pNo : Pt := fun s => .ok none s
def pSome (f : E) : Pt := fun s => (f s).bind fun r s1 => match r with
  | .w (.int i) => .ok (some i) s1
  | _ => .stuck
def gCut (d : D) (lo hi : Option Int) : Option RX := match d with
  | .lst xs => some (.fr (cutD xs lo hi))
  | .tup xs => some (.w (.tup (cutD xs lo hi)))
  | _ => none
def iSl (f : E) (p q : Pt) : E := fun s => (f s).bind fun r s1 => (p s1).bind fun lo s2 => (q s2).bind fun hi s3 => match rdv s3 (hold r) with
  | some d => match gCut d lo hi with
    | some x => .ok x s3
    | none => .stuck
  | none => .stuck
section
variable (K : PySem.W.Frag) (ca : Cl → Addr) (W : WX)
def tO (p : Pt) : TO := fun σ H Q => ∃ (B F : Hp) (m : List Addr) (s : Sx), Cor K ca B F m s σ H ∧ ResG K ca W B σ F m (fun _ _ _ H' o => Q o H') (p s)
end
section
variable {X : Cx} {ca : Cl → Addr} {W : WX} {e a : Expr} {f : E} {lo hi : Option Expr} {p q : Pt} {pos p2 : Pos}
theorem PO.imp {t t' : TO} (h : PO X lo t) (i : ∀ σ H Q, t' σ H Q → t σ H Q) : PO X lo t' := ⟨fun pins s σ H Q I q => h.run pins s σ H Q I (i σ H Q q)⟩
theorem p_no : PO X none (tO X.K ca W pNo) := PO.imp po_none fun σ H Q ⟨B, F, m, s, c, h⟩ => ResG.now (W := W) c h
theorem p_some (h : PE X e (tE X.K ca W f)) : PO X (some e) (tO X.K ca W (pSome f)) := by
  refine PO.imp (po_some h) fun σ H Q ⟨B, F, m, s, c, h⟩ => ?_
  refine ⟨B, F, m, s, c, ResG.imp (ResG.bind h) fun F1 m1 s1 H1 x a1 a2 c1 h1 v rv => ?_⟩
  cases x with
  | w d =>
    cases d with
    | int i => exact ⟨i, rv, ResG.now (W := W) c1 h1⟩
    | _ => exact h1.elim
  | _ => exact h1.elim
theorem cut_rws {K : PySem.W.Frag} {F : Hp} {m : List Addr} {xs : List D} {vs : List V} {lo hi : Option Int} (h : RWs K F m xs vs) : RWs K F m (cutD xs lo hi) (cutV vs lo hi) := by
  unfold cutD cutV
  rw [h.length]
  exact RWs.take _ (RWs.drop _ h)
theorem cut_all {α : Type} {xs : List α} {lo hi : Option Int} (h : HT.sIx xs.length 0 lo = 0 ∧ HT.sIx xs.length xs.length hi = xs.length) : (xs.drop (HT.sIx xs.length 0 lo)).take (HT.sIx xs.length xs.length hi - HT.sIx xs.length 0 lo) = xs := by
  rw [h.1, h.2, List.drop_zero, Nat.sub_zero, List.take_length]
def rSlN (K : PySem.W.Frag) : V → Option Int → Option Int → Hp → VK → Prop := fun x lo hi H Q => ∃ a xs, x = .ref a ∧ SqT K H a xs ∧
  (HT.sIx xs.length 0 lo = 0 ∧ HT.sIx xs.length xs.length hi = xs.length → Q (.ref a) H) ∧ (¬ (HT.sIx xs.length 0 lo = 0 ∧ HT.sIx xs.length xs.length hi = xs.length) → ∀ p ob, H p = none → ob.dict = none → Q (.ref p) (upd H p (tupO ob (cutV xs lo hi))))
theorem sl_tupN : L2.SlR X (rSlN X.K) := by
  intro pins s σ H x v vl vu lo hi sl Q I rx hs pl pu h
  obtain ⟨a, xs, rfl, hx, q1, q2⟩ := h
  by_cases hw : HT.sIx xs.length 0 lo = 0 ∧ HT.sIx xs.length xs.length hi = xs.length
  · exact sl_tupA pins s σ H _ v vl vu lo hi sl Q I rx hs pl pu ⟨a, xs, rfl, hx, q1, fun n => absurd hw n⟩
  cases rx
  obtain ⟨its, r, ht, hz⟩ := I.tuple hx
  have hlen : its.toArray.size = xs.length := by rw [List.size_toArray]; exact r.length.symm
  refine ⟨"tuple", _, PyProof.Rows.slot_tuple_getitem.lookup, ht.typeIs, ?_⟩
  refine HT.getItem_tuple_cut ht hs pl pu (by rw [hlen]; exact hw) ?_ (by rw [hlen]; exact hz)
  rw [hlen]
  have I2 : Inv X pins σ (upd H s.heap.objs.size (tupO { cls := .type "tuple", data := .seq ((its.toArray.toList.drop (HT.sIx xs.length 0 lo)).take (HT.sIx xs.length xs.length hi - HT.sIx xs.length 0 lo)).toArray } (cutV xs lo hi))) { s with heap := s.heap.push { cls := .type "tuple", data := .seq ((its.toArray.toList.drop (HT.sIx xs.length 0 lo)).take (HT.sIx xs.length xs.length hi - HT.sIx xs.length 0 lo)).toArray } } :=
    I.laid (t' := s.toks) (fun b ob q => Heap.get?_push_of_some _ q) (Nat.le_refl _) (tupO_ok (Heap.get?_push_size _ rfl) (show ObjOk X.prog X.w _ _ _ (.tup (cutV xs lo hi)) from ⟨Nat.le_trans (cutV_length xs lo hi) hz, _, (r.drop (HT.sIx xs.length 0 lo)).take (HT.sIx xs.length xs.length hi - HT.sIx xs.length 0 lo), PyProof.Rows.IsTup.new _ _⟩))
  exact ⟨.ref s.heap.objs.size, _, I2, rfl, q2 hw _ _ (I.hok.fresh (Nat.le_refl _)) rfl⟩
theorem e_sl (he : PE X a (tE X.K ca W f)) (hl : PO X lo (tO X.K ca W p)) (hu : PO X hi (tO X.K ca W q)) : PE X (.Subscript a (.Slice lo hi none p2) pos) (tE X.K ca W (iSl f p q)) := by
  refine PE.imp (pe_slice (SlR.or sl_list sl_tupN) he hl hu) fun σ H Q ⟨B, F, m, s, c, h⟩ => ?_
  refine ⟨B, F, m, s, c, ResG.imp (ResG.bind h) fun F1 m1 s1 H1 x a1 a2 c1 h1 v rv => ?_⟩
  obtain ⟨F2, b1, c2, hx⟩ := hold_ok c1 rv
  refine ⟨B, F2, m1, s1, c2, ResG.imp (ResG.bind (ResG.mono b1 (List.prefix_refl _) h1)) fun F3 m3 s3 H3 l a3 a4 c3 h3 => ?_⟩
  refine ⟨B, F3, m3, s3, c3, ResG.imp (ResG.bind h3) fun F5 m5 s5 H5 u a5 a6 c5 h5 => ?_⟩
  have hx' := HR.mono (a3.trans a5) (a4.trans a6) hx
  cases e1 : rdv s5 (hold x) with
  | none => rw [e1] at h5; exact h5.elim
  | some d =>
    rw [e1] at h5
    have rd := rdv_rp c5 hx' e1
    cases d with
    | lst xs =>
      obtain ⟨b, vs, rfl, hb, ra⟩ := rd
      refine .inl ⟨b, vs, rfl, SqL.of hb, fun pp hp => ?_⟩
      exact ansL c5 (fun F' H' w g1 c6 r6 => ResG.now (W := W) c6 (ResG.mono g1 (List.prefix_refl _) h5) w r6) (cut_rws ra) pp hp
    | tup xs =>
      obtain ⟨b, vs, rfl, hb, ra⟩ := rd
      refine .inr ⟨b, vs, rfl, (hb.sqt c5.fh), fun hw => ?_, fun _ pp ob hp hd => ?_⟩
      · have e3 : cutD xs l u = xs := cut_all (by rw [ra.length]; exact hw)
        have h6 : ResG X.K ca W B σ F5 m5 (PEx X.K B σ Q) (.ok (.w (.tup (cutD xs l u))) s5) := h5
        rw [e3] at h6
        exact ResG.now (W := W) c5 h6 _ ⟨b, vs, rfl, hb, ra⟩
      · exact ansT c5 (fun F' H' w g1 c6 r6 => ResG.now (W := W) c6 (ResG.mono g1 (List.prefix_refl _) h5) w r6) (cut_rws ra) pp ob hp hd
    | _ => exact h5.elim
end
end Lk
namespace Lk
open PySem L2 PySem.W PyProof.Rows PySem.Calls
mutual
def toP : D → PyData
  | .non => .none
  | .bl b => .bool b
  | .int i => .int i
  | .str x => .str x
  | .tup xs => .tuple (toPs xs)
  | .lst xs => .list (toPs xs)
  | .ref _ => .none
  | .rol _ => .none
  | .dct => .none
  | .pr _ => .none
def toPs : List D → List PyData
  | [] => []
  | x :: xs => toP x :: toPs xs
end
mutual
def okP : D → Bool
  | .non => true
  | .bl _ => true
  | .int _ => true
  | .str _ => true
  | .tup xs => okPs xs
  | .lst xs => okPs xs
  | .ref _ => false
  | .rol _ => false
  | .dct => false
  | .pr _ => false
def okPs : List D → Bool
  | [] => true
  | x :: xs => okP x && okPs xs
end
section
variable {X : Cx} {pins : List (Addr × Obj)} {σ : L2.St} {H F : Hp} {s : Shared} {m : List Addr}
mutual
theorem reads_of (I : Inv X pins σ H s) (hF : Sub F H) : ∀ (d : D) (x : V) (u : Value), okP d = true → RW X.K F m d x → RelV x u → ∃ as, Reads s.heap u (toP d) as
  | .non, x, u, _, r, q => by
    have r : x = .non := r
    subst r
    have q : u = .none := q
    subst q
    exact ⟨[], by unfold toP; exact .none⟩
  | .bl b, x, u, _, r, q => by
    have r : x = .bl b := r
    subst r
    have q : u = .bool b := q
    subst q
    exact ⟨[], by unfold toP; exact .bool b⟩
  | .int i, x, u, _, r, q => by
    have r : x = .int i := r
    subst r
    obtain ⟨t, rfl⟩ := q
    exact ⟨[], by unfold toP; exact .int i t⟩
  | .str i, x, u, _, r, q => by
    have r : x = .str i := r
    subst r
    obtain ⟨t, rfl⟩ := q
    exact ⟨[], by unfold toP; exact .str i t⟩
  | .tup xs, x, u, h, r, q => by
    obtain ⟨a, vs, rfl, ha, ra⟩ := r
    cases q
    obtain ⟨its, rv, ⟨o, ho, hc, n, hd⟩, _⟩ := I.tuple (ha.sqt hF)
    unfold okP at h
    obtain ⟨as, ras⟩ := readsAll_of I hF xs vs its h ra rv
    refine ⟨as, ?_⟩
    unfold toP
    exact .tuple ho hc hd (by simpa using ras)
  | .lst xs, x, u, h, r, q => by
    obtain ⟨a, vs, rfl, ha, ra⟩ := r
    cases q
    obtain ⟨its, rv, hl, _⟩ := I.list (SqL.of (hF a _ ha))
    obtain ⟨o, ho, hc, n, hd⟩ := hl.isList
    unfold okP at h
    obtain ⟨as, ras⟩ := readsAll_of I hF xs vs its h ra rv
    refine ⟨a :: as, ?_⟩
    unfold toP
    exact .list ho hc hd (by simpa using ras)
  | .ref _, _, _, h, _, _ => by unfold okP at h; cases h
  | .rol _, _, _, h, _, _ => by unfold okP at h; cases h
  | .dct, _, _, h, _, _ => by unfold okP at h; cases h
  | .pr _, _, _, h, _, _ => by unfold okP at h; cases h
theorem readsAll_of (I : Inv X pins σ H s) (hF : Sub F H) : ∀ (ds : List D) (vs : List V) (us : List Value), okPs ds = true → RWs X.K F m ds vs → Vals vs us → ∃ as, ReadsAll s.heap us (toPs ds) as
  | [], vs, us, _, r, q => by
    have r : vs = [] := r
    subst r
    cases q
    exact ⟨[], by unfold toPs; exact .nil⟩
  | d :: ds, vs, us, h, r, q => by
    obtain ⟨v, vr, rfl, hv, hr⟩ := r
    unfold okPs at h
    rw [Bool.and_eq_true] at h
    cases q with
    | cons q1 q2 =>
      obtain ⟨a1, r1⟩ := reads_of I hF d v _ h.1 hv q1
      obtain ⟨a2, r2⟩ := readsAll_of I hF ds vr _ h.2 hr q2
      exact ⟨a1 ++ a2, by unfold toPs; exact .cons r1 r2⟩
end
end
def isTupN : D → Bool
  | .tup (_ :: _) => true
  | _ => false
def noTupN : D → Bool
  | .tup _ => false
  | .pr _ => false
  | .non => false
  | .ref _ => false
  | .rol _ => false
  | .dct => false
  | _ => true
def sortOk (ds : List D) : Bool := ds.all okP && (ds.all fun d => ds.all fun e => alike (toP d) (toP e)) && (ds.all isTupN || ds.all noTupN) && (ds.all fun d => decide ((toP d).depth ≤ 8)) && decide (ds.length ≤ 1000000)
def leP (a b : D) : Bool := dataLe false toP a b
def sortD (ds : List D) : List D := ds.mergeSort leP
def gSorted : List D → Option RX
  | [.lst ds] => if sortOk ds = true then some (.fr (sortD ds)) else none
  | [.tup ds] => if sortOk ds = true then some (.fr (sortD ds)) else none
  | _ => none
section
variable {prog : Program} {w : World} {A : Around} {E : Value → Shared → Prop} {s : Shared}
def colH (h : Heap) (xs : Array Value) : Heap := (h.push { cls := .type "list", data := .seq ([] : List Value).toArray }).update h.objs.size (Obj.mapSeq (· ++ xs))
theorem colH_size {h : Heap} {xs : Array Value} : (colH h xs).objs.size = h.objs.size + 1 := by
  unfold colH
  rw [Heap.size_update, size_push']
theorem colH_old {h : Heap} {xs : Array Value} {b : Addr} {o : Obj} (e : h.get? b = some o) : (colH h xs).get? b = some o := by
  have lt := Heap.lt_size e
  unfold colH
  rw [Heap.get?_update_ne _ _ _ _ (Nat.ne_of_lt lt)]
  exact Heap.get?_push_of_some _ e
theorem collectT {Q : List Value → Shared → Prop} (p : Addr) {T : String} {ob : Obj} {xs : Array Value} {k : Nat} (tT : T = "list" ∨ T = "tuple") (g1 : s.heap.get? p = some ob) (g2 : ob.cls = .type T) (g3 : ob.data = .seq xs k)
    (small : xs.size ≤ sizeLine) (done : Q xs.toList { s with heap := colH s.heap xs }) : wpAny (model prog w) A (collect (.ref p)) Q E s := by
  unfold collect
  refine wpAny_bind (wpAny_runValue (codeAny_builtin F.entry_proto_collect ?_))
  rw [Around.under_plainId F.plain_proto_collect _]
  show wpAny _ A.in1 (newList [] >>= fun z => again (.builtin "list.__iadd__" ⟨[z, .ref p], []⟩)) _ _ s
  refine wpAny_bind (wpAny_newObj_type ?_)
  refine wpAny_pure ⟨plainId_quiet F.plain_list_iadd _, codeAny_builtin F.entry_list_iadd ?_⟩
  rw [Around.under_plainId F.plain_list_iadd _]
  have new : (s.heap.push { cls := .type "list", data := .seq ([] : List Value).toArray }).get? s.heap.objs.size = some { cls := .type "list", data := .seq #[] 0 } := Heap.get?_push_size _ rfl
  have upd := Heap.get?_update_self (Obj.mapSeq (· ++ xs)) new rfl
  have last : wpAny (model prog w) A (match Value.ref s.heap.objs.size with
      | Value.ref q => do
        match (← load q).data with
          | Data.seq zs _ => pure zs.toList
          | _ => unsupported "internal:collect"
      | _ => unsupported "internal:collect") Q E { s with heap := colH s.heap xs } := by
    refine wpAny_bind (wpAny_load upd ?_)
    have z : ((#[] : Array Value) ++ xs).toList = xs.toList := by simp
    refine wpAny_pure ?_
    show Q ((#[] : Array Value) ++ xs).toList _
    rw [z]; exact done
  have go := wpAny_extend_seq (prog := prog) (w := w) (hsz := small) (A := A) (R := fun r s' => r = .ok (.ret (.ref s.heap.objs.size)) ∧ s' = { s with heap := colH s.heap xs }) (s := { s with heap := s.heap.push { cls := .type "list", data := .seq ([] : List Value).toArray } })
    s.heap.objs.size p (.ref s.heap.objs.size) 0 tT new (Heap.get?_push_of_some _ g1) g2 g3 ⟨rfl, rfl⟩
  refine wpAny_mono go (fun x s' h => ?_) (fun e s' h => absurd h.1 (by simp))
  cases x with
  | done f =>
    obtain ⟨h1, rfl⟩ := h
    cases h1
    exact last
  | again c' => exact ⟨h.1, codeAny_mono h.2 fun r s'' hr => by obtain ⟨rfl, rfl⟩ := hr; exact last⟩
variable {β : Type} {vs : List Value} {bs : List β} {enc : β → PyData} {R : Value → β → Prop}
theorem sort_at {hB : Heap} {a : Addr} {k : Nat} {Q : Value → Shared → Prop} (kp : ∀ b o, hB.get? b = some o → s.heap.get? b = some o) (big : hB.objs.size ≤ a) (hob : s.heap.get? a = some (seqObj "list" vs.toArray k))
    (e : EachIs R vs bs) (er : EachIs (fun v b => ∃ as, Reads hB v (enc b) as) vs bs) (hal : AllAlike (bs.map enc)) (hk : Sortable (bs.map enc)) (hL : bs.length ≤ sizeLine) (hu : ∀ b, b ∈ bs → A.units + 1 + (enc b).depth < cLine)
    (h : ∀ (h' : Heap) (out : List Value) (n : Nat), (∀ b o, hB.get? b = some o → h'.get? b = some o) → h'.get? a = some (seqObj "list" out.toArray n) → out.length = bs.length → EachIs R out (bs.mergeSort (dataLe false enc)) → Q .none { s with heap := h' }) :
    wpAny (model prog w) A (call (.builtin "list.sort") [.ref a]) Q E s := by
  have hlen : vs.length ≤ sizeLine := by rw [e.length]; exact hL
  have ne : ∀ b o, hB.get? b = some o → b ≠ a := fun b o q => Nat.ne_of_lt (Nat.lt_of_lt_of_le (Heap.lt_size q) big)
  have er2 : EachIs (fun v b => ∃ as, Reads (sortingHeap s.heap a vs) v (enc b) as) vs bs := er.mono fun _ _ ⟨as, r⟩ => ⟨as, PyProof.Rows.Reads.keeps (fun b o q => sortingHeap_old (ne b o q) (kp b o q)) r⟩
  have S : SortsAt prog w A.in1 { s with heap := sortingHeap s.heap a vs } (dataKind (sortingHeap s.heap a vs) (bs.map enc)) vs :=
    SortsAt.data (s := { s with heap := sortingHeap s.heap a vs }) (each_map (R := fun v d => ∃ as, Reads (sortingHeap s.heap a vs) v d as) enc er2) hal hk (bound_map hu)
  refine wpAny_call_entry slot_list_sort ⟨_, hob, rfl⟩ entry_list_sort (list_sort_vals hob S hlen ⟨.none, rfl, ?_⟩) (args_list_sort _)
  obtain ⟨c, hc2⟩ := sortedHeap_at (vs := vs) (out := (sortVals (dataKind (sortingHeap s.heap a vs) (bs.map enc)) false vs vs).toArray) hob
  exact h _ _ c (fun b o q => (sortedHeap_old (ne b o q) (Heap.lt_size (kp b o q))).trans (kp b o q)) hc2 (by rw [sortVals_length false rfl]; exact e.length) (sortVals_data false e er2 hal)
theorem sorted_seq {l : Addr} {T : String} {o : Obj} {n : Nat} {Q : Value → Shared → Prop} (hT : T = "list" ∨ T = "tuple") (ho : s.heap.get? l = some o) (hc : o.cls = .type T) (hd : o.data = .seq vs.toArray n)
    (e : EachIs R vs bs) (er : EachIs (fun v b => ∃ as, Reads s.heap v (enc b) as) vs bs) (hal : AllAlike (bs.map enc)) (hk : Sortable (bs.map enc)) (hL : bs.length ≤ sizeLine) (hu : ∀ b, b ∈ bs → A.units + 2 + (enc b).depth < cLine)
    (h : ∀ (h' : Heap) (a : Addr) (out : List Value) (n : Nat), (∀ b o, s.heap.get? b = some o → h'.get? b = some o) → s.heap.objs.size ≤ a → h'.get? a = some (seqObj "list" out.toArray n) → out.length = bs.length → EachIs R out (bs.mergeSort (dataLe false enc)) → Q (.ref a) { s with heap := h' }) :
    wpAny (model prog w) A (call (.builtin "sorted") [.ref l]) Q E s := by
  have hlen : vs.length ≤ sizeLine := by rw [e.length]; exact hL
  refine call_function_entry kind_sorted plain_sorted entry_sorted (args_sorted1 _) ?_
  unfold Builtin.«sorted»
  refine wpAny_bind (m := checkCount "sorted" 1 1 _) (wpAny_pure ?_)
  refine wpAny_bind (collectT l hT ho hc hd (by simpa using hlen) ?_)
  refine wpAny_bind (wpAny_newList ?_ (by simpa using hlen))
  have ev : vs.toArray.toList = vs := by simp
  rw [ev]
  have hob : ((colH s.heap vs.toArray).push (seqObj "list" vs.toArray 0)).get? (colH s.heap vs.toArray).objs.size = some (seqObj "list" vs.toArray 0) := Heap.get?_push_size _ rfl
  show wpAny _ _ _ _ _ { s with heap := (colH s.heap vs.toArray).push (seqObj "list" vs.toArray 0) }
  have kp : ∀ b o, s.heap.get? b = some o → ((colH s.heap vs.toArray).push (seqObj "list" vs.toArray 0)).get? b = some o := fun b o e => Heap.get?_push_of_some _ (colH_old e)
  have big : s.heap.objs.size ≤ (colH s.heap vs.toArray).objs.size := by rw [colH_size]; omega
  generalize (colH s.heap vs.toArray).push (seqObj "list" vs.toArray 0) = h1 at *
  generalize (colH s.heap vs.toArray).objs.size = a at *
  refine wpAny_bind (wpAny_holding (sort_at (s := { s with heap := h1 }) (hB := s.heap) kp big hob e er hal hk hL hu fun h' out n k1 k2 k3 k4 => ?_))
  exact wpAny_pure ⟨_, rfl, h h' a out n k1 big k2 k3 k4⟩
end
section
variable {X : Cx} {ca : Cl → Addr} {pins : List (Addr × Obj)} {σ : L2.St} {H F : Hp} {s : Shared} {m : List Addr}
theorem each_reads (I : Inv X pins σ H s) (hF : Sub F H) : ∀ (ds : List D) (vs : List V) (us : List Value), (∀ d ∈ ds, okP d = true) → RWs X.K F m ds vs → Vals vs us →
    EachIs (fun u d => ∃ v, RelV v u ∧ RW X.K F m d v) us ds ∧ EachIs (fun u d => ∃ as, Reads s.heap u (toP d) as) us ds
  | [], vs, us, _, r, q => by
    have r : vs = [] := r
    subst r
    cases q
    exact ⟨.nil, .nil⟩
  | d :: ds, vs, us, h, r, q => by
    obtain ⟨v, vr, rfl, hv, hr⟩ := r
    cases q with
    | cons q1 q2 =>
      obtain ⟨a, b⟩ := each_reads I hF ds vr _ (fun z hz => h z (List.mem_cons_of_mem _ hz)) hr q2
      exact ⟨.cons ⟨v, q1, hv⟩ a, .cons (reads_of I hF d v _ (h d List.mem_cons_self) hv q1) b⟩
theorem each_back {K : PySem.W.Frag} : ∀ {us : List Value} {ds : List D}, EachIs (fun u d => ∃ v, RelV v u ∧ RW K F m d v) us ds → ∃ vs, Vals vs us ∧ RWs K F m ds vs
  | _, _, .nil => ⟨[], .nil, rfl⟩
  | _, _, .cons ⟨v, q, r⟩ t => by
    obtain ⟨vs, a, b⟩ := each_back t
    exact ⟨v :: vs, .cons q a, ⟨v, vs, rfl, r, b⟩⟩
theorem sort_facts {ds : List D} (h : sortOk ds = true) : (∀ d ∈ ds, okP d = true) ∧ AllAlike (ds.map toP) ∧ Sortable (ds.map toP) ∧ (∀ d ∈ ds, (toP d).depth ≤ 8) ∧ ds.length ≤ 1000000 := by
  unfold sortOk at h
  simp only [Bool.and_eq_true, List.all_eq_true, Bool.or_eq_true, decide_eq_true_eq] at h
  obtain ⟨⟨⟨⟨h1, h2⟩, h3⟩, h4⟩, h5⟩ := h
  refine ⟨h1, fun d hd d' hd' => ?_, ?_, h4, h5⟩
  · obtain ⟨x, hx, rfl⟩ := List.mem_map.mp hd
    obtain ⟨y, hy, rfl⟩ := List.mem_map.mp hd'
    exact h2 x hx y hy
  · rcases h3 with h3 | h3
    · refine .inl fun d hd => ?_
      obtain ⟨x, hx, rfl⟩ := List.mem_map.mp hd
      have q := h3 x hx
      unfold isTupN at q
      split at q
      · exact ⟨_, _, by unfold toP toPs; rfl⟩
      · cases q
    · refine .inr fun d hd => ?_
      obtain ⟨x, hx, rfl⟩ := List.mem_map.mp hd
      have q := h3 x hx
      cases x <;> first | (cases q; done) | (unfold toP; exact ⟨by simp, by simp⟩)
theorem c_sorted (hu : X.A.units + 30 < cLine) : CallR X (.builtin "sorted") (rc X.K ca gSorted) := by
  intro pins s σ H xs us Q I rx ⟨B, F, m, s1, σ1, ds, r, c, hx, hg, q⟩
  unfold gSorted at hg
  split at hg
  · rename_i ds
    split at hg
    · rename_i hok
      cases hg
      obtain ⟨x, rfl, b, vs, rfl, hb, rb⟩ := hx.one
      have rx1 := Vals.ref1 rx
      subst rx1
      obtain ⟨z, its, n, rv, e⟩ := I.hok b _ hb
      obtain ⟨h1, h2, h3, h4, h5⟩ := sort_facts hok
      obtain ⟨e1, e2⟩ := each_reads I c.fh ds vs its h1 rb rv
      refine sorted_seq (vs := its) (bs := ds) (enc := toP) (T := "list") (.inl rfl) e rfl rfl e1 e2 h2 h3 (Nat.le_trans h5 (sz6 (Nat.le_refl _))) (fun d hd => by have := h4 d hd; omega) fun h' a out n' k1 k2 k3 k4 k5 => ?_
      obtain ⟨ws, g1, g2⟩ := each_back k5
      have hn := I.hok.fresh k2
      have hlen : ws.length ≤ sizeLine := by
        rw [← g2.length, List.length_mergeSort]
        exact Nat.le_trans h5 (sz6 (Nat.le_refl _))
      exact ⟨.ref a, L2.upd H a (.lst ws), I.laid (t' := s.toks) k1 k2 ⟨hlen, out, n', g1, k3⟩, rfl, ansL c q g2 a hn⟩
    · cases hg
  · rename_i ds
    split at hg
    · rename_i hok
      cases hg
      obtain ⟨x, rfl, b, vs, rfl, hb, rb⟩ := hx.one
      have rx1 := Vals.ref1 rx
      subst rx1
      obtain ⟨its, rv, ⟨o, ho, hc, n, hd⟩, _⟩ := I.tuple ((hb.sqt c.fh))
      obtain ⟨h1, h2, h3, h4, h5⟩ := sort_facts hok
      obtain ⟨e1, e2⟩ := each_reads I c.fh ds vs its h1 rb rv
      refine sorted_seq (vs := its) (bs := ds) (enc := toP) (T := "tuple") (.inr rfl) ho hc hd e1 e2 h2 h3 (Nat.le_trans h5 (sz6 (Nat.le_refl _))) (fun d hd => by have := h4 d hd; omega) fun h' a out n' k1 k2 k3 k4 k5 => ?_
      obtain ⟨ws, g1, g2⟩ := each_back k5
      have hn := I.hok.fresh k2
      have hlen : ws.length ≤ sizeLine := by
        rw [← g2.length, List.length_mergeSort]
        exact Nat.le_trans h5 (sz6 (Nat.le_refl _))
      exact ⟨.ref a, L2.upd H a (.lst ws), I.laid (t' := s.toks) k1 k2 ⟨hlen, out, n', g1, k3⟩, rfl, ansL c q g2 a hn⟩
    · cases hg
  · cases hg
end
end Lk
namespace Lk
open PySem L2
def boolsD : List D → Option (List Bool)
  | [] => some []
  | .bl i :: r => match boolsD r with
    | some l => some (i :: l)
    | none => none
  | _ :: _ => none
theorem boolsD_eq : ∀ {ds : List D} {ns : List Bool}, boolsD ds = some ns → ds = ns.map D.bl
  | [], ns, h => by cases h; rfl
  | .bl i :: r, ns, h => by
    unfold boolsD at h
    cases e : boolsD r with
    | none => rw [e] at h; cases h
    | some l => rw [e] at h; cases h; rw [boolsD_eq e]; rfl
  | .non :: _, _, h => by cases h
  | .int _ :: _, _, h => by cases h
  | .str _ :: _, _, h => by cases h
  | .ref _ :: _, _, h => by cases h
  | .tup _ :: _, _, h => by cases h
  | .lst _ :: _, _, h => by cases h
  | .rol _ :: _, _, h => by cases h
  | .dct :: _, _, h => by cases h
theorem bools_rws {K : PySem.W.Frag} {F : Hp} {m : List Addr} : ∀ {ns : List Bool} {vs : List V}, RWs K F m (ns.map D.bl) vs → vs = ns.map V.bl
  | [], vs, h => h
  | n :: ns, vs, h => by
    obtain ⟨v, r, rfl, hv, hr⟩ := h
    have hv : v = .bl n := hv
    rw [hv, bools_rws hr]
    rfl
def gAll : List D → Option RX
  | [.lst ds] => match boolsD ds with
    | some bs => some (.w (.bl (bs.all id)))
    | none => none
  | _ => none
def signN (x : Str) : Option Nat := match x.cps.toList with
  | [c] => some c
  | _ => none
theorem signN_eq {x : Str} {c : Nat} (h : signN x = some c) : x = ⟨#[c]⟩ := by
  unfold signN at h
  split at h
  · rename_i d e
    cases h
    cases x with
    | mk cps =>
      congr 1
      exact Array.toList_inj.mp e
  · cases h
def gNiS (d e : D) : Option RX := match d, e with
  | .str x, .str z => (signN x).map fun c => .w (.bl (!decide (c ∈ z.cps.toList)))
  | _, _ => none
section
variable {X : Cx} {ca : Cl → Addr}
theorem c_all (hc : X.calm = true) : CallR X (.builtin "all") (rc X.K ca gAll) := cbr fun B F m s σ H ds r xs Q c hx hg q => by
  unfold gAll at hg
  split at hg
  · rename_i ds
    split at hg
    · rename_i bs e
      cases hg
      obtain ⟨x, rfl, b, vs, rfl, hb, rb⟩ := hx.one
      rw [boolsD_eq e] at rb
      have ev := bools_rws rb
      subst ev
      exact ⟨_, cr_all hc, b, bs, rfl, SqL.of hb, ansW c q rfl⟩
    · cases hg
  · cases hg
theorem o_niS : OpR X (compareOp .NotIn) (r2 X.K ca gNiS) := opr fun B F m s σ H d e r x y Q c hx hy hg q => by
  unfold gNiS at hg
  split at hg
  · rename_i a z
    cases e1 : signN a with
    | none => rw [e1] at hg; cases hg
    | some k =>
      rw [e1] at hg
      cases hg
      have ea := signN_eq e1
      subst ea
      exact ⟨_, op_notIn_sign, _, _, hx, hy, ansW c q rfl⟩
  · cases hg
end
noncomputable def gStr : List D → Option RX
  | [.int i] => if dec (i.natAbs < 2 ^ 200) = true then some (.w (.str (toString i))) else none
  | [.str x] => some (.w (.str x))
  | _ => none
def enumD : Nat → List D → List D
  | _, [] => []
  | k, x :: xs => .pr [.int (k : Nat), x] :: enumD (k + 1) xs
theorem enumD_get : ∀ {xs : List D} {k i : Nat} {z : D}, (enumD k xs)[i]? = some z → ∃ x, z = .pr [.int ((k + i : Nat) : Int), x] ∧ xs[i]? = some x
  | [], k, i, z, h => by unfold enumD at h; simp at h
  | x :: xs, k, 0, z, h => by
    unfold enumD at h
    simp at h
    exact ⟨x, h.symm, rfl⟩
  | x :: xs, k, i + 1, z, h => by
    unfold enumD at h
    simp only [List.getElem?_cons_succ] at h ⊢
    obtain ⟨y, e1, e2⟩ := enumD_get h
    refine ⟨y, ?_, e2⟩
    rw [e1, show k + 1 + i = k + (i + 1) by omega]
theorem enumD_length : ∀ {xs : List D} {k : Nat}, (enumD k xs).length = xs.length
  | [], k => rfl
  | x :: xs, k => by
    unfold enumD
    rw [List.length_cons, enumD_length, List.length_cons]
def qEnum (f : E) : Sq := fun s => (f s).bind fun r s1 => match settle r s1 with
  | some (.lst xs, s2) => .ok (enumD 0 xs, .val) s2
  | some (.ref n, s2) => match s2.hp[n]? with
    | some (.lst xs) => .ok (enumD 0 xs, .obe n xs) s2
    | _ => .stuck
  | _ => .stuck
section
variable {K : PySem.W.Frag} {ca : Cl → Addr} {F F' : Hp} {m m' : List Addr}
theorem walks_enum {a : Addr} {xs : List D} {vs : List V} (h : SqL K F a vs) (r : RWs K F m xs vs) : Walks K ca F m (enumD 0 xs) .val (Ite K a) := by
  intro B F1 m1 s1 σ1 H1 a1 a2 c _
  have q := (a1.trans c.fh).sqL h
  refine ⟨fun i hi => ?_, ⟨vs, q, by rw [enumD_length, ← r.length]; exact Nat.le_refl _⟩, fun i z v H2 hz hy => ?_⟩
  · rw [enumD_length] at hi
    obtain ⟨v, hv, _⟩ := r.get (x := xs[i]) (List.getElem?_eq_getElem hi)
    exact ⟨vs, v, q, hv⟩
  · obtain ⟨T, x1, rfl, hT, rfl, h1⟩ := hy
    obtain ⟨x, rfl, hx⟩ := enumD_get hz
    obtain ⟨v, hv, rv⟩ := r.get hx
    have e1 := h1 vs q
    rw [hv] at e1; cases e1
    rw [Nat.zero_add]
    exact pair_new c hT (show RW K F1 m1 (.int (i : Nat)) (.int (i : Nat)) from rfl) (RW.mono a1 a2 x _ rv)
theorem walks_enumOb {a : Addr} {xs : List D} {n : Nat} (h : m[n]? = some a) : Walks K ca F m (enumD 0 xs) (.obe n xs) (Ite K a) := by
  intro B F1 m1 s1 σ1 H1 a1 a2 c ho
  have ho : s1.hp[n]? = some (.lst xs) := by
    unfold okAt at ho
    simpa using ho
  obtain ⟨vs, hv, r⟩ := c.hp n _ a ho (get_prefix a2 h)
  have q : SqL K H1 a vs := SqL.of hv
  refine ⟨fun i hi => ?_, ⟨vs, q, by rw [enumD_length, ← r.length]; exact Nat.le_refl _⟩, fun i z v H2 hz hy => ?_⟩
  · rw [enumD_length] at hi
    obtain ⟨v, hv, _⟩ := r.get (x := xs[i]) (List.getElem?_eq_getElem hi)
    exact ⟨vs, v, q, hv⟩
  · obtain ⟨T, x1, rfl, hT, rfl, h1⟩ := hy
    obtain ⟨x, rfl, hx⟩ := enumD_get hz
    obtain ⟨v, hv, rv⟩ := r.get hx
    have e1 := h1 vs q
    rw [hv] at e1; cases e1
    rw [Nat.zero_add]
    exact pair_new c hT (show RW K F1 m1 (.int (i : Nat)) (.int (i : Nat)) from rfl) rv
end
section
variable {X : Cx} {ca : Cl → Addr} {W : WX} {tg e e2 : Expr} {f g : E} {pos p : Pos}
theorem settleE {K : PySem.W.Frag} {σ : L2.St} {H : Hp} {B F : Hp} {m : List Addr} {s : Sx} {β : Type} {P : Hp → List Addr → Sx → Hp → β → Prop} {k : D → Sx → Rs β} {Q : VK} (c : Cor K ca B F m s σ H)
    (h : ResG K ca W B σ F m P ((f s).bind fun r s1 => match settle r s1 with | some (d, s2) => k d s2 | none => .stuck))
    (hk : ∀ F1 m1 s1 H1 d v, Cor K ca B F1 m1 s1 σ H1 → RW K F1 m1 d v → ResG K ca W B σ F1 m1 P (k d s1) → Q v H1) : tE K ca W f σ H Q := by
  refine ⟨B, F, m, s, c, ResG.imp (ResG.bind h) fun F1 m1 s1 H1 x a1 a2 c1 h1 v rv => ?_⟩
  cases e1 : settle x s1 with
  | none => rw [e1] at h1; exact (show False from h1).elim
  | some q =>
    obtain ⟨d, s2⟩ := q
    rw [e1] at h1
    obtain ⟨F2, b1, c2, hd⟩ := settle_ok c1 rv e1
    exact hk F2 m1 s2 H1 d v c2 hd (ResG.mono b1 (List.prefix_refl _) h1)
theorem q_enum {elts : List Expr} {kk : Nat} {tpos : Pos} (hg : Gl X "enumerate") (hm : X.mg "enumerate" = none) (ha : PE X e (tE X.K ca W f)) (hs : starEach [e] X.env = (false, eval e X.env) :: starEach [] X.env := by rfl) (hs2 : starEach [e] X.env = [(false, eval e X.env)] := by rfl) :
    PI X (.Tuple elts kk tpos) (.Call (.Name "enumerate" p) [e] [] pos) (tI X.K ca W (qEnum f)) := by
  refine PI.imp (pi_enum hg hm (pa_cons ha pa_nil hs) hs2) fun σ H R ⟨B, F, m, s, c, h⟩ => ?_
  have h : ResG X.K ca W B σ F m (fun F' m' s' H' (xs : List D × Src) => ∀ J, Walks X.K ca F' m' xs.1 xs.2 J → R J H') ((f s).bind fun r s1 => match settle r s1 with
      | some (d, s2) => (fun d s2 => match d with
        | .lst xs => .ok (enumD 0 xs, .val) s2
        | .ref n => match s2.hp[n]? with
          | some (.lst xs) => .ok (enumD 0 xs, .obe n xs) s2
          | _ => .stuck
        | _ => .stuck) d s2
      | none => .stuck) := by
    refine cast ?_ h
    unfold qEnum
    congr 2
    funext r s1
    cases settle r s1 with
    | none => rfl
    | some q => obtain ⟨d, s2⟩ := q; cases d <;> rfl
  refine settleE c h fun F1 m1 s1 H1 d v c1 rv h1 => ?_
  cases d with
  | lst xs =>
    obtain ⟨a, vs, rfl, ha, rr⟩ := rv
    exact ⟨a, vs, rfl, SqL.of (c1.fh a _ ha), ResG.now (W := W) c1 h1 _ (walks_enum (SqL.of ha) rr)⟩
  | ref n =>
    simp only at h1
    cases eh : s1.hp[n]? with
    | none => rw [eh] at h1; exact h1.elim
    | some ob =>
      rw [eh] at h1
      cases ob with
      | lst xs =>
        obtain ⟨a, hm, rfl⟩ := rv
        obtain ⟨vs, hv, rr⟩ := c1.hp n _ a eh hm
        exact ⟨a, vs, rfl, SqL.of hv, ResG.now (W := W) c1 h1 _ (walks_enumOb hm)⟩
      | _ => exact h1.elim
  | _ => exact h1.elim
end
section
variable {X : Cx} {ca : Cl → Addr} {W : WX} {e : Expr} {f : E} {pos pos' : Pos} {i : Nat} {n : Str}
end
end Lk
namespace Lk
open PySem L2
section
variable {X : Cx}
end
def op2k (k : D → Bool) (g : D → D → Option RX) (a b : E) : E := fun s => (a s).bind fun x s1 => match rdv s1 (hold x) with
  | some d0 => match k d0 with
    | true => (b s1).bind fun y s2 => match rdv s2 (hold x), rdv s2 (hold y) with
      | some d, some e => match g d e with
        | some r => .ok r s2
        | none => .stuck
      | _, _ => .stuck
    | false => .stuck
  | none => .stuck
def isStr : D → Bool
  | .str _ => true
  | _ => false
def rM1 (K : PySem.W.Frag) (ca : Cl → Addr) (g : D → D → Option RX) : V → List V → Hp → VK → Prop := fun x us H Q => ∃ u, us = [u] ∧ r2 K ca g x u H Q
section
variable {X : Cx} {ca : Cl → Addr} {W : WX} {o e : Expr} {f f' : E} {k : D → Bool} {g : D → D → Option RX} {T id : String} {n : Str} {apos pos : Pos}
theorem m1_imp {K : PySem.W.Frag} {σ : L2.St} {H : Hp} {Q : VK} (ht : ∀ F m H d v, k d = true → RP K F m H d v → tyV K T v H) (h : tE K ca W (op2k k g f f') σ H Q) : tBM K T (rM1 K ca g) (tE K ca W f) (tCons (tE K ca W f') tNil) σ H Q := by
  obtain ⟨B, F, m, s, c, h⟩ := h
  refine ⟨B, F, m, s, c, ResG.imp (ResG.bind h) fun F1 m1 s1 H1 x a1 a2 c1 h1 v rv => ?_⟩
  obtain ⟨F2, b1, c2, hx⟩ := hold_ok c1 rv
  cases e0 : rdv s1 (hold x) with
  | none => rw [e0] at h1; exact (show False from h1).elim
  | some d0 =>
    rw [e0] at h1
    cases ek : k d0 with
    | false => simp only [ek] at h1; exact (show False from h1).elim
    | true =>
      simp only [ek] at h1
      refine ⟨ht F2 m1 H1 d0 v ek (rdv_rp c2 hx e0), ?_⟩
      refine ⟨B, F2, m1, s1, c2, ResG.imp (ResG.bind (ResG.mono b1 (List.prefix_refl _) h1)) fun F3 m3 s3 H3 y a3 a4 c3 h3 u ru => ?_⟩
      obtain ⟨F4, b2, c4, hy⟩ := hold_ok c3 ru
      have hx' := HR.mono (a3.trans b2) a4 hx
      have h4 := ResG.mono b2 (List.prefix_refl _) h3
      cases e1 : rdv s3 (hold x) with
      | none => simp only [e1] at h4; exact (show False from h4).elim
      | some d =>
        cases e2 : rdv s3 (hold y) with
        | none => simp only [e1, e2] at h4; exact (show False from h4).elim
        | some e =>
          simp only [e1, e2] at h4
          cases e3 : g d e with
          | none => rw [e3] at h4; exact (show False from h4).elim
          | some r =>
            rw [e3] at h4
            exact ⟨u, rfl, B, F4, m3, s3, σ, d, e, r, c4, rdv_rp c4 hx' e1, rdv_rp c4 hy e2, e3, fun F' H' w q1 q2 q3 => h4 F' m3 H' q1 (List.prefix_refl _) q2 w q3⟩
theorem ty_str {K : PySem.W.Frag} {F : Hp} {m : List Addr} {H : Hp} {d : D} {v : V} (h : isStr d = true) (r : RP K F m H d v) : tyV K "str" v H := by
  cases d <;> first | (cases h; done) | skip
  have r : v = .str _ := r
  subst r
  exact rfl
theorem e_m1 (ht : ∀ F m H d v, k d = true → RP X.K F m H d v → tyV X.K T v H) (pa : PlainAttrs T) (slot : Slot T n id) (hty : typeOf (.builtin id) = pure (.type "method_descriptor")) (hm : MtR X id (rM1 X.K ca g)) (ho : PE X o (tE X.K ca W f)) (ha : PE X e (tE X.K ca W f'))
    (hbase : attributeBase o n X.env (eval o X.env) = eval o X.env := by rfl)
    (hfew : ((backTo pos (starEach [e] X.env)).all (fun x => !x.1) && (backToKw pos (keywordEach [] X.env)).all (fun x => x.1.isSome)
      && decide (([e] : List Expr).length + ([] : List Keyword).length + (if ([] : List Keyword).isEmpty then 0 else 1) < 30)) = true := by rfl)
    (hline : (apos.endLine == pos.line) = true := by rfl) (hs : starEach [e] X.env = (false, eval e X.env) :: starEach [] X.env := by rfl) (hplain : (backTo pos (starEach [] X.env)).any (·.1) = false := by rfl) :
    PE X (.Call (.Attribute o n apos) [e] [] pos) (tE X.K ca W (op2k k g f f')) := PE.imp (pe_bm pa slot hty hm ho (pa_cons ha pa_nil hs) hbase hfew hline hs hplain) fun _ _ _ h => m1_imp ht h
end
end Lk
namespace Lk
open PySem L2
def iSetIx (o i v : E) : I := fun s => thenS (arg v s) fun d s1 => thenS (o s1) fun r s2 => match getL s2 (hold r) with
  | some _ => thenS (i s2) fun q s3 => match q with
    | .w (.int k) => match getL s3 (hold r) with
      | some xs => match ixN xs.length k with
        | some j => .nx (putL s3 (xs.set j d) (hold r))
        | none => .stuck
      | none => .stuck
    | _ => .stuck
  | none => .stuck
section
variable {X : Cx} {ca : Cl → Addr} {W : WX} {o i v : Expr} {f g h : E} {pos pos' : Pos}
theorem setix_imp {E : Ends} {σ : L2.St} {H : Hp} (q : tS X.K ca W (iSetIx f g h) E σ H) : tAsg (tE X.K ca W h) (L2.gSub (tE X.K ca W f) (tE X.K ca W g) rSetL) E σ H := by
  obtain ⟨B, F, m, s, c, q⟩ := q
  refine argS c q fun F1 m1 s1 H1 d u c1 rd h1 => ?_
  refine ⟨B, F1, m1, s1, c1, ResG.imp (thenS_g h1) fun F2 m2 s2 H2 x a1 a2 c2 h2 w rw => ?_⟩
  obtain ⟨F3, b1, c3, hx⟩ := hold_ok c2 rw
  have rd2 := RW.mono (a1.trans b1) a2 d u rd
  cases e1 : getL s2 (hold x) with
  | none => rw [e1] at h2; exact (show False from h2).elim
  | some xs0 =>
    rw [e1] at h2
    refine ⟨B, F3, m2, s2, c3, ResG.imp (thenS_g (SRg.mono (D := E) b1 (List.prefix_refl _) h2)) fun F4 m4 s4 H4 y a3 a4 c4 h4 z rz => ?_⟩
    cases y with
    | w dd =>
      cases dd with
      | int k =>
        have rz : z = .int k := rz
        subst rz
        simp only at h4
        have hx4 := HR.mono a3 a4 hx
        have rd4 := RW.mono a3 a4 d u rd2
        cases e2 : getL s4 (hold x) with
        | none => rw [e2] at h4; exact (show False from h4).elim
        | some xs =>
          rw [e2] at h4
          simp only at h4
          cases e3 : ixN xs.length k with
          | none => rw [e3] at h4; exact (show False from h4).elim
          | some j =>
            rw [e3] at h4
            obtain ⟨a, vs, rfl, ha, hr, hp⟩ := c4.list_at hx4 e2
            refine ⟨a, vs, k, j, rfl, rfl, ha, by rw [← hr.length]; exact e3, ?_⟩
            exact SRg.now (W := W) (hp _ _ (RWs.set rd4 j hr)) h4
      | _ => exact (show False from h4).elim
    | _ => exact (show False from h4).elim
theorem s_setIx (ho : PE X o (tE X.K ca W f)) (hi : PE X i (tE X.K ca W g)) (hv : PE X v (tE X.K ca W h)) (hs : swapsWithSole [.Subscript o i pos'] v pos.line X.env = pure false := by rfl) (hw : swappedStores [.Subscript o i pos'] v X.env = pure none := by rfl)
    (h1 : (assignEach [.Subscript o i pos'] X.env).map (·.2) = [assign (.Subscript o i pos') X.env] := by rfl)
    (h2 : ∀ z, assign (.Subscript o i pos') X.env z = (do
      let a ← holding [z] (eval o X.env)
      let b ← holding [z, a] (eval i X.env)
      standAt pos'
      holding [z, a, b] (setItem a b z)
      release [z, a, b] []) := by intro _; rfl) :
    PS X (.Assign [.Subscript o i pos'] v pos) (tS X.K ca W (iSetIx f g h)) := PS.imp (ps_asg hv (pg_sub ho hi set_list h2) hs hw h1) fun _ _ _ => setix_imp
end
section
variable {X : Cx} {ca : Cl → Addr} {W : WX} {o i v : Expr} {f g h : E} {pos pos' : Pos}
end
end Lk
namespace Lk
open PySem PySem.Spec PyProof.Rows L2
section
variable {K : PySem.W.Frag} {ca : Cl → Addr} {F F' : Hp} {m m' : List Addr}
end
section
variable {X : Cx} {ca : Cl → Addr} {W : WX} {e e2 : Expr} {f g : E} {pos p : Pos}
end
section
variable {X : Cx} {ca : Cl → Addr} {W : WX} {q : Sq} {t : Tgt} {te fe : E} {vs : List Nat} {elt tg iter cnd : Expr} {scope : Scope} {own : List (Str × Nat)} {pos spos py : Pos} {i : Nat} {y : Str}
end
end Lk
namespace Lk
open PySem L2
def FTd (K : PySem.W.Frag) (x qual : Str) (st : Stmt) (f : Addr) (ps : List Str) (dvs : List V) : Prop := ∃ fd, FunD K x qual (defArgs st) (defBody st) (defScope st) dvs [] f fd ∧ Binds K fd ps []
theorem ftd_mk {K : PySem.W.Frag} {x qual : Str} {st : Stmt} {f : Addr} {fd : FuncData} {ps : List Str} {dvs : List V} (F : FunD K x qual (defArgs st) (defBody st) (defScope st) dvs [] f fd) (hd : dvs ≠ [])
    (h : ∀ (T : Addr) (kV doc pm : Value) (an : Option Addr) (cdv ct : Value) (us its : List Value), us.length = ps.length → its.length = dvs.length → ∃ k, bindArgs (PySem.W.fnOf x qual (defArgs st) (defBody st) (defScope st) (.ref T) kV doc pm an cdv ct) ⟨us, []⟩ = seqItems? (.ref T) >>= k ∧ k (some its.toArray) = pure (ps.zip (us ++ its.drop dvs.length))) : FTd K x qual st f ps dvs := by
  obtain ⟨ds, a, b⟩ := F.binds1 (ps := ps) ps.length dvs.length hd (by omega) h
  rw [List.drop_length] at a
  cases a
  exact ⟨fd, F, b⟩
section
variable {P : Program} {w : World} {K : PySem.W.Frag} {mg : Str → Option Value} {base : Heap} {ca : Cl → Addr} {f : Addr} {k : Nat} {ps : List Str}
theorem fk_okD {x qual : Str} {st : Stmt} {N : List Str} {n j : Nat} {body : I} {dvs : List V} (F : FTd K x qual st f ps dvs) (S : FnScope N ps (defScope st)) (hn : ps.length = n) (hj : N.length = n + j)
    (hb : ∀ (cdv : Value) (A : Around) (outer : List Env) (s : Shared) (H : Hp) (E : XK), Room k (A.deeper (PyProof.Rows.envOfC qual (defScope st) s.heap.objs.size f cdv)) →
      ∀ W : WX, Takes (bodyX P w K mg base N qual st f cdv A outer s H E) W → PassesOwn (model P w) (bodyX P w K mg base N qual st f cdv A outer s H E).A (bodyX P w K mg base N qual st f cdv A outer s H E).env (bodyX P w K mg base N qual st f cdv A outer s H E).xe → PSs (bodyX P w K mg base N qual st f cdv A outer s H E) (defBody st) (tS K ca W body)) :
    FK P w K mg base ca (k + 1) f ps (mkFn n j body) := by
  obtain ⟨fd, F, b⟩ := F
  refine ⟨⟨fd, ?_, b⟩, F.kp⟩
  rw [hn]
  refine F.ok S (fun vs H Q E h => h.1.trans hn.symm) fun cdv A outer s H vs Q E hr h => ?_
  obtain ⟨hl, B, F0, m, ds, hp, c, r, g⟩ := h
  have hX := hb cdv A outer s H E hr (fun cls d _ H' => E cls d H') (takes_of rfl rfl rfl rfl) (passes_of rfl)
  refine ⟨_, hX, B, F0, m, _, by unfold L2.start; rw [show N.length - vs.length = j by omega]; exact c.params r j, ?_⟩
  unfold mkFn at g
  rw [if_pos (r.length.trans hl)] at g
  cases e : body ⟨ds.map SV.v ++ List.replicate j SV.no, hp⟩ with
  | nx s' => rw [e] at g; exact fun F' m' σ' H' a1 a2 c' => g F' m' H' .non a1 a2 c'.noEnv rfl
  | ret rr s' => rw [e] at g; exact fun F' m' σ' H' v a1 a2 c' q => g F' m' H' v a1 a2 c'.noEnv q
  | exc cc row s' => rw [e] at g; exact fun F' m' σ' H' d a1 a2 c' q => g F' m' H' d a1 a2 c'.noEnv q
  | brk s' => rw [e] at g; exact g.elim
  | cnt s' => rw [e] at g; exact g.elim
  | stuck => rw [e] at g; exact g.elim
end
end Lk
namespace RV
open PySem PySem.Spec PyProof.Rows RT
section
variable {prog : Program} {w : World} {A : Around} {E : Value → Shared → Prop} {s : Shared} {a t : Addr} {xs : Array Value}
end
end RV
namespace RV
open PySem L2 RT PyProof.Rows
end RV
namespace Lk
open PySem L2
end Lk
namespace Lk
open PySem L2
structure FKp (P : Program) (w : World) (K : PySem.W.Frag) (mg : Str → Option Value) (base : Heap) (ca : Cl → Addr) (k : Nat) (f : Addr) (ps : List Str) (M : Fn) (dvs : List V) : Prop where
  ok : ∃ fd, FnOk P w K mg base (L2.CX P w) k f fd ps (spF K ca ps.length M) ∧ Binds K fd ps [] ∧ ∃ ds, Vals dvs ds ∧ Binds K fd ps ds
  kp : PySem.W.keepIn K (.ref f) = true
section
variable {P : Program} {w : World} {K : PySem.W.Frag} {mg : Str → Option Value} {base : Heap} {ca : Cl → Addr} {f : Addr} {k : Nat} {ps : List Str} {M : Fn} {dvs : List V}
end
section
variable {X : Cx} {CX : CXT} {C f : Addr} {k : Nat} {fd : FuncData} {ps : List Str} {sp : Sp} {E : St → XK} {t : TA} {e : Expr} {es : List Expr} {x : Str} {p pos : Pos}
end
section
variable {X : Cx} {ca : Cl → Addr} {W : WX} {e : Expr} {es : List Expr} {fs : List E} {pos p : Pos} {x : Str} {M : Fn} {k j : Nat} {f : Addr} {ps : List Str} {c : Cl}
end
end Lk
namespace Lk
open PySem L2
section
variable {X : Cx} {ca : Cl → Addr}
end
end Lk
namespace Lk
open PySem PySem.Spec PyProof.Rows PyProof.V L2
section
variable {X : Cx} {ca : Cl → Addr}
end
end Lk
namespace Lk
open PySem PySem.Spec PyProof.Rows L2
end Lk
namespace Lk.DS
open PySem PySem.Spec PyProof.Rows L2
def stepU {α : Type} [DecidableEq α] (acc : List α) (x : α) : List α := if x ∈ acc then acc else acc ++ [x]
def unl {α : Type} [DecidableEq α] (l : List α) : List α := l.foldl stepU []
theorem mem_fold {α : Type} [DecidableEq α] (y : α) : ∀ (l acc : List α), y ∈ l.foldl stepU acc ↔ y ∈ acc ∨ y ∈ l
  | [], acc => by simp
  | x :: l, acc => by
    rw [List.foldl_cons, mem_fold y l]
    unfold stepU
    split
    · rename_i h
      constructor
      · rintro (a | a)
        · exact .inl a
        · exact .inr (List.mem_cons_of_mem _ a)
      · rintro (a | a)
        · exact .inl a
        · rcases List.mem_cons.mp a with e | e
          · subst e; exact .inl h
          · exact .inr e
    · constructor
      · rintro (a | a)
        · rcases List.mem_append.mp a with b | b
          · exact .inl b
          · rw [List.mem_singleton.mp b]; exact .inr List.mem_cons_self
        · exact .inr (List.mem_cons_of_mem _ a)
      · rintro (a | a)
        · exact .inl (List.mem_append.mpr (.inl a))
        · rcases List.mem_cons.mp a with e | e
          · subst e; exact .inl (by simp)
          · exact .inr e
theorem mem_unl {α : Type} [DecidableEq α] (y : α) (l : List α) : y ∈ unl l ↔ y ∈ l := by
  unfold unl
  rw [mem_fold]
  simp
theorem unl_snoc {α : Type} [DecidableEq α] (l : List α) (x : α) : unl (l ++ [x]) = stepU (unl l) x := by
  unfold unl
  rw [List.foldl_append]
  rfl
theorem fold_le {α : Type} [DecidableEq α] : ∀ (l acc : List α), (l.foldl stepU acc).length ≤ acc.length + l.length
  | [], acc => by simp
  | x :: l, acc => by
    have ih := fold_le l (stepU acc x)
    rw [List.foldl_cons]
    have : (stepU acc x).length ≤ acc.length + 1 := by
      unfold stepU
      split
      · simp
      · simp
    rw [List.length_cons]
    omega
theorem fold_nodup {α : Type} [DecidableEq α] : ∀ (l acc : List α), l.Nodup → (∀ x ∈ l, x ∉ acc) → l.foldl stepU acc = acc ++ l
  | [], acc, _, _ => by simp
  | x :: l, acc, h, d => by
    have h' := List.nodup_cons.mp h
    rw [List.foldl_cons]
    have e : stepU acc x = acc ++ [x] := if_neg (d x List.mem_cons_self)
    rw [e, fold_nodup l _ h'.2 fun y hy z => ?_]
    · simp
    · rcases List.mem_append.mp z with a | a
      · exact d y (List.mem_cons_of_mem _ hy) a
      · rw [List.mem_singleton.mp a] at hy
        exact h'.1 hy
theorem fold_lt {α : Type} [DecidableEq α] : ∀ (l acc : List α), (¬ l.Nodup ∨ ∃ x ∈ l, x ∈ acc) → (l.foldl stepU acc).length < acc.length + l.length
  | [], acc, h => by rcases h with h | ⟨x, h, _⟩ <;> simp at h
  | x :: l, acc, h => by
    rw [List.foldl_cons, List.length_cons]
    by_cases hx : x ∈ acc
    · have e : stepU acc x = acc := if_pos hx
      rw [e]
      have := fold_le l acc
      omega
    · have e : stepU acc x = acc ++ [x] := if_neg hx
      have ih := fold_lt l (acc ++ [x]) (by
        rcases h with h | ⟨y, hy, ha⟩
        · by_cases hm : x ∈ l
          · exact .inr ⟨x, hm, by simp⟩
          · exact .inl fun n => h (List.nodup_cons.mpr ⟨hm, n⟩)
        · rcases List.mem_cons.mp hy with q | q
          · subst q; exact absurd ha hx
          · exact .inr ⟨y, q, List.mem_append.mpr (.inl ha)⟩)
      rw [e]
      rw [List.length_append, List.length_singleton] at ih
      omega
theorem unl_len {α : Type} [DecidableEq α] (l : List α) : (unl l).length ≤ l.length := by
  have := fold_le l []
  simpa [unl] using this
theorem unl_iff {α : Type} [DecidableEq α] (l : List α) : (unl l).length = l.length ↔ l.Nodup := by
  constructor
  · intro h
    by_cases n : l.Nodup
    · exact n
    · have := fold_lt l [] (.inl n)
      unfold unl at h
      simp at this
      omega
  · intro n
    unfold unl
    rw [fold_nodup l [] n fun _ _ => by simp]
    simp
theorem fold_map {α β : Type} [DecidableEq α] [DecidableEq β] (f : α → β) (inj : ∀ a b, f a = f b → a = b) : ∀ (l acc : List α), (l.map f).foldl stepU (acc.map f) = (l.foldl stepU acc).map f
  | [], acc => rfl
  | x :: l, acc => by
    have e : stepU (acc.map f) (f x) = (stepU acc x).map f := by
      unfold stepU
      by_cases h : x ∈ acc
      · rw [if_pos h, if_pos (List.mem_map_of_mem h)]
      · have h' : f x ∉ acc.map f := fun z => by
          obtain ⟨y, hy, q⟩ := List.mem_map.mp z
          rw [inj _ _ q] at hy
          exact h hy
        rw [if_neg h, if_neg h', List.map_append]
        rfl
    rw [List.map_cons, List.foldl_cons, e, fold_map f inj l]
    rfl
theorem unl_map {α β : Type} [DecidableEq α] [DecidableEq β] (f : α → β) (inj : ∀ a b, f a = f b → a = b) (l : List α) : (unl (l.map f)).length = (unl l).length := by
  have := fold_map f inj l []
  unfold unl
  rw [List.map_nil] at this
  rw [this, List.length_map]
def isIn {α : Type} [DecidableEq α] (x : α) (l : List α) : Bool := decide (x ∈ l)
theorem isIn_snoc {α : Type} [DecidableEq α] (j z : α) (l : List α) : isIn j (l ++ [z]) = (isIn j l || decide (j = z)) := by
  unfold isIn
  by_cases h1 : j ∈ l <;> by_cases h2 : j = z <;> simp [h1, h2]
theorem unl_snoc_len {α : Type} [DecidableEq α] (z : α) (l : List α) : (unl (l ++ [z])).length = if isIn z l = true then (unl l).length else (unl l).length + 1 := by
  rw [unl_snoc]
  unfold stepU isIn
  by_cases h1 : z ∈ l
  · rw [if_pos (decide_eq_true h1), if_pos ((mem_unl z _).mpr h1)]
  · rw [if_neg (fun q => h1 (of_decide_eq_true q)), if_neg (fun q => h1 ((mem_unl z _).mp q))]
    simp
section
variable {P : Program} {w : World} {A : Around} {E : Value → Shared → Prop} {s : Shared}
theorem fill {I : Addr} {fp wr : List Addr} {G : Array GenState → Array GenState → Prop} {n : Nat} {Pv : Nat → Value → Prop} {St : Nat → Shared → Prop} {R : Result → Shared → Prop}
    (W : WalksS P w A.in1 I fp wr G n Pv St) (S : Addr) (hSf : S ∉ fp) (ks : List Key) (hn : n = ks.length) (hb : ks.length + 1 < scanBound)
    (hval : ∀ i v, Pv i v → ∃ k, ks[i]? = some k ∧ (mixKind P w).is k v = true ∧ v.scannable = true) :
    ∀ (k i : Nat) (s : Shared), n - i = k → i ≤ n → St i s → s.heap.SetOf (mixKind P w) S (fun j => isIn j (ks.take i)) (unl (ks.take i)).length →
      (∀ s', Moved (S :: wr) G s s' → s'.heap.SetOf (mixKind P w) S (fun j => isIn j ks) (unl ks).length → R (.ok (.ret .none)) s') →
      codeAny (model P w) A (.builtin "set.update.loop" ⟨[.ref S, .ref I], []⟩) R s := by
  have hSw : S ∉ wr := fun h => hSf (W.sub _ h)
  have hsub : ∀ b ∈ wr, b ∈ S :: wr := fun b hb => List.mem_cons_of_mem _ hb
  intro k
  induction k with
  | zero =>
    intro i s hk hi hst hS hR
    obtain rfl : i = n := by omega
    refine codeAny_builtin F.entry_set_update_loop ?_
    rw [Around.under_plainId F.plain_set_update_loop _]
    refine wpAny_bind (W.done s _ _ hst fun s' hm => ?_)
    show wpAny _ A.in1 (ret Value.none) _ _ s'
    rw [List.take_of_length_le (by omega)] at hS
    exact wpAny_pure (hR s' (hm.mono hsub) (setOf_at hS fun o e => hm.heap S o hSw e))
  | succ k ih =>
    intro i s hk hi hst hS hR
    have hlt : i < n := by omega
    refine codeAny_builtin F.entry_set_update_loop ?_
    rw [Around.under_plainId F.plain_set_update_loop _]
    refine wpAny_bind (W.item i s _ _ hlt hst fun v s' hP hst' hm => ?_)
    obtain ⟨z, hz, hi1, hi2⟩ := hval i v hP
    have hS' := setOf_at hS fun o e => hm.heap S o hSw e
    show wpAny _ A.in1 (holding [v] (setAdd S v) >>= _) _ _ s'
    refine wpAny_bind (wpAny_holding ?_)
    unfold setAdd
    refine wpAny_holding ?_
    refine wpAny_bind ((mixKind P w).pyHash (k := z) hi1 ?_)
    have tk : ks.take (i + 1) = ks.take i ++ [z] := by rw [List.take_add_one, hz]; rfl
    have few := unl_len (ks.take i)
    have few2 : (ks.take i).length ≤ ks.length := by rw [List.length_take]; omega
    refine wpAny_setAddHashed_of (knd := mixKind P w) (s := { s' with toks := s'.toks + 1 }) hi1 hi2 hS' (by omega) fun h' hsb hS2 => ?_
    have hS3 : h'.SetOf (mixKind P w) S (fun j => isIn j (ks.take (i + 1))) (unl (ks.take (i + 1))).length := by
      rw [tk]
      have f1 : (fun k' => isIn k' (ks.take i) || decide (k' = z)) = fun j => isIn j (ks.take i ++ [z]) := funext fun j => (isIn_snoc j z _).symm
      have f2 : (if isIn z (ks.take i) = true then (unl (ks.take i)).length else (unl (ks.take i)).length + 1) = (unl (ks.take i ++ [z])).length := (unl_snoc_len z _).symm
      rw [← f1, ← f2]
      exact hS2
    refine wpAny_pure ⟨plainId_quiet F.plain_set_update_loop _, ih (i + 1) _ (by omega) hlt (W.frame _ s' _ _ hst' (Nat.le_succ _) fun b hb o e => ?_) hS3 fun s'' hm'' hS'' => ?_⟩
    · rw [hsb.2 b (fun h : b = S => hSf (by rw [← h]; exact hb))]; exact e
    · refine hR s'' (Moved.trans W.gtrans ((hm.mono hsub).then_heap (Nat.le_succ _) fun b o hb e => ?_) hm'') hS''
      rw [hsb.2 b (fun h : b = S => hb (by rw [h]; exact List.mem_cons_self))]; exact e
abbrev newS (led : Bool) : Obj := { cls := .type "set", dict := none, data := .set #[] 0 (.fresh 0 0 led) }
set_option maxHeartbeats 8000000 in
theorem set_tup {l : Addr} {items : Array Value} (ks : List Key) {Q : Value → Shared → Prop} (hh : A.handled = none) (hl : s.heap.IsTuple l items) (hn : items.size = ks.length)
    (hit : ∀ (i : Nat) (v : Value), items[i]? = some v → ∃ k, ks[i]? = some k ∧ (mixKind P w).is k v = true ∧ v.scannable = true) (hb : ks.length + 1 < scanBound)
    (h : ∀ (h' : Heap) (tk : Nat), h'.SetOf (mixKind P w) s.heap.objs.size (fun j => isIn j ks) (unl ks).length → (∀ b o, s.heap.get? b = some o → h'.get? b = some o) → Q (.ref s.heap.objs.size) { s with heap := h', toks := tk }) :
    wpAny (model P w) A (call (.type "set") [.ref l]) Q E s := by
  obtain ⟨c, tl, hmro⟩ := F.called_set.mro
  have hmade := F.called_set.made
  have hsub := F.called_set.sub
  have h1 := F.called_set.notType
  have h2 := F.called_set.canCreate
  have hct := F.typeCall_set_1 (.ref l)
  refine wpAny_call (codeAny_of_tree ?_)
  show wpAny _ _ (callAny (.type "set") _) _ _ _
  refine wpAny_pure ⟨Code.quiet_builtin _ (by decide +kernel), codeAny_builtin F.entry_type_call ?_⟩
  rw [Around.under_plain (weight_type_call_type "set" [.ref l] []) rfl]
  repeat (any_goals (first | assumption | wp_step))
  refine codeAny_mono (code_set_new_1 (.ref l) (E := E) (Q₁ := fun obj s₁ => ∃ led : Bool, obj = .ref s.heap.objs.size ∧ s₁ = { s with heap := s.heap.push (newS led) }) fun led => ⟨led, rfl, rfl⟩) fun r s₁ hr => ?_
  cases r with
  | error e => exact hr
  | ok fl =>
    cases fl with
    | next => exact hr.elim
    | brk => exact hr.elim
    | cont => exact hr.elim
    | ret obj =>
      obtain ⟨led, rfl, rfl⟩ := hr
      have hS : (s.heap.push (newS led)).get? s.heap.objs.size = some (newS led) := Heap.get?_push_size _ rfl
      have hT : Shared.TypeIs { s with heap := s.heap.push (newS led) } (.ref s.heap.objs.size) "set" := ⟨_, hS, rfl⟩
      have hli := F.called_set.init.lookup
      have hbi := F.called_set.init.bind (.ref s.heap.objs.size)
      repeat (any_goals (first | assumption | wp_step))
      refine codeAny_mono (codeAny_call_builtin (R := wants (fun r s₂ => r = .none ∧ ∃ h' tk, s₂ = { s with heap := h', toks := tk } ∧ h'.SetOf (mixKind P w) s.heap.objs.size (fun j => isIn j ks) (unl ks).length ∧
          (∀ b o, s.heap.get? b = some o → h'.get? b = some o)) E) F.called_set.init.plain F.entry_set_init (check_set_init_1 hT ?_)) fun r₂ s₂ hr₂ => ?_
      · obtain ⟨⟨oc, od, odt, osl⟩, hol, hcl, nl, hdl⟩ := hl
        simp only at hcl hdl
        subst hcl; subst hdl
        have hol' : (s.heap.push (newS led)).get? l = some { cls := .type "tuple", dict := od, data := .seq items nl, slots := osl } := Heap.get?_push_of_some _ hol
        have hl1 : (s.heap.push (newS led)).IsTuple l items := ⟨_, hol', rfl, nl, rfl⟩
        have hsls := F.sub_tuple_set
        have hslf := F.sub_tuple_frozenset
        have hne : (Value.type "tuple" == Value.type "dict") = false := by decide
        have hlS : l < s.heap.objs.size := Heap.lt_size hol
        have hz : (s.heap.push (newS led)).objs.size = s.heap.objs.size + 1 := Heap.size_push ..
        have hneI : l ≠ (s.heap.push (newS led)).objs.size := by
          rw [hz]
          exact Nat.ne_of_lt (Nat.lt_succ_of_lt hlS)
        have hSf : s.heap.objs.size ∉ [(s.heap.push (newS led)).objs.size, l] := by
          rw [hz]
          simp only [List.mem_cons, List.not_mem_nil, or_false, not_or]
          exact ⟨Nat.ne_of_lt (Nat.lt_succ_self _), Nat.ne_of_gt hlS⟩
        have hh3 : A.in1.in1.in1.handled = none := by simp [hh]
        unfold Builtin.«set.__init__» noKeywords Builtin.Frozenset.updateFrom
        generalize hPI : pyIter = PI
        wp_walk
        subst hPI
        refine wpAny_pyIter_tuple hl1 ?_
        refine wpAny_bind (wpAny_runValue ?_)
        refine fill ((Walks.tuple hh3 _ l hneI items).toS) s.heap.objs.size hSf ks hn hb hit (items.size - 0) 0 _ (by omega) (Nat.zero_le _) ⟨⟨_, Heap.get?_push_size _ rfl, rfl, rfl⟩, hl1.push _⟩ ?_ fun s' hm hS' => ?_
        · have hget : ((s.heap.push (newS led)).push { cls := .type "tuple_iterator", data := .fields #[.ref l, .int 0 0] }).get? s.heap.objs.size = some (newS led) := Heap.get?_push_of_some _ hS
          exact ⟨_, #[], 0, _, hget, ⟨rfl, rfl, rfl⟩, rfl, (fun e he => by simp at he), (fun k => by simp [isIn]), (by decide), (by rfl), rfl⟩
        · obtain ⟨h', g2, d', tk', os'⟩ := s'
          obtain rfl : g2 = s.gens := hm.gens
          obtain rfl : d' = s.drawn := hm.drawn
          obtain rfl : os' = s.os := hm.os
          show wpAny _ _ _ _ _ _
          refine wpAny_pure ?_
          show wpAny _ _ (ret Value.none) _ _ _
          refine wpAny_pure ⟨rfl, h', tk', rfl, hS', fun b o e => ?_⟩
          have hb0 : b < s.heap.objs.size := Heap.lt_size e
          refine hm.heap b o ?_ (Heap.get?_push_of_some _ (Heap.get?_push_of_some _ e))
          simp only [List.mem_cons, List.not_mem_nil, or_false, not_or]
          rw [hz]
          exact ⟨Nat.ne_of_lt hb0, Nat.ne_of_lt (Nat.lt_succ_of_lt hb0)⟩
      · cases r₂ with
        | error e => exact hr₂
        | ok fl₂ =>
          cases fl₂ with
          | next => exact hr₂.elim
          | brk => exact hr₂.elim
          | cont => exact hr₂.elim
          | ret r =>
            obtain ⟨rfl, h', tk, rfl, hS', hk'⟩ := hr₂
            repeat (any_goals (first | assumption | wp_step))
            exact h _ _ hS' hk'
end
section
variable {X : Cx}
def rSetT (P : Program) (w : World) (K : PySem.W.Frag) : List V → Hp → VK → Prop := fun xs H Q => ∃ (l : Addr) (ks : List Key), xs = [V.ref l] ∧ SqT K H l (ks.map kV) ∧ ks.length + 1 < scanBound ∧
  ∀ a, H a = none → Q (.ref a) (upd H a (SetK P w a (fun j => isIn j ks) (unl ks).length))
theorem cr_setT (hc : X.calm = true) : CallR X (.type "set") (rSetT X.prog X.w X.K) := by
  intro pins s σ H xs us Q I r h
  obtain ⟨l, ks, rfl, hl, hb, q⟩ := h
  rw [Vals.ref1 r]
  obtain ⟨its, rv, tp, _⟩ := I.tuple hl
  have hlen := rv.length
  rw [List.length_map] at hlen
  refine set_tup (P := X.prog) (w := X.w) (items := its.toArray) ks (I.ok.hd hc) tp (by simpa using hlen.symm) (fun i v e => ?_) hb fun h' tk R k => ?_
  · have e : its[i]? = some v := by simpa using e
    have hi : i < ks.length := by
      have := (List.getElem?_eq_some_iff.mp e).1
      omega
    obtain ⟨u, e2, ru⟩ := rv.get (i := i) (x := kV ks[i]) (by rw [List.getElem?_map, List.getElem?_eq_getElem hi]; rfl)
    rw [e] at e2
    cases e2
    exact ⟨ks[i], List.getElem?_eq_getElem hi, kV_is ru, key_scan ru⟩
  · exact ⟨.ref s.heap.objs.size, upd H s.heap.objs.size (SetK X.prog X.w s.heap.objs.size (fun j => isIn j ks) (unl ks).length), I.laid (t' := tk) k (Nat.le_refl _) (setK_new R), rfl, q _ (I.hok.fresh (Nat.le_refl _))⟩
def rLenK (P : Program) (w : World) : List V → Hp → VK → Prop := fun xs H Q => ∃ (a : Addr) (S : Key → Bool) (n : Nat), xs = [V.ref a] ∧ H a = some (SetK P w a S n) ∧ n < 4294967296 ∧ Q (.int n) H
theorem cr_lenK : CallR X (.builtin "len") (rLenK X.prog X.w) := by
  intro pins s σ H xs us Q I r h
  obtain ⟨a, S, n, rfl, ha, hn, q⟩ := h
  rw [Vals.ref1 r]
  obtain ⟨o, es, ep, t, ho, hex, hd, _, _, _, hf, hs⟩ := setK_get I ha
  subst hs
  refine call_len_set ho hex hd hf (by omega) ⟨.int es.size, H, I.tok _, ⟨_, rfl⟩, q⟩
end
end Lk.DS
namespace Lk
open PySem PySem.Spec PyProof.Rows L2
def keyU : D → Option Key
  | .int i => some (.inl i)
  | .str x => some (.inr x)
  | _ => none
def keysU : List D → Option (List Key)
  | [] => some []
  | x :: xs => match keyU x, keysU xs with
    | some k, some ks => some (k :: ks)
    | _, _ => none
theorem keysU_rw {K : PySem.W.Frag} {F : Hp} {m : List Addr} : ∀ {xs : List D} {ks : List Key} {vs : List V}, keysU xs = some ks → RWs K F m xs vs → vs = ks.map kV
  | [], ks, vs, h, r => by
    cases h
    exact (show vs = [] from r)
  | x :: xs, ks, vs, h, ⟨v, us, e, hv, hr⟩ => by
    subst e
    unfold keysU at h
    split at h
    · rename_i k1 ks1 h1 h2
      cases h
      rw [List.map_cons, keysU_rw h2 hr]
      congr 1
      cases x <;> first | (cases h1; done) | skip
      · cases h1
        exact (show v = .int _ from hv)
      · cases h1
        exact (show v = .str _ from hv)
    · cases h
theorem keysU_strs : ∀ ns : List Str, keysU (ns.map D.str) = some (ns.map Sum.inr)
  | [] => rfl
  | n :: ns => by
    show (match some (Sum.inr n), keysU (ns.map D.str) with
      | some k, some ks => some (k :: ks)
      | _, _ => none) = _
    rw [keysU_strs ns]; rfl
noncomputable def gUnl : List D → Option RX
  | [.tup xs] => match keysU xs with
    | some ks => if dec (ks.length < 4000) = true then some (.w (.int (DS.unl ks).length)) else none
    | none => none
  | _ => none
theorem gUnl_strs (ns : List Str) (h : ns.length < 4000) : gUnl [.tup (ns.map D.str)] = some (.w (.int (DS.unl ns).length)) := by
  show (match keysU (ns.map D.str) with
    | some ks => if dec (ks.length < 4000) = true then some (RX.w (.int (DS.unl ks).length)) else none
    | none => none) = _
  rw [keysU_strs]
  have e : dec ((ns.map Sum.inr : List Key).length < 4000) = true := dec_iff.mpr (by simpa using h)
  dsimp only
  rw [if_pos e, DS.unl_map (Sum.inr : Str → Key) (fun a b q => Sum.inr.inj q)]
theorem tP_imp {K : PySem.W.Frag} {ca : Cl → Addr} {W : WX} {fs : List E} {σ : L2.St} {H : Hp} {Q R : List V → Hp → Prop} (h : tP K ca W fs σ H Q) (i : ∀ vs H1, Q vs H1 → R vs H1) : tP K ca W fs σ H R := by
  obtain ⟨B, F, m, s, c, h⟩ := h
  exact ⟨B, F, m, s, c, ResG.imp h fun F1 m1 s1 H1 rs a1 a2 c1 h1 vs rv => i vs H1 (h1 vs rv)⟩
section
variable {X : Cx} {ca : Cl → Addr} {W : WX} {e : Expr} {f : E} {p p2 pos pos2 : Pos}
theorem e_unl (hc : X.calm = true) (hg : Gl X "len") (hm : X.mg "len" = none) (hg2 : Gl X "set") (hm2 : X.mg "set" = none) (ha : PE X e (tE X.K ca W f))
    (hs : starEach [e] X.env = (false, eval e X.env) :: starEach [] X.env := by rfl)
    (hs2 : starEach [.Call (.Name "set" p2) [e] [] pos2] X.env = (false, eval (.Call (.Name "set" p2) [e] [] pos2) X.env) :: starEach [] X.env := by rfl)
    (hpl : (backTo pos2 (starEach [] X.env)).any (·.1) = false := by rfl) (hpl2 : (backTo pos (starEach [] X.env)).any (·.1) = false := by rfl) :
    PE X (.Call (.Name "len" p) [.Call (.Name "set" p2) [e] [] pos2] [] pos) (tE X.K ca W (iB gUnl [f])) := by
  have k1 : PE X (.Call (.Name "set" p2) [e] [] pos2) _ := pe_callTy (DS.cr_setT hc) hg2 hm2 (by decide +kernel) (p_cons ha p_nil hs) (by decide +kernel) (by decide +kernel) hs hpl
  refine PE.imp (pe_callB DS.cr_lenK hg hm (by decide +kernel) (pa_cons k1 pa_nil hs2) (by decide +kernel) (by decide +kernel) hs2 hpl2) fun σ H Q h => ?_
  refine tP_imp (pargs_imp h) fun vs H1 hr => ?_
  obtain ⟨B, F, m, s, σ1, ds, r, c, rp, hg, q⟩ := hr
  unfold gUnl at hg
  split at hg
  · split at hg
    · rename_i xs ks hk
      split at hg
      · rename_i hl
        cases hg
        obtain ⟨v, rfl, a, us, rfl, ha, rr⟩ := rp.one
        have hv := keysU_rw hk rr
        subst hv
        have hl' : ks.length < 4000 := dec_iff.mp hl
        have few := DS.unl_len ks
        refine ⟨a, ks, rfl, (ha.sqt c.fh), by unfold scanBound; omega, fun b hb => ?_⟩
        refine ⟨b, _, _, rfl, upd_same, by omega, ?_⟩
        exact q _ _ _ (Sub.grow (c.fresh hb).1) (c.frz hb) rfl
      · cases hg
    · cases hg
  · cases hg
end
end Lk
namespace Lk
open PySem PySem.Spec PyProof.Rows L2
end Lk
namespace Lk
open PySem PySem.Spec PyProof.Rows L2
end Lk
namespace Lk
open PySem L2
section
variable {K : PySem.W.Frag} {ca : Cl → Addr} {B F F' : Hp} {m m' : List Addr} {s : Sx} {σ : St} {H H' : Hp}
end
section
variable {X : Cx} {ca : Cl → Addr} {W : WX} {e : Expr} {es : List Expr} {fs : List E} {pos p : Pos} {x : Str} {M : Fn} {k j : Nat} {f : Addr} {ps : List Str}
end
end Lk
namespace Lk.TM
open PySem PySem.Spec PyProof.Rows L2
end Lk.TM
namespace Lk
open PySem PySem.Spec PyProof.Rows L2
theorem RWs.rep {K : PySem.W.Frag} {F : Hp} {m : List Addr} {xs : List D} {vs : List V} (h : RWs K F m xs vs) : ∀ n : Nat, RWs K F m (List.replicate n xs).flatten (List.replicate n vs).flatten
  | 0 => rfl
  | n + 1 => by
    rw [List.replicate_succ, List.replicate_succ, List.flatten_cons, List.flatten_cons]
    exact RWs.append h (RWs.rep h n)
end Lk
namespace Lk
open PySem PySem.Spec PyProof.Rows L2
structure FnX (P : Program) (w : World) (K : PySem.W.Frag) (mg : Str → Option Value) (base : Heap) (k : Nat) (f : Addr) (fd : FuncData) (ps : List Str) (p : Addr × Obj) (sp : List V → Hp → VK → Prop) : Prop where
  len : ∀ vs H Q, sp vs H Q → vs.length = ps.length
  run : ∀ (A : Around) (outer : List Env) (s : Shared) (H : Hp) (args : Args) (us : List Value) (vs : List V) (Q : VK), L2H.RoomH k A → A.handled = some (.ref p.1) → L2H.PinOk outer H s p → Env0 P w K mg base A outer s H → BindsTo s fd args (ps.zip us) → Vals vs us → sp vs H Q →
    codeAny (model P w) A (.call (.ref f) args) (CR (L2.CX P w) outer P w H s Q (fun _ _ _ => False)) s
abbrev HFn := Cl → Addr → Addr → D → List Ob → FR
def spX (K : PySem.W.Frag) (ca : Cl → Addr) (a dd : Addr) (M : D → List Ob → FR) : List V → Hp → VK → Prop := fun vs H Q => vs = [.ref a] ∧ ∃ (B F : Hp) (m : List Addr) (row : D) (v : V) (hp : List Ob), Cor K ca B F m ⟨[], hp⟩ [] H ∧ F dd = some (.xd [(Fl.nm .row, v)]) ∧ RW K F m row v ∧ FRg K ca B F m Q (fun _ _ _ => False) (M row hp)
structure FKX (P : Program) (w : World) (K : PySem.W.Frag) (mg : Str → Option Value) (base : Heap) (ca : Cl → Addr) (ex : Cl → Bool) (k : Nat) (f : Addr) (ps : List Str) (M : HFn) : Prop where
  ok : ∃ fd, (∀ (c : Cl) (a dd : Addr) (oe : Obj), ex c = true → Zc (.ref (ca c)) (some dd) oe → (∃ vs, oe.data = .fields vs) → FnX P w K mg base k f fd ps (a, oe) (spX K ca a dd (M c a dd))) ∧ Binds K fd ps []
  kp : PySem.W.keepIn K (.ref f) = true
theorem ResG.under {α : Type} {K : PySem.W.Frag} {ca : Cl → Addr} {W : WX} {B B' F : Hp} {m : List Addr} {σ : L2.St} {P P' : Hp → List Addr → Sx → Hp → α → Prop} {r : Rs α} (sb : Sub B B') (h : ResG K ca W B σ F m P r)
    (i : ∀ F1 m1 s1 H1 a, Sub F F1 → m <+: m1 → Cor K ca B' F1 m1 s1 σ H1 → P F1 m1 s1 H1 a → P' F1 m1 s1 H1 a) : ResG K ca W B' σ F m P' r := by
  cases r with
  | ok a s' => exact fun F1 m1 H1 a1 a2 c => i F1 m1 s' H1 a a1 a2 c (h F1 m1 H1 a1 a2 (c.weak sb))
  | exc cc row s' => exact fun F1 m1 H1 d a1 a2 c x => h F1 m1 H1 d a1 a2 (c.weak sb) x
  | stuck => exact h
def isKeyD : D → Bool
  | .int _ => true
  | .str _ => true
  | _ => false
end Lk
namespace Lk
open PySem L2
def gCutS (d : D) (lo hi : Option Int) : Option RX := match d with
  | .str z => if z.length ≤ 1000000 then some (.w (.str (cutS z lo hi))) else none
  | _ => none
def iSlS (f : E) (p q : Pt) : E := fun s => (f s).bind fun r s1 => (p s1).bind fun lo s2 => (q s2).bind fun hi s3 => match r with
  | .w d => match gCutS d lo hi with
    | some x => .ok x s3
    | none => .stuck
  | _ => .stuck
theorem e_slS {X : Cx} {ca : Cl → Addr} {W : WX} {a : Expr} {f : E} {lo hi : Option Expr} {p q : Pt} {pos p2 : Pos} (he : PE X a (tE X.K ca W f)) (hl : PO X lo (tO X.K ca W p)) (hu : PO X hi (tO X.K ca W q)) : PE X (.Subscript a (.Slice lo hi none p2) pos) (tE X.K ca W (iSlS f p q)) := by
  refine PE.imp (pe_slice sl_str he hl hu) fun σ H Q ⟨B, F, m, s, c, h⟩ => ?_
  refine ⟨B, F, m, s, c, ResG.imp (ResG.bind h) fun F1 m1 s1 H1 x a1 a2 c1 h1 v rv => ?_⟩
  refine ⟨B, F1, m1, s1, c1, ResG.imp (ResG.bind h1) fun F3 m3 s3 H3 l a3 a4 c3 h3 => ?_⟩
  refine ⟨B, F3, m3, s3, c3, ResG.imp (ResG.bind h3) fun F5 m5 s5 H5 u a5 a6 c5 h5 => ?_⟩
  cases x with
  | w d =>
    cases d with
    | str z =>
      have ev : v = .str z := rv
      subst ev
      dsimp only [gCutS] at h5
      by_cases hz : z.length ≤ 1000000
      · rw [if_pos hz] at h5
        exact ⟨z, rfl, by rw [sizeLine_eq]; omega, ResG.now (W := W) c5 h5 _ rfl⟩
      · rw [if_neg hz] at h5
        exact h5.elim
    | _ => exact h5.elim
  | _ => exact h5.elim
end Lk
namespace Lk
open PySem PySem.Spec PyProof.Rows L2
def strsD : List D → Option (List Str)
  | [] => some []
  | .str x :: r => (strsD r).map (x :: ·)
  | _ => none
theorem strsD_map : ∀ ns : List Str, strsD (ns.map D.str) = some ns
  | [] => rfl
  | n :: ns => by
    show (strsD (ns.map D.str)).map (n :: ·) = _
    rw [strsD_map ns]; rfl
theorem strsD_eq : ∀ {xs : List D} {ns : List Str}, strsD xs = some ns → xs = ns.map D.str
  | [], ns, h => by
    cases h; rfl
  | x :: xs, ns, h => by
    cases x with
    | str y =>
      have h : (strsD xs).map (y :: ·) = some ns := h
      cases e : strsD xs with
      | none => rw [e] at h; cases h
      | some ms =>
        rw [e] at h
        cases h
        rw [strsD_eq e]; rfl
    | _ => cases h
def isTup : D → Bool
  | .tup _ => true
  | _ => false
section
variable {X : Cx} {ca : Cl → Addr} {W : WX} {o e : Expr} {f f' : E} {apos pos : Pos}
end
end Lk
namespace Lk
open PySem PySem.Spec PyProof.Rows L2
def lookD (kvs : List (D × D)) (k : D) : Option D := (kvs.find? fun p => decide (keyD p.1 = keyD k)).map (·.2)
def putD (kvs : List (D × D)) (k d : D) : List (D × D) :=
  if (kvs.any fun p => decide (keyD p.1 = keyD k)) = true then kvs.map (fun p => if keyD p.1 = keyD k then (p.1, d) else p) else kvs ++ [(k, d)]
section
variable {K : PySem.W.Frag} {ca : Cl → Addr} {B F : Hp} {m : List Addr} {s : Sx} {σ : L2.St} {H : Hp} {k d : D} {key : Key}
theorem KvK.look (hk : keyD k = some key) : ∀ {kvs : List (D × D)} {ps : List (Key × V)}, KvK K F m kvs ps → lookD kvs k = some d → ∃ v, valV ps key = some v ∧ RW K F m d v
  | [], ps, _, h => by cases h
  | (k0, d0) :: kvs, ps, ⟨k', v, r, e, hk', hv, t⟩, h => by
    subst e
    by_cases q : keyD k0 = keyD k
    · have h : some d0 = some d := by
        have := h
        simp [lookD, List.find?_cons, q] at this
        rw [this]
      cases h
      rw [hk', hk] at q
      cases q
      exact ⟨v, valV_pos rfl, hv⟩
    · have h : lookD kvs k = some d := by
        have := h
        simp only [lookD, List.find?_cons, q, decide_false] at this
        exact this
      obtain ⟨w, e1, e2⟩ := KvK.look hk t h
      have ne : ¬ k' = key := fun z => q (by rw [hk', hk, z])
      exact ⟨w, by rw [valV_neg ne]; exact e1, e2⟩
theorem KvK.any (hk : keyD k = some key) : ∀ {kvs : List (D × D)} {ps : List (Key × V)}, KvK K F m kvs ps → (kvs.any fun p => decide (keyD p.1 = keyD k)) = ps.any fun kv => decide (kv.1 = key)
  | [], ps, h => by
    have h : ps = [] := h
    subst h; rfl
  | (k0, d0) :: kvs, ps, ⟨k', v, r, e, hk', hv, t⟩ => by
    subst e
    rw [List.any_cons, List.any_cons, KvK.any hk t]
    congr 1
    show decide (keyD k0 = keyD k) = decide (k' = key)
    rw [hk', hk]
    simp
theorem KvK.repl (hk : keyD k = some key) {v : V} (rv : RW K F m d v) : ∀ {kvs : List (D × D)} {ps : List (Key × V)}, KvK K F m kvs ps → KvK K F m (kvs.map fun p => if keyD p.1 = keyD k then (p.1, d) else p) (ps.map fun kv => if kv.1 = key then (kv.1, v) else kv)
  | [], ps, h => by
    have h : ps = [] := h
    subst h; exact rfl
  | (k0, d0) :: kvs, ps, ⟨k', v0, r, e, hk', hv, t⟩ => by
    subst e
    have ih := KvK.repl hk rv t
    rw [List.map_cons, List.map_cons]
    by_cases q : keyD k0 = keyD k
    · have q' : k' = key := by rw [hk', hk] at q; exact Option.some.inj q
      rw [if_pos q, if_pos q']
      exact ⟨k', v, _, rfl, hk', rv, ih⟩
    · have q' : ¬ k' = key := fun z => q (by rw [hk', hk, z])
      rw [if_neg q, if_neg q']
      exact ⟨k', v0, _, rfl, hk', hv, ih⟩
theorem KvK.snoc (hk : keyD k = some key) {v : V} (rv : RW K F m d v) : ∀ {kvs : List (D × D)} {ps : List (Key × V)}, KvK K F m kvs ps → KvK K F m (kvs ++ [(k, d)]) (ps ++ [(key, v)])
  | [], ps, h => by
    have h : ps = [] := h
    subst h
    exact ⟨key, v, [], rfl, hk, rv, rfl⟩
  | (k0, d0) :: kvs, ps, ⟨k', v0, r, e, hk', hv, t⟩ => by
    subst e
    exact ⟨k', v0, _, rfl, hk', hv, KvK.snoc hk rv t⟩
theorem KvK.put (hk : keyD k = some key) {v : V} (rv : RW K F m d v) {kvs : List (D × D)} {ps : List (Key × V)} (h : KvK K F m kvs ps) : KvK K F m (putD kvs k d) (putK ps key v) := by
  unfold putD putK
  rw [KvK.any hk h]
  by_cases q : (ps.any fun kv => decide (kv.1 = key)) = true
  · rw [if_pos q, if_pos q]
    exact KvK.repl hk rv h
  · rw [if_neg q, if_neg q]
    exact KvK.snoc hk rv h
theorem KvK.length : ∀ {kvs : List (D × D)} {ps : List (Key × V)}, KvK K F m kvs ps → ps.length = kvs.length
  | [], ps, h => by
    have h : ps = [] := h
    subst h; rfl
  | (k0, d0) :: kvs, ps, ⟨k', v0, r, e, hk', hv, t⟩ => by
    subst e
    rw [List.length_cons, List.length_cons, KvK.length t]
end
def iSetK (i : Nat) (f g : E) : I := fun s => thenS (arg g s) fun v s1 => match s1.env[i]? with
  | some (.ownd none _) => thenS (arg f s1) fun k s2 => match s2.env[i]? with
    | some (.ownd none kvs) => match keyD k with
      | some _ => if kvs.length < 100000 then .nx { s2 with env := s2.env.set i (.ownd none (putD kvs k v)) } else .stuck
      | none => .stuck
    | _ => .stuck
  | _ => .stuck
section
variable {X : Cx} {ca : Cl → Addr} {W : WX} {e ke ve : Expr} {fe f g : E} {i : Nat} {n : Str} {pos pos' p : Pos}
end
end Lk
namespace Lk.EN
open PySem PySem.Spec PyProof.Rows
open Sem (wp)
open AutoSeq1 (wpAny_loadPart')
end Lk.EN
namespace Lk
open PySem PySem.Spec PyProof.Rows L2
end Lk
namespace Lk
open PySem PySem.Spec PyProof.Rows L2
section
variable {X : Cx} {ca : Cl → Addr} {W : WX} {ex : Cl → Bool} {fI : Addr} {c : Cl} {j k : Nat} {x : Str} {e : Expr} {f : E} {p pos pos2 : Pos}
end
section
variable {X : Cx} {ca : Cl → Addr} {W : WX} {ex : Cl → Bool} {fI : Addr} {C : Cl} {e : Expr} {te : TE} {f : E} {p p2 pos : Pos} {n x : Str}
end
end Lk
namespace PySem.SeqAt
open AutoSeq1 (wpAny_loadPart')
open MeetsSeq
section
variable {A : Around} {s : Shared}
end
end PySem.SeqAt
namespace Lk
open PySem L2
section
variable {X : Cx} {ca : Cl → Addr} {pins : List (Addr × Obj)} {σ : St} {H F : Hp} {m : List Addr} {s : Shared}
end
section
variable {X : Cx} {ca : Cl → Addr}
end
end Lk
namespace Lk
open PySem L2
section
variable {X : Cx} {ca : Cl → Addr} {W : WX} {ex : Cl → Bool} {fI a dd : Addr} {c c1 c2 c3 : Cl} {i : Nat} {n x1 x2 x3 : Str} {oe : Obj} {pn : List (Addr × Obj)} {p p2 pos q0 q1 q2 q3 : Pos}
end
end Lk
namespace Lk
open PySem PySem.Spec PyProof.Rows L2
section
variable {X : Cx} {ca : Cl → Addr}
end
end Lk
namespace Lk
open PySem PySem.Spec PyProof.Rows L2
section
variable {X : Cx}
end
end Lk
namespace Lk
open PySem PySem.Spec PyProof.Rows L2
section
variable {X : Cx} {ca : Cl → Addr} {W : WX} {f : E}
end
section
variable {X : Cx} {ca : Cl → Addr} {W : WX} {q : Sq} {t : Tgt} {te fe : E} {vs : List Nat} {elt tg iter cnd : Expr} {scope : Scope} {own : List (Str × Nat)} {pos spos py : Pos} {i : Nat} {y : Str}
end
def lstAt (hp : List Ob) : D → Option (List D × Option Nat)
  | .lst xs => some (xs, none)
  | .ref n => match hp[n]? with
    | some (.lst xs) => some (xs, some n)
    | _ => none
  | _ => none
def srcZ (o : Option Nat) (xs : List D) (o' : Option Nat) (ys : List D) : Src := match o, o' with
  | none, none => .val
  | some n, none => .obe n xs
  | none, some k => .obe k ys
  | some n, some k => .two n xs k ys
def qZipH (f g : E) : Sq := fun s => (args [f, g] s).bind fun ds s1 => match ds with
  | [.tup xs, .tup ys] => .ok (zipD xs ys, .val) s1
  | [d, e] => match lstAt s1.hp d, lstAt s1.hp e with
    | some (xs, o), some (ys, o') => .ok (zipD xs ys, srcZ o xs o' ys) s1
    | _, _ => .stuck
  | _ => .stuck
section
variable {K : PySem.W.Frag} {ca : Cl → Addr} {F F' : Hp} {m m' : List Addr}
def LW (K : PySem.W.Frag) (ca : Cl → Addr) (F : Hp) (m : List Addr) (xs : List D) (o : Option Nat) (a : Addr) : Prop := ∀ (B F1 : Hp) (m1 : List Addr) (s1 : Sx) (σ1 : L2.St) (H1 : Hp), Sub F F1 → m <+: m1 → Cor K ca B F1 m1 s1 σ1 H1 → (∀ n, o = some n → s1.hp[n]? = some (.lst xs)) → ∃ vs, SqL K H1 a vs ∧ RWs K F1 m1 xs vs
theorem lw_val {a : Addr} {xs : List D} {vs : List V} (h : F a = some (.lst vs)) (r : RWs K F m xs vs) : LW K ca F m xs none a := fun B F1 m1 s1 σ1 H1 a1 a2 c _ =>
  ⟨vs, SqL.of (c.fh a _ (a1 a _ h)), RWs.mono a1 a2 xs vs r⟩
theorem lw_ob {a : Addr} {xs : List D} {n : Nat} (h : m[n]? = some a) : LW K ca F m xs (some n) a := fun B F1 m1 s1 σ1 H1 a1 a2 c ok => by
  obtain ⟨vs, ha, r⟩ := c.hp n _ a (ok n rfl) (get_prefix a2 h)
  exact ⟨vs, SqL.of ha, r⟩
theorem walks_zipH {a b : Addr} {xs ys : List D} {o o' : Option Nat} (h : LW K ca F m xs o a) (h' : LW K ca F m ys o' b) : Walks K ca F m (zipD xs ys) (srcZ o xs o' ys) (Itz K a b) := by
  intro B F1 m1 s1 σ1 H1 a1 a2 c ok
  have o1 : ∀ n, o = some n → s1.hp[n]? = some (.lst xs) := fun n e => by
    subst e
    cases o' with
    | none => simpa [okAt, srcZ] using ok
    | some k =>
      have : s1.hp[n]? = some (.lst xs) ∧ s1.hp[k]? = some (.lst ys) := by simpa [okAt, srcZ] using ok
      exact this.1
  have o2 : ∀ n, o' = some n → s1.hp[n]? = some (.lst ys) := fun n e => by
    subst e
    cases o with
    | none => simpa [okAt, srcZ] using ok
    | some k =>
      have : s1.hp[k]? = some (.lst xs) ∧ s1.hp[n]? = some (.lst ys) := by simpa [okAt, srcZ] using ok
      exact this.2
  obtain ⟨vs, q, r⟩ := h B F1 m1 s1 σ1 H1 a1 a2 c o1
  obtain ⟨us, q', r'⟩ := h' B F1 m1 s1 σ1 H1 a1 a2 c o2
  refine ⟨fun i hi => ?_, ⟨vs, us, q, q', ?_⟩, fun i z v H2 hz hy => ?_⟩
  · obtain ⟨x, y, _, hx, hy⟩ := zipD_get (List.getElem?_eq_getElem hi)
    obtain ⟨v, hv, _⟩ := r.get hx
    obtain ⟨u, hu, _⟩ := r'.get hy
    exact ⟨vs, us, v, u, q, q', hv, hu⟩
  · rw [zipD_length, ← r.length, ← r'.length]
    omega
  · obtain ⟨T, v1, u1, rfl, hT, rfl, h1, h2⟩ := hy
    obtain ⟨x, y, rfl, hx, hy⟩ := zipD_get hz
    obtain ⟨v, hv, rv⟩ := r.get hx
    obtain ⟨u, hu, ru⟩ := r'.get hy
    have e1 := h1 vs q
    have e2 := h2 us q'
    rw [hv] at e1; cases e1
    rw [hu] at e2; cases e2
    exact pair_new c hT rv ru
theorem lstAt_ok {B H : Hp} {s : Sx} {σ : L2.St} {d : D} {v : V} {xs : List D} {o : Option Nat} (c : Cor K ca B F m s σ H) (r : RW K F m d v) (h : lstAt s.hp d = some (xs, o)) : ∃ a vs, v = .ref a ∧ SqL K H a vs ∧ LW K ca F m xs o a := by
  cases d <;> first | (cases h; done) | skip
  · rename_i n
    have h : (match s.hp[n]? with
      | some (.lst xs) => some (xs, some n)
      | _ => none) = some (xs, o) := h
    split at h
    · rename_i ys e
      cases h
      obtain ⟨a, hm, rfl⟩ := r
      obtain ⟨vs, ha, rr⟩ := c.hp n _ a e hm
      exact ⟨a, vs, rfl, SqL.of ha, lw_ob hm⟩
    · cases h
  · rename_i ys
    have h : some (ys, (none : Option Nat)) = some (xs, o) := h
    cases h
    obtain ⟨a, vs, rfl, ha, rr⟩ := r
    exact ⟨a, vs, rfl, SqL.of (c.fh a _ ha), lw_val ha rr⟩
end
section
variable {X : Cx} {ca : Cl → Addr} {W : WX} {e e2 : Expr} {f g : E} {pos p : Pos}
theorem q_zipH {elts : List Expr} {kk : Nat} {tpos : Pos} (hg : Gl X "zip") (hm : X.mg "zip" = none) (ha : PA X [e, e2] (tA X.K ca W [f, g])) (hs : starEach [e, e2] X.env = (false, eval e X.env) :: starEach [e2] X.env := by rfl) (hpl : (backTo pos (starEach [e2] X.env)).any (·.1) = false := by rfl) :
    PI X (.Tuple elts kk tpos) (.Call (.Name "zip" p) [e, e2] [] pos) (tI X.K ca W (qZipH f g)) := by
  refine PI.imp (RZ.pi_zipA hg hm ha hs hpl) fun σ H R ⟨B, F, m, s, c, h⟩ => ?_
  refine args_imp c h fun F1 m1 s1 H1 ds vs hl c1 rv h1 => ?_
  split at h1
  · rename_i xs ys
    obtain ⟨v, r, rfl, ⟨a, vs, rfl, hx, rx⟩, u, r', rfl, ⟨b, us, rfl, hy, ry⟩, rr⟩ := rv
    have rr' : r' = [] := rr
    subst rr'
    exact ⟨a, b, vs, us, rfl, .inr ⟨(hx.sqt c1.fh), (hy.sqt c1.fh), ResG.now (W := W) c1 h1 _ (walks_zipT hx rx hy ry)⟩⟩
  · rename_i d e _
    obtain ⟨v, r, rfl, hv, u, r', rfl, hu, rr⟩ := rv
    have rr' : r' = [] := rr
    subst rr'
    split at h1
    · rename_i xs o ys o' e1 e2
      obtain ⟨a, vs, rfl, qa, la⟩ := lstAt_ok c1 hv e1
      obtain ⟨b, us, rfl, qb, lb⟩ := lstAt_ok c1 hu e2
      exact ⟨a, b, vs, us, rfl, .inl ⟨qa, qb, ResG.now (W := W) c1 h1 _ (walks_zipH la lb)⟩⟩
    · exact h1.elim
  · exact h1.elim
end
end Lk
namespace Lk
open PySem PySem.Spec PyProof.Rows L2
section
variable {K : PySem.W.Frag} {ca : Cl → Addr} {F F' : Hp} {m m' : List Addr}
end
section
variable {X : Cx} {ca : Cl → Addr} {W : WX} {tg e e2 e3 : Expr} {f g h : E} {pos p : Pos}
end
end Lk
namespace Lk
open PySem PySem.Spec PyProof.Rows L2
def gNeW (d e : D) : Option RX := match d, e with
  | .lst xs, .lst ys => match weqL (weqF 19) xs ys with
    | some b => some (.w (.bl (!b)))
    | none => none
  | _, _ => none
theorem o_neW {X : Cx} {ca : Cl → Addr} (hu : X.A.units + 30 < cLine) : OpR X (compareOp .NotEq) (r2 X.K ca gNeW) := by
  intro pins s0 σ0 H x y v u Q I rx ry ⟨B, F, m, s1, σ1, d, e, r, c, hx, hy, hg, q⟩
  unfold gNeW at hg
  split at hg
  · rename_i xs ys
    split at hg
    · rename_i b h
      cases hg
      obtain ⟨a, vs, rfl, ha, ra⟩ := hx
      obtain ⟨a', vs', rfl, ha', ra'⟩ := hy
      cases rx
      cases ry
      obtain ⟨its, rv, p, _⟩ := I.list (SqL.of ha)
      obtain ⟨its', rv', p', _⟩ := I.list (SqL.of ha')
      obtain ⟨w1, w2⟩ := weqL_at xs ys b h
      have l1 := ra.length; have l2 := rv.length; have l3 := ra'.length; have l4 := rv'.length
      have hin : X.A.in1.units + 19 < cLine := by
        have : X.A.in1.units = X.A.units + 1 := rfl
        omega
      by_cases hl : xs.length = ys.length
      · have hr := SeqAt.RcNeAt.lists (A := X.A) (e := fitD (weqF 19) xs ys) p.isList p'.isList (by simp; omega) (by omega) (fun j h1 h2 => by
          obtain ⟨x1, v1, g1, g2, g3⟩ := ra.item rv (j := j) (u := its.toArray[j]) (by simp)
          obtain ⟨y1, w1', k1, k2, k3⟩ := ra'.item rv' (j := j) (u := its'.toArray[j]) (by simp)
          exact weqF_at I c.fh 19 X.A.in1 x1 y1 _ v1 w1' _ _ (w1 j x1 y1 g1 k1) g2 k2 g3 k3 hin)
        have e : (!(List.range its.toArray.size).all (fitD (weqF 19) xs ys)) = !b := by
          rw [w2]
          simp [← l1, ← l2, ← l3, ← l4, hl, List.size_toArray]
        rw [e] at hr
        exact hr _ _ _ _ ⟨.bl _, H, I, rfl, ansW c q rfl⟩
      · have hr := SeqAt.RcNeAt.lists_lengths (A := X.A) p.isList p'.isList (by simp; omega) (by omega)
        have e : true = !b := by
          rw [w2]
          have : (xs.length == ys.length) = false := by simpa using hl
          rw [this, Bool.and_false]
          rfl
        rw [e] at hr
        exact hr _ _ _ _ ⟨.bl _, H, I, rfl, ansW c q rfl⟩
    · cases hg
  · cases hg
end Lk
namespace Lk
open PySem L2
end Lk
namespace Lk
open PySem PySem.Spec PyProof.Rows L2
def gRepV (d e : D) : Option RX := match d, e with
  | .lst xs, .int k => if 0 ≤ k ∧ k ≤ 1000 ∧ xs.length ≤ 1000 then some (.fr (List.replicate k.toNat xs).flatten) else none
  | _, _ => none
theorem o_repV {X : Cx} {ca : Cl → Addr} : OpR X (binaryOp .Mult) (r2 X.K ca gRepV) := opr fun B F m s σ H d e r x y Q c hx hy hg q => by
  unfold gRepV at hg
  split at hg
  · rename_i xs k
    split at hg
    · rename_i hk
      cases hg
      obtain ⟨a, vs, rfl, hl, ra⟩ := hx
      have hy : y = .int k := hy
      subst hy
      have hn := ra.length
      refine ⟨_, op_rep, a, k, vs, rfl, rfl, hl, by omega, by omega, ?_, fun p hp => ansL c q (RWs.rep ra k.toNat) p hp⟩
      have a1 : vs.length * k.toNat ≤ 1000 * 1000 := Nat.mul_le_mul (by omega) (by omega)
      rw [sizeLine_eq]
      omega
    · cases hg
  · cases hg
end Lk
namespace Lk
open PySem L2
section
variable {X : Cx} {ca : Cl → Addr} {W : WX} {c : Expr} {body : List Stmt} {pos : Pos} {fe : E} {f : I}
end
end Lk
namespace Lk
open PySem PySem.Spec PyProof.Rows L2
section
variable {X : Cx} {ca : Cl → Addr} {W : WX} {o e : Expr} {f f' : E} {apos pos : Pos}
end
end Lk
namespace Lk
open PySem PySem.Spec PyProof.Rows L2
class HsC where
  hs : List Key → Int
class HsOk (P : Program) (w : World) [HsC] : Prop where
  ok : HsC.hs = tupleKeyHash (mixKind P w)
def lookX (kvs : List (D × D)) (ks : List Key) : Option D := (kvs.find? fun p => decide (keyX p.1 = some ks)).map (·.2)
def putX (kvs : List (D × D)) (k : D) (ks : List Key) (d : D) : List (D × D) :=
  if (kvs.any fun p => decide (keyX p.1 = some ks)) = true then kvs.map (fun p => if keyX p.1 = some ks then (p.1, d) else p) else kvs ++ [(k, d)]
section
variable {K : PySem.W.Frag} {ca : Cl → Addr} {B F : Hp} {m : List Addr} {s : Sx} {σ : L2.St} {H : Hp} {k d : D} {ks : List Key}
def LkR (K : PySem.W.Frag) (F : Hp) (m : List Addr) : Option D → Option (Addr × Value) → Prop
  | some d, some p => ∃ v, RW K F m d v ∧ RelV v p.2
  | none, none => True
  | _, _ => False
theorem KvX.look : ∀ {kvs : List (D × D)} {xs : List (List Key × Addr × Value)}, KvX K F m kvs xs → LkR K F m (lookX kvs ks) (atKey xs ks)
  | [], xs, h => by
    have h : xs = [] := h
    subst h; exact True.intro
  | (k0, d0) :: kvs, xs, ⟨k', b, u, v, r, e, hk', hb, hv, rv, t⟩ => by
    subst e
    by_cases q : k' = ks
    · have a1 : lookX ((k0, d0) :: kvs) ks = some d0 := by simp [lookX, List.find?_cons, hk', q]
      have a2 : atKey ((k', b, u) :: r) ks = some (b, u) := by simp [atKey, List.find?_cons, q]
      rw [a1, a2]
      exact ⟨v, hv, rv⟩
    · have a1 : lookX ((k0, d0) :: kvs) ks = lookX kvs ks := by simp [lookX, List.find?_cons, hk', q]
      have a2 : atKey ((k', b, u) :: r) ks = atKey r ks := by simp [atKey, List.find?_cons, q]
      rw [a1, a2]
      exact KvX.look t
theorem look_any (kvs : List (D × D)) : (kvs.any fun p => decide (keyX p.1 = some ks)) = (lookX kvs ks).isSome := by
  unfold lookX
  rw [Option.isSome_map]
  induction kvs with
  | nil => rfl
  | cons p kvs ih =>
    rw [List.any_cons, List.find?_cons]
    cases decide (keyX p.1 = some ks) with
    | true => rfl
    | false => rw [Bool.false_or]; exact ih
theorem KvX.repl {v : V} {u : Value} (rw' : RW K F m d v) (ru : RelV v u) : ∀ {kvs : List (D × D)} {xs : List (List Key × Addr × Value)}, KvX K F m kvs xs → KvX K F m (kvs.map fun p => if keyX p.1 = some ks then (p.1, d) else p) (xs.map (putAt ks u))
  | [], xs, h => by
    have h : xs = [] := h
    subst h; exact rfl
  | (k0, d0) :: kvs, xs, ⟨k', b, u0, v0, r, e, hk', hb, hv, rv, t⟩ => by
    subst e
    have ih := KvX.repl rw' ru t
    rw [List.map_cons, List.map_cons]
    unfold putAt
    by_cases q : k' = ks
    · rw [if_pos (show keyX (k0, d0).1 = some ks by rw [hk', q]), if_pos q]
      exact ⟨k', b, u, v, _, rfl, hk', hb, rw', ru, ih⟩
    · rw [if_neg (show ¬ keyX (k0, d0).1 = some ks by rw [hk']; simpa using q), if_neg q]
      exact ⟨k', b, u0, v0, _, rfl, hk', hb, hv, rv, ih⟩
theorem KvX.snoc {v : V} {u : Value} {b : Addr} (hk : keyX k = some ks) (hb : RW K F m k (.ref b)) (rw' : RW K F m d v) (ru : RelV v u) : ∀ {kvs : List (D × D)} {xs : List (List Key × Addr × Value)}, KvX K F m kvs xs → KvX K F m (kvs ++ [(k, d)]) (xs ++ [(ks, b, u)])
  | [], xs, h => by
    have h : xs = [] := h
    subst h
    exact ⟨ks, b, u, v, [], rfl, hk, hb, rw', ru, rfl⟩
  | (k0, d0) :: kvs, xs, ⟨k', b0, u0, v0, r, e, hk', hb0, hv, rv, t⟩ => by
    subst e
    exact ⟨k', b0, u0, v0, _, rfl, hk', hb0, hv, rv, KvX.snoc hk hb rw' ru t⟩
theorem LkR.some_eq {o : Option D} {p : Option (Addr × Value)} (h : LkR K F m o p) : o.isSome = p.isSome := by
  cases o <;> cases p <;> first | rfl | exact (show False from h).elim
theorem KvX.put {v : V} {u : Value} {b : Addr} (hk : keyX k = some ks) (hb : RW K F m k (.ref b)) (rw' : RW K F m d v) (ru : RelV v u) {kvs : List (D × D)} {xs : List (List Key × Addr × Value)} (h : KvX K F m kvs xs) :
    KvX K F m (putX kvs k ks d) (storedH xs ks b u) := by
  unfold putX storedH
  rw [look_any, h.look.some_eq]
  by_cases q : (atKey xs ks).isSome = true
  · rw [if_pos q, if_pos q]
    exact KvX.repl rw' ru h
  · rw [if_neg q, if_neg q]
    exact KvX.snoc hk hb rw' ru h
theorem KvX.length : ∀ {kvs : List (D × D)} {xs : List (List Key × Addr × Value)}, KvX K F m kvs xs → xs.length = kvs.length
  | [], xs, h => by
    have h : xs = [] := h
    subst h; rfl
  | (k0, d0) :: kvs, xs, ⟨_, _, _, _, r, e, _, _, _, _, t⟩ => by
    subst e
    rw [List.length_cons, List.length_cons, KvX.length t]
end
section
variable [HsC] {X : Cx} [HsOk X.prog X.w] {pins : List (Addr × Obj)} {σ : L2.St} {H F : Hp} {s : Shared} {m : List Addr} {a : Addr} {t : Option (List Key → Int)} {kvs : List (D × D)} {k d : D} {ks : List Key}
end
structure DAt (X : Cx) (H : Hp) (a : Addr) (y : V) (o : Option V) : Prop where
  ty : ∀ {pins : List (Addr × Obj)} {σ : L2.St} {s : Shared}, Inv X pins σ H s → s.TypeIs (.ref a) "dict"
  isIn : ∀ {pins : List (Addr × Obj)} {σ : L2.St} {s : Shared} {u : Value} {A : Around} {E : Value → Shared → Prop} {Q : Value → Shared → Prop}, A.units + 1 < cLine → Inv X pins σ H s → RelV y u →
    (∀ s', Inv X pins σ H s' → Q (.bool o.isSome) s') → wpAny (model X.prog X.w) A (compareOp .In u (.ref a)) Q E s
  notIn : ∀ {pins : List (Addr × Obj)} {σ : L2.St} {s : Shared} {u : Value} {A : Around} {E : Value → Shared → Prop} {Q : Value → Shared → Prop}, A.units + 1 < cLine → Inv X pins σ H s → RelV y u →
    (∀ s', Inv X pins σ H s' → Q (.bool (!o.isSome)) s') → wpAny (model X.prog X.w) A (compareOp .NotIn u (.ref a)) Q E s
  item : ∀ {pins : List (Addr × Obj)} {σ : L2.St} {s : Shared} {u : Value} {v : V} {A : Around} {E : Value → Shared → Prop} {Q : Value → Shared → Prop}, A.units + 1 < cLine → Inv X pins σ H s → RelV y u → o = some v →
    (∀ w' s', Inv X pins σ H s' → RelV v w' → Q w' s') → wpAny (model X.prog X.w) A (getItem (.ref a) u) Q E s
  get2 : ∀ {pins : List (Addr × Obj)} {σ : L2.St} {s : Shared} {u r : Value} {d : V} {A : Around} {E : Value → Shared → Prop} {Q : Value → Shared → Prop}, A.units + 1 < cLine → Inv X pins σ H s → RelV y u → RelV d r →
    (∀ w' s', Inv X pins σ H s' → RelV (o.getD d) w' → Q w' s') → wpAny (model X.prog X.w) A (call (.builtin "dict.get") [.ref a, u, r]) Q E s
section
variable [HsC] {X : Cx} [HsOk X.prog X.w] {H F : Hp} {m : List Addr} {a : Addr} {t : Option (List Key → Int)} {kvs : List (D × D)} {k d : D} {ks : List Key}
end
end Lk
namespace Lk
open PySem PySem.Spec PyProof.Rows L2
section
variable {K : PySem.W.Frag} {ca : Cl → Addr} {B F : Hp} {m : List Addr} {s : Sx} {σ : L2.St} {H : Hp}
end
section
variable {X : Cx} {o i e value : Expr} {pos pos' tpos : Pos} {td ty tv : TE}
end
section
variable [HsC] {X : Cx} [HsOk X.prog X.w] {ca : Cl → Addr} {W : WX} {e ke ve : Expr} {fe f g : E} {i : Nat} {n : Str} {pos pos' p : Pos}
end
end Lk
namespace Lk
open PySem L2 PySem.W PyProof.Rows PySem.Calls
def EnR (K : PySem.W.Frag) (F : Hp) (m : List Addr) : List (D × D) → List DictEntry → Prop
  | [], es => es = []
  | (k, d) :: kvs, es => ∃ e r kv vv, es = e :: r ∧ RW K F m k kv ∧ RW K F m d vv ∧ RelV kv e.key ∧ RelV vv e.val ∧ EnR K F m kvs r
theorem EnR.mono {K : PySem.W.Frag} {F F' : Hp} {m : List Addr} (hF : Sub F F') : ∀ {kvs : List (D × D)} {es : List DictEntry}, EnR K F m kvs es → EnR K F' m kvs es
  | [], _, h => h
  | (k, d) :: kvs, _, ⟨e, r, kv, vv, h1, h2, h3, h4, h5, h6⟩ => ⟨e, r, kv, vv, h1, RW.mono hF (List.prefix_refl _) k _ h2, RW.mono hF (List.prefix_refl _) d _ h3, h4, h5, EnR.mono hF h6⟩
section
variable {X : Cx} {ca : Cl → Addr} {pins : List (Addr × Obj)} {σ : L2.St} {H F : Hp} {s : Shared} {m : List Addr} {a : Addr} {t : Option (List Key → Int)} {kvs : List (D × D)}
end
end Lk
namespace Lk
open PySem L2 PySem.W PyProof.Rows PySem.Calls
section
variable {X : Cx} {ca : Cl → Addr}
end
section
variable [HsC] {X : Cx} (ok : HsOk X.prog X.w) {ca : Cl → Addr} {W : WX} {e ke ve : Expr} {fe f g : E} {i : Nat} {n : Str} {pos pos' p : Pos}
include ok
end
@[reducible] noncomputable def hsOf (P : Program) (w : World) : HsC := ⟨tupleKeyHash (mixKind P w)⟩
end Lk
namespace RL
open PySem PySem.Spec PyProof.Rows RT
section
variable {prog : Program} {w : World} {A : Around} {E : Value → Shared → Prop} {s : Shared} {R : Result → Shared → Prop} {it l S : Addr} {items : Array Value}
end
end RL
namespace RL
open PySem L2 RT PyProof.Rows
end RL
namespace Lk
open PySem L2
end Lk
namespace Lk
open PySem PySem.Spec PyProof.Rows L2
section
variable [HsC] {X : Cx} [HsOk X.prog X.w]
end
section
variable [HsC] {X : Cx} (ok : HsOk X.prog X.w) {ca : Cl → Addr} {W : WX} {ke ve : Expr} {f g : E} {i : Nat} {n : Str} {pos pos' p : Pos}
end
end Lk
namespace Lk
open PySem PySem.Spec PyProof.Rows L2
section
variable {X : Cx} {pins : List (Addr × Obj)} {σ : L2.St} {H : Hp} {s : Shared} {d : Addr} {o : Obj} {hs : List Key → Int} {xs : List (List Key × Addr × Value)}
end
section
variable {P : Program} {w : World} {K : PySem.W.Frag} {tg : Expr} {d : Addr} {o : Obj} {es : Array DictEntry} {ep : Nat} {hs : List Key → Int}
end
section
variable {K : PySem.W.Frag} {ca : Cl → Addr} {B F : Hp} {m : List Addr} {s : Sx} {σ : L2.St} {H : Hp}
theorem KvX.at : ∀ {kvs : List (D × D)} {xs : List (List Key × Addr × Value)}, KvX K F m kvs xs → ∀ (i : Nat) (e : List Key × Addr × Value) (k : D), xs[i]? = some e → (kvs.map (·.1))[i]? = some k → RW K F m k (.ref e.2.1)
  | [], xs, h, i, e, k, h1, h2 => by simp at h2
  | (k0, d0) :: kvs, xs, ⟨k', b, u, v, r, ee, hk', hb, hv, rv, t⟩, i, e, k, h1, h2 => by
    subst ee
    cases i with
    | zero =>
      simp at h1 h2
      subst h1 h2
      exact hb
    | succ j =>
      simp at h1
      exact KvX.at t j e k h1 (by simpa using h2)
end
section
variable {X : Cx} {ca : Cl → Addr} {W : WX} {i j : Nat} {n n' : Str} {pos p' : Pos}
end
end Lk
namespace Lk
open PySem PySem.Spec PyProof.Rows L2
def noX : SR → SR
  | .exc _ _ _ => .stuck
  | r => r
def iTryE (ex : Cl → Bool) (C : Cl) (fb su el : I) : I := fun s => match fb s with
  | .exc c row s1 => match ex c with
    | true => match isSub c C with
      | true => noX (su s1)
      | false => .exc c row s1
    | false => .stuck
  | .nx s1 => el s1
  | r => r
section
variable {K : PySem.W.Frag} {ca : Cl → Addr} {W : WX} {B F : Hp} {m : List Addr} {D : Ends} {r : SR}
theorem SRg.unx (h : SRg K ca W B F m D (noX r)) : SRg K ca (fun _ _ _ _ => False) B F m D r := by
  cases r with
  | nx s' => exact h
  | brk s' => exact h
  | cnt s' => exact h
  | ret r s' => exact h
  | exc cc row s' => exact h.elim
  | stuck => exact h
end
section
variable {X : Cx} {ca : Cl → Addr} {W : WX} {ex : Cl → Bool} {fI : Addr} {C : Cl} {fb su el : I} {x : Str} {body suite orelse : List Stmt} {b₀ : Stmt} {np pos pos' : Pos}
theorem tryE_imp {mg : Str → Option Value} {D : Ends} {σ : L2.St} {H : Hp} (T : XA X.K mg ca fI ex) (hC : ex C = true) (h : tS X.K ca W (iTryE ex C fb su el) D σ H) :
    tS X.K ca (wOnly X.K (.ref (ca C)) (fun _ _ _ => tS X.K ca (fun _ _ _ _ => False) su) W D) fb { D with nx := tS X.K ca W el D } σ H := by
  obtain ⟨B, F, m, s, c, h⟩ := h
  refine ⟨B, F, m, s, c, ?_⟩
  unfold iTryE at h
  cases e : fb s with
  | nx s' =>
    rw [e] at h
    exact fun F1 m1 σ1 H1 a1 a2 c1 => ⟨B, F1, m1, s', c1, SRg.mono a1 a2 h⟩
  | ret r s' => rw [e] at h; exact h
  | brk s' => rw [e] at h; exact h
  | cnt s' => rw [e] at h; exact h
  | stuck => rw [e] at h; exact h
  | exc cc row s1 =>
    rw [e] at h
    dsimp only at h
    cases hx : ex cc with
    | false => rw [hx] at h; exact h.elim
    | true =>
      rw [hx] at h
      dsimp only at h
      intro F1 m1 σ1 H1 d a1 a2 c1 xr
      refine ⟨isSub cc C, T.exm hx hC, fun hb a na => ?_, fun hb => ?_⟩
      · rw [hb] at h
        dsimp only at h
        exact ⟨B, F1, m1, s1, c1, (SRg.mono a1 a2 h).unx⟩
      · rw [hb] at h
        exact h F1 m1 σ1 H1 d a1 a2 c1 xr
theorem s_tryE (T : XA X.K X.mg ca fI ex) (hC : ex C = true) (hs : X.stack = X.env :: X.outer) (hf : X.env.frame = some X.env.locals) (hn : C.nm = x) (hg : Gl X x) (tk : Takes X W)
    (hb : ∀ (W' : WX) (pn : List (Addr × Obj)) (xe : Value → Shared → Prop), Takes (X.tr pn xe) W' → PassesOwn (model X.prog X.w) X.A X.env xe → PSs (X.tr pn xe) body (tS X.K ca W' fb))
    (hsu : ∀ (a : Addr) (oe : Obj) (pn : List (Addr × Obj)), Takes (X.suite a ((a, oe) :: pn)) (fun _ _ _ _ => False) → PSs (X.suite a ((a, oe) :: pn)) (b₀ :: suite) (tS X.K ca (fun _ _ _ _ => False) su)) (ho : PSs X orelse (tS X.K ca W el)) (hdb : (x == ("__debug__" : Str)) = false := by decide +kernel) :
    PS X (.Try body [.ExceptHandler (some (.Name x np)) none (b₀ :: suite) pos'] orelse [] pos) (tS X.K ca W (iTryE ex C fb su el)) := by
  subst hn
  exact PS.imp (ps_try_onlyE (c := .ref (ca C)) (ts := fun _ _ _ => tS X.K ca (fun _ _ _ _ => False) su) (Wout := W) (tb := fun W' => tS X.K ca W' fb) ho hs hf ⟨hg, hdb, .inl (T.one C hC).name⟩ tk hb fun a oe cls d pn hz hv => hsu a oe pn fun u s' ⟨_, _, _, _, _, _, _, _, _, _, _, _, _, _, _, _, w⟩ => w.elim) fun D σ H h => tryE_imp T hC h
end
end Lk
namespace Lk
open PySem L2
section
variable {X : Cx} {ca : Cl → Addr}
end
end Lk
namespace Lk
open PySem L2
section
variable {X : Cx} {ca : Cl → Addr}
end
def iSlR (f : E) (p q : Pt) : E := fun s => (f s).bind fun r s1 => (p s1).bind fun lo s2 => (q s2).bind fun hi s3 => match r with
  | .w (.rol ns) => .ok (.fr (cutD (ns.map D.int) lo hi)) s3
  | _ => .stuck
section
variable {X : Cx} {ca : Cl → Addr} {W : WX} {a : Expr} {f : E} {lo hi : Option Expr} {p q : Pt} {pos p2 : Pos}
theorem e_slR (he : PE X a (tE X.K ca W f)) (hl : PO X lo (tO X.K ca W p)) (hu : PO X hi (tO X.K ca W q)) : PE X (.Subscript a (.Slice lo hi none p2) pos) (tE X.K ca W (iSlR f p q)) := by
  refine PE.imp (pe_slice sl_list he hl hu) fun σ H Q ⟨B, F, m, s, c, h⟩ => ?_
  refine ⟨B, F, m, s, c, ResG.imp (ResG.bind h) fun F1 m1 s1 H1 x a1 a2 c1 h1 v rv => ?_⟩
  refine ⟨B, F1, m1, s1, c1, ResG.imp (ResG.bind h1) fun F3 m3 s3 H3 l a3 a4 c3 h3 => ?_⟩
  refine ⟨B, F3, m3, s3, c3, ResG.imp (ResG.bind h3) fun F5 m5 s5 H5 u a5 a6 c5 h5 => ?_⟩
  cases x with
  | w d =>
    cases d with
    | rol ns =>
      obtain ⟨b, rfl, hb⟩ := rv
      refine ⟨b, _, rfl, c5.fh.sqL ((a3.trans a5).sqL hb), fun pp hp => ?_⟩
      exact ansL c5 (fun F' H' w g1 c6 r6 => ResG.now (W := W) c6 (ResG.mono g1 (List.prefix_refl _) h5) w r6) (cut_rws rws_ints) pp hp
    | _ => exact h5.elim
  | _ => exact h5.elim
end
end Lk
namespace Lk
open PySem L2
theorem strs_rws {K : PySem.W.Frag} {F : Hp} {m : List Addr} : ∀ {ns : List Str} {vs : List V}, RWs K F m (ns.map D.str) vs → vs = ns.map V.str
  | [], vs, h => h
  | n :: ns, vs, h => by
    obtain ⟨v, r, rfl, hv, hr⟩ := h
    have hv : v = .str n := hv
    rw [hv, strs_rws hr]
    rfl
theorem rws_strs {K : PySem.W.Frag} {F : Hp} {m : List Addr} : ∀ {ns : List Str}, RWs K F m (ns.map D.str) (ns.map V.str)
  | [] => rfl
  | n :: ns => ⟨.str n, ns.map V.str, rfl, rfl, rws_strs⟩
def gSplit (d e : D) : Option RX := match d, e with
  | .str a, .str b => match b.length == 0 with
    | true => none
    | false => if a.length ≤ 1000000 then some (.fr ((Txt.split a b).map D.str)) else none
  | _, _ => none
def gJoin (d e : D) : Option RX := match d, e with
  | .str a, .lst ds => match strsD ds with
    | some ys => if (ys.map (·.length)).sum + ys.length * a.length ≤ 1000000 then some (.w (.str (Txt.join a ys))) else none
    | none => none
  | _, _ => none
def gSw (d e : D) : Option RX := match d, e with
  | .str a, .str b => some (.w (.bl (Txt.startswith a b)))
  | _, _ => none
noncomputable def gIntS : List D → Option RX
  | [.str a] => match PySem.intText? a with
    | some n => if a.length ≤ 640 then some (.w (.int n)) else none
    | none => none
  | _ => none
section
variable {X : Cx} {ca : Cl → Addr}
theorem m_split : MtR X "str.split" (rM1 X.K ca gSplit) := by
  intro pins s σ H x xs v us Q I rx rxs ⟨u, eu, B, F, m, s1, σ1, d, e, r, c, hx, hy, hg, q⟩
  subst eu
  unfold gSplit at hg
  split at hg
  · rename_i a b
    split at hg
    · cases hg
    · rename_i hb
      split at hg
      · rename_i hz
        cases hg
        have hx : x = .str a := hx
        have hy : u = .str b := hy
        subst hx
        subst hy
        exact mt_split pins s σ H _ _ v us Q I rx rxs ⟨a, b, rfl, rfl, hb, by rw [sizeLine_eq]; omega, fun p hp => ansL c q rws_strs p hp⟩
      · cases hg
  · cases hg
theorem m_startswith : MtR X "str.startswith" (rM1 X.K ca gSw) := by
  intro pins s σ H x xs v us Q I rx rxs ⟨u, eu, B, F, m, s1, σ1, d, e, r, c, hx, hy, hg, q⟩
  subst eu
  unfold gSw at hg
  split at hg
  · rename_i a b
    cases hg
    have hx : x = .str a := hx
    have hy : u = .str b := hy
    subst hx
    subst hy
    exact mt_startswith pins s σ H _ _ v us Q I rx rxs ⟨a, b, rfl, rfl, ansW c q rfl⟩
  · cases hg
theorem m_join : MtR X "str.join" (rM1 X.K ca gJoin) := by
  intro pins s σ H x xs v us Q I rx rxs ⟨u, eu, B, F, m, s1, σ1, d, e, r, c, hx, hy, hg, q⟩
  subst eu
  unfold gJoin at hg
  split at hg
  · rename_i a ds
    split at hg
    · rename_i ys es
      split at hg
      · rename_i hz
        cases hg
        have hx : x = .str a := hx
        subst hx
        obtain ⟨b, vs, rfl, hb, ra⟩ := hy
        rw [strsD_eq es] at ra
        have e2 := strs_rws ra
        subst e2
        exact mt_join pins s σ H _ _ v us Q I rx rxs ⟨a, b, ys, rfl, rfl, .inl (SqL.of hb), by omega, ansW c q rfl⟩
      · cases hg
    · cases hg
  · cases hg
theorem c_intS : CallR X (.type "int") (rc X.K ca gIntS) := cbr fun B F m s σ H ds r xs Q c hx hg q => by
  unfold gIntS at hg
  split at hg
  · rename_i a
    split at hg
    · rename_i n hn
      split at hg
      · rename_i hl
        cases hg
        obtain ⟨v, rfl, hv⟩ := hx.one
        have hv : v = .str a := hv
        subst hv
        exact ⟨_, call_int_str, a, n, rfl, hn, hl, ansW c q rfl⟩
      · cases hg
    · cases hg
  · cases hg
theorem c_str : CallR X (.type "str") (rc X.K ca gStr) := cbr fun B F m s σ H ds r xs Q c hx hg q => by
  unfold gStr at hg
  split at hg
  · rename_i i
    split at hg
    · rename_i hd
      have hd := dec_iff.mp hd
      cases hg
      obtain ⟨v, rfl, hv⟩ := hx.one
      have hv : v = .int i := hv
      subst hv
      refine ⟨_, call_str_int, i, rfl, ?_, ansW c q rfl⟩
      rcases Nat.eq_zero_or_pos i.natAbs with z | z
      · rw [z]; decide
      · exact (Nat.log2_lt (by omega)).mpr (Nat.lt_of_lt_of_le hd (Nat.pow_le_pow_right (by decide) (by decide)))
    · cases hg
  · rename_i a
    cases hg
    obtain ⟨v, rfl, hv⟩ := hx.one
    have hv : v = .str a := hv
    subst hv
    exact ⟨_, SkE.call_str_str, a, rfl, ansW c q rfl⟩
  · cases hg
end
end Lk
namespace Lk
@[irreducible] def WS (f : I) (s : Sx) (Q : SR → Prop) : Prop := Q (f s)
theorem WS_eq {f : I} {s : Sx} {Q : SR → Prop} : WS f s Q = Q (f s) := by unfold WS; rfl
def endF (P : FR → Prop) : SR → Prop
  | .nx s => P (.ok (.v .non) s.hp)
  | .ret q s => P (.ok q s.hp)
  | .exc c d s => P (.exc c d s.hp)
  | .brk _ => P .stuck
  | .cnt _ => P .stuck
  | .stuck => P .stuck
def thenQ (g : I) (Q : SR → Prop) : SR → Prop
  | .nx s1 => WS g s1 Q
  | .ret q s => Q (.ret q s)
  | .exc c d s => Q (.exc c d s)
  | .brk s => Q (.brk s)
  | .cnt s => Q (.cnt s)
  | .stuck => Q .stuck
def condQ (f g : I) (Q : SR → Prop) : Rs RX → Prop
  | .ok x s1 => match isB x with
    | some b => (b = true → WS f s1 Q) ∧ (b = false → WS g s1 Q)
    | none => Q .stuck
  | .exc c d s1 => Q (.exc c d s1)
  | .stuck => Q .stuck
def loopQ (J : Sx → Prop) (Q : SR → Prop) : SR → Prop
  | .nx s => J s
  | .cnt s => J s
  | .brk s => Q (.nx s)
  | .ret r s => Q (.ret r s)
  | .exc c d s => Q (.exc c d s)
  | .stuck => Q .stuck
section
variable {f g h : I} {s s1 : Sx} {Q : SR → Prop} {P : FR → Prop} {c : E}
theorem ws_fn {n k : Nat} {body : I} {ds : List D} {hp : List Ob} (hn : ds.length = n) (h : WS body ⟨ds.map SV.v ++ List.replicate k SV.no, hp⟩ (endF P)) : P (mkFn n k body ds hp) := by
  unfold mkFn
  rw [if_pos hn]
  unfold WS at h
  cases e : body ⟨ds.map SV.v ++ List.replicate k SV.no, hp⟩ <;> rw [e] at h <;> exact h
theorem ws_fnE {n k : Nat} {body : I} {ds : List D} {hp : List Ob} {r : FR} (hn : ds.length = n) (h : WS body ⟨ds.map SV.v ++ List.replicate k SV.no, hp⟩ (endF fun x => x = r)) : mkFn n k body ds hp = r := ws_fn (P := fun x => x = r) hn h
theorem ws_seq (h : WS f s (thenQ g Q)) : WS (iSeq f g) s Q := by
  rw [WS_eq] at h ⊢
  unfold iSeq
  cases e : f s <;> rw [e] at h <;> first | exact h | exact cast WS_eq h
theorem ws_if (h : ∀ r, c s = r → condQ f g Q r) : WS (iIfS c f g) s Q := by
  have h := h _ rfl
  unfold WS
  unfold iIfS thenS
  cases e : c s with
  | ok x s1 =>
    rw [e] at h
    show Q (match isB x with | some true => f s1 | some false => g s1 | none => .stuck)
    have h : (match isB x with | some b => (b = true → WS f s1 Q) ∧ (b = false → WS g s1 Q) | none => Q .stuck) := h
    cases e2 : isB x with
    | none => rw [e2] at h; exact h
    | some b =>
      rw [e2] at h
      cases b with
      | true => exact cast WS_eq (h.1 rfl)
      | false => exact cast WS_eq (h.2 rfl)
  | exc cc d s1 => rw [e] at h; exact h
  | stuck => rw [e] at h; exact h
theorem if_and {a b : E} : iIfS (iAnd a b) f g s = iIfS a (iIfS b f g) g s := by
  unfold iIfS iAnd thenS Rs.bind
  cases e : a s with
  | ok x s1 =>
    simp only
    cases e2 : isB x with
    | none => rfl
    | some k => cases k <;> rfl
  | exc c d s1 => rfl
  | stuck => rfl
theorem if_or {a b : E} : iIfS (iOr a b) f g s = iIfS a f (iIfS b f g) s := by
  unfold iIfS iOr thenS Rs.bind
  cases e : a s with
  | ok x s1 =>
    simp only
    cases e2 : isB x with
    | none => rfl
    | some k => cases k <;> rfl
  | exc c d s1 => rfl
  | stuck => rfl
theorem if_not {a : E} : iIfS (iNot a) f g s = iIfS a g f s := by
  unfold iIfS iNot thenS Rs.bind
  cases e : a s with
  | ok x s1 =>
    simp only
    cases e2 : isB x with
    | none => rfl
    | some k => cases k <;> rfl
  | exc c d s1 => rfl
  | stuck => rfl
theorem ws_if_and {a b : E} (h : WS (iIfS a (iIfS b f g) g) s Q) : WS (iIfS (iAnd a b) f g) s Q := by rw [WS_eq] at h ⊢; rw [if_and]; exact h
theorem ws_if_or {a b : E} (h : WS (iIfS a f (iIfS b f g)) s Q) : WS (iIfS (iOr a b) f g) s Q := by rw [WS_eq] at h ⊢; rw [if_or]; exact h
theorem ws_if_not {a : E} (h : WS (iIfS a g f) s Q) : WS (iIfS (iNot a) f g) s Q := by rw [WS_eq] at h ⊢; rw [if_not]; exact h
theorem ret_and {a b : E} : iRet (iAnd a b) s = iIfS a (iRet b) (iRet (iC (.bl false))) s := by
  unfold iIfS iRet iAnd thenS Rs.bind
  cases e : a s with
  | ok x s1 =>
    simp only
    cases e2 : isB x with
    | none => rfl
    | some k => cases k <;> rfl
  | exc c d s1 => rfl
  | stuck => rfl
theorem ret_or {a b : E} : iRet (iOr a b) s = iIfS a (iRet (iC (.bl true))) (iRet b) s := by
  unfold iIfS iRet iOr thenS Rs.bind
  cases e : a s with
  | ok x s1 =>
    simp only
    cases e2 : isB x with
    | none => rfl
    | some k => cases k <;> rfl
  | exc c d s1 => rfl
  | stuck => rfl
theorem ret_if {a b d : E} : iRet (iIf d a b) s = iIfS d (iRet a) (iRet b) s := by
  unfold iIfS iRet iIf thenS Rs.bind
  cases e : d s with
  | ok x s1 =>
    simp only
    cases e2 : isB x with
    | none => rfl
    | some k => cases k <;> rfl
  | exc c d s1 => rfl
  | stuck => rfl
theorem ws_ret_and {a b : E} (h : WS (iIfS a (iRet b) (iRet (iC (.bl false)))) s Q) : WS (iRet (iAnd a b)) s Q := by rw [WS_eq] at h ⊢; rw [ret_and]; exact h
theorem ws_ret_or {a b : E} (h : WS (iIfS a (iRet (iC (.bl true))) (iRet b)) s Q) : WS (iRet (iOr a b)) s Q := by rw [WS_eq] at h ⊢; rw [ret_or]; exact h
theorem ws_ret_if {a b d : E} (h : WS (iIfS d (iRet a) (iRet b)) s Q) : WS (iRet (iIf d a b)) s Q := by rw [WS_eq] at h ⊢; rw [ret_if]; exact h
theorem set_and {a b : E} {i : Nat} : iSet i (iAnd a b) s = iIfS a (iSet i b) (iSet i (iC (.bl false))) s := by
  simp only [iIfS, iSet, iAnd, arg, thenS, Rs.bind]
  cases e : a s with
  | ok x s1 =>
    simp only
    cases e2 : isB x with
    | none => rfl
    | some k => cases k <;> rfl
  | exc c d s1 => rfl
  | stuck => rfl
theorem set_or {a b : E} {i : Nat} : iSet i (iOr a b) s = iIfS a (iSet i (iC (.bl true))) (iSet i b) s := by
  simp only [iIfS, iSet, iOr, arg, thenS, Rs.bind]
  cases e : a s with
  | ok x s1 =>
    simp only
    cases e2 : isB x with
    | none => rfl
    | some k => cases k <;> rfl
  | exc c d s1 => rfl
  | stuck => rfl
theorem set_if {a b d : E} {i : Nat} : iSet i (iIf d a b) s = iIfS d (iSet i a) (iSet i b) s := by
  simp only [iIfS, iSet, iIf, arg, thenS, Rs.bind]
  cases e : d s with
  | ok x s1 =>
    simp only
    cases e2 : isB x with
    | none => rfl
    | some k => cases k <;> rfl
  | exc c d s1 => rfl
  | stuck => rfl
theorem ws_set_and {a b : E} {i : Nat} (h : WS (iIfS a (iSet i b) (iSet i (iC (.bl false)))) s Q) : WS (iSet i (iAnd a b)) s Q := by rw [WS_eq] at h ⊢; rw [set_and]; exact h
theorem ws_set_or {a b : E} {i : Nat} (h : WS (iIfS a (iSet i (iC (.bl true))) (iSet i b)) s Q) : WS (iSet i (iOr a b)) s Q := by rw [WS_eq] at h ⊢; rw [set_or]; exact h
theorem ws_set_if {a b d : E} {i : Nat} (h : WS (iIfS d (iSet i a) (iSet i b)) s Q) : WS (iSet i (iIf d a b)) s Q := by rw [WS_eq] at h ⊢; rw [set_if]; exact h
theorem ws_next (h : Q (.nx s)) : WS iNext s Q := by rw [WS_eq]; exact h
theorem ws_at (h : ∀ r, f s = r → Q r) : WS f s Q := by rw [WS_eq]; exact h _ rfl
theorem q_nx (h : WS g s1 Q) : thenQ g Q (.nx s1) := h
theorem q_ret {q : RV} (h : Q (.ret q s1)) : thenQ g Q (.ret q s1) := h
theorem q_exc {cc : Cl} {d : D} (h : Q (.exc cc d s1)) : thenQ g Q (.exc cc d s1) := h
theorem q_brk (h : Q (.brk s1)) : thenQ g Q (.brk s1) := h
theorem q_cnt (h : Q (.cnt s1)) : thenQ g Q (.cnt s1) := h
theorem l_nx {J : Sx → Prop} (h : J s1) : loopQ J Q (.nx s1) := h
theorem l_cnt {J : Sx → Prop} (h : J s1) : loopQ J Q (.cnt s1) := h
theorem l_brk {J : Sx → Prop} (h : Q (.nx s1)) : loopQ J Q (.brk s1) := h
theorem l_ret {J : Sx → Prop} {q : RV} (h : Q (.ret q s1)) : loopQ J Q (.ret q s1) := h
theorem l_exc {J : Sx → Prop} {cc : Cl} {d : D} (h : Q (.exc cc d s1)) : loopQ J Q (.exc cc d s1) := h
theorem f_nx (h : P (.ok (.v .non) s1.hp)) : endF P (.nx s1) := h
theorem f_ret {q : RV} (h : P (.ok q s1.hp)) : endF P (.ret q s1) := h
theorem f_exc {cc : Cl} {d : D} (h : P (.exc cc d s1.hp)) : endF P (.exc cc d s1) := h
theorem c_T (h : WS f s1 Q) : condQ f g Q (.ok (.w (.bl true)) s1) := ⟨fun _ => h, fun e => by cases e⟩
theorem c_F (h : WS g s1 Q) : condQ f g Q (.ok (.w (.bl false)) s1) := ⟨fun e => (by cases e), fun _ => h⟩
theorem c_D {p : Prop} [Decidable p] (h1 : p → WS f s1 Q) (h2 : ¬p → WS g s1 Q) : condQ f g Q (.ok (.w (.bl (decide p))) s1) := ⟨fun e => h1 (of_decide_eq_true e), fun e => h2 (of_decide_eq_false e)⟩
theorem c_N {p : Prop} [Decidable p] (h1 : ¬p → WS f s1 Q) (h2 : p → WS g s1 Q) : condQ f g Q (.ok (.w (.bl (!decide p))) s1) := ⟨fun e => h1 (by simpa using e), fun e => h2 (by simpa using e)⟩
theorem c_B {b : Bool} (h1 : b = true → WS f s1 Q) (h2 : b = false → WS g s1 Q) : condQ f g Q (.ok (.w (.bl b)) s1) := ⟨h1, h2⟩
theorem c_X {cc : Cl} {d : D} (h : Q (.exc cc d s1)) : condQ f g Q (.exc cc d s1) := h
theorem ws_for {q : Sq} {tg : Tgt} {body : I} (xs : List D) (s0 : Sx) (hq : q s = .ok (xs, .val) s0) (Inv : Nat → Sx → Prop) (h0 : Inv 0 s0)
    (hs : ∀ (i : Nat) (x : D) (s1 : Sx), xs[i]? = some x → Inv i s1 → ∃ s2, tg x s1 = some s2 ∧ WS body s2 (loopQ (Inv (i + 1)) Q))
    (he : ∀ s1, Inv xs.length s1 → Q (.nx s1)) : WS (iFor q tg body) s Q := by
  unfold WS
  rw [for_ok hq rfl]
  have key : ∀ (ys : List D) (k : Nat) (s1 : Sx), (∀ i, ys[i]? = xs[k + i]?) → k + ys.length = xs.length → Inv k s1 → Q (loop tg body .val xs ys s1) := by
    intro ys
    induction ys with
    | nil =>
      intro k s1 _ hl hi
      have : k = xs.length := by simpa using hl
      subst this
      exact he s1 hi
    | cons y ys ih =>
      intro k s1 hy hl hi
      have h0 : xs[k]? = some y := by
        have := hy 0
        simpa using this.symm
      obtain ⟨s2, e1, h2⟩ := hs k y s1 h0 hi
      have nxt : ∀ s3, Inv (k + 1) s3 → Q (loop tg body .val xs ys s3) := fun s3 h3 => ih (k + 1) s3 (fun i => by
        have := hy (i + 1)
        rw [List.getElem?_cons_succ] at this
        rw [this]
        congr 1; omega) (by rw [List.length_cons] at hl; omega) h3
      rw [loop_cons, e1]
      unfold WS at h2
      cases e2 : body s2 <;> simp only [e2] at h2 ⊢ <;> first | exact nxt _ h2 | exact h2
  exact key xs 0 s0 (fun i => by rw [Nat.zero_add]) (by simp) h0
theorem ws_forN {q : Sq} {body : I} {j : Nat} (xs : List D) (s0 : Sx) (hq : q s = .ok (xs, .val) s0) (Inv : Nat → Sx → Prop) (h0 : Inv 0 s0)
    (hs : ∀ (i : Nat) (x : D) (s1 : Sx), xs[i]? = some x → Inv i s1 → WS body (setv j x s1) (loopQ (Inv (i + 1)) Q))
    (he : ∀ s1, Inv xs.length s1 → Q (.nx s1)) : WS (iFor q (tgN j) body) s Q :=
  ws_for xs s0 hq Inv h0 (fun i x s1 hx hi => ⟨_, rfl, hs i x s1 hx hi⟩) he
end
@[simp] theorem keyD_s (x : PySem.Str) : keyD (.str x) = some (.inr x) := rfl
@[simp] theorem keyD_i (x : Int) : keyD (.int x) = some (.inl x) := rfl
@[simp] theorem der_pr (hp : List Ob) (xs : List D) : der hp (.pr xs) = .pr xs := rfl
@[simp] theorem der_non (hp : List Ob) : der hp .non = .non := rfl
@[simp] theorem der_bl (hp : List Ob) (b : Bool) : der hp (.bl b) = .bl b := rfl
@[simp] theorem der_int (hp : List Ob) (i : Int) : der hp (.int i) = .int i := rfl
@[simp] theorem der_str (hp : List Ob) (x : PySem.Str) : der hp (.str x) = .str x := rfl
@[simp] theorem der_tup (hp : List Ob) (xs : List D) : der hp (.tup xs) = .tup xs := rfl
@[simp] theorem der_lst (hp : List Ob) (xs : List D) : der hp (.lst xs) = .lst xs := rfl
@[simp] theorem der_rol (hp : List Ob) (ns : List Int) : der hp (.rol ns) = .rol ns := rfl
@[simp] theorem der_dct (hp : List Ob) : der hp .dct = .dct := rfl
@[simp] theorem der_ref (hp : List Ob) (n : Nat) : der hp (.ref n) = match hp[n]? with
    | some (.lst xs) => .lst xs
    | _ => .ref n := rfl
section
variable {q : Sq} {tg : Tgt} {test elt : E} {vs : List Nat} {s s1 : Sx}
theorem lc_ok {xs : List D} (p : D → Bool) (g : D → D) (hq : q s = .ok (xs, .val) s1) (hl : xs.length ≤ 1000000)
    (hs : ∀ x ∈ xs, ∃ s2, tg x (s1.wipe vs) = some s2 ∧ test s2 = .ok (.w (.bl (p x))) s2 ∧ (p x = true → arg elt s2 = .ok (g x) s2) ∧ s2.wipe vs = s1.wipe vs) :
    iLc q tg test elt vs s = .ok (.fr ((xs.filter p).map g)) (s1.wipe vs) := by
  unfold iLc Rs.bind
  rw [hq]
  show lcLoop tg test elt vs .val xs xs [] (s1.wipe vs) = _
  have key : ∀ (ys acc : List D), (∀ y ∈ ys, y ∈ xs) → acc.length + ys.length ≤ 1000000 → lcLoop tg test elt vs .val xs ys acc (s1.wipe vs) = .ok (.fr (acc ++ (ys.filter p).map g)) (s1.wipe vs) := by
    intro ys
    induction ys with
    | nil =>
      intro acc _ _
      simp [lcLoop, okAt]
    | cons y ys ih =>
      intro acc hy hl
      obtain ⟨s2, e1, e2, e3, e4⟩ := hs y (hy y List.mem_cons_self)
      have hm : ∀ z ∈ ys, z ∈ xs := fun z hz => hy z (List.mem_cons_of_mem _ hz)
      rw [List.length_cons] at hl
      unfold lcLoop
      simp only [okAt, e1, e2]
      cases e : p y with
      | true =>
        have e3 := e3 e
        have hlt : acc.length < 1000000 := by omega
        simp only [e3, if_pos hlt, e4]
        rw [ih (acc ++ [g y]) hm (by rw [List.length_append, List.length_singleton]; omega)]
        simp [e]
      | false =>
        simp only [e4]
        rw [ih acc hm (by omega)]
        simp [e]
  have := key xs [] (fun _ h => h) (by simpa using hl)
  simpa using this
theorem lc_all {xs : List D} (g : D → D) (hq : q s = .ok (xs, .val) s1) (hl : xs.length ≤ 1000000)
    (hs : ∀ x ∈ xs, ∃ s2, tg x (s1.wipe vs) = some s2 ∧ arg elt s2 = .ok (g x) s2 ∧ s2.wipe vs = s1.wipe vs) :
    iLc q tg (iC (.bl true)) elt vs s = .ok (.fr (xs.map g)) (s1.wipe vs) := by
  have h := lc_ok (q := q) (tg := tg) (test := iC (.bl true)) (elt := elt) (vs := vs) (s := s) (s1 := s1) (fun _ => true) g hq hl (fun x hx => by
    obtain ⟨s2, a, b, c⟩ := hs x hx
    exact ⟨s2, a, rfl, fun _ => b, c⟩)
  rw [h, List.filter_eq_self.mpr fun _ _ => rfl]
end
theorem mulOk_b {i j : Int} (h1 : -340282366920938463463374607431768211456 < i) (h2 : i < 340282366920938463463374607431768211456) (h3 : -340282366920938463463374607431768211456 < j) (h4 : j < 340282366920938463463374607431768211456) : mulOk i j = true :=
  mulOk_of (k := 128) (l := 128) (by unfold Bits; omega) (by unfold Bits; omega) (by decide)
open PySem PySem.W in
theorem leP_int (a b : Int) : leP (.int a) (.int b) = decide (a ≤ b) := by
  have h := congrFun (congrFun (dataLe_int (β := Int) id) a) b
  have e : leP (.int a) (.int b) = dataLe false (fun b : Int => PyData.int (id b)) a b := by
    unfold leP dataLe
    simp [toP, sortLe]
  rw [e, h]
  rfl
theorem sortD_int (ns : List Int) : sortD (ns.map D.int) = (sortI ns).map D.int := by
  unfold sortD sortI
  rw [List.map_mergeSort]
  intro a _ b _
  exact (leP_int a b).symm
theorem sortOk_int (ns : List Int) (h : ns.length ≤ 1000000) : sortOk (ns.map D.int) = true := by
  unfold sortOk
  simp only [Bool.and_eq_true, List.all_eq_true, Bool.or_eq_true, decide_eq_true_eq, List.mem_map, forall_exists_index, and_imp, forall_apply_eq_imp_iff₂, List.length_map]
  refine ⟨⟨⟨⟨fun a _ => rfl, fun a _ b _ => ?_⟩, .inr fun a _ => rfl⟩, fun a _ => ?_⟩, h⟩
  · simp [toP, PySem.W.alike]
  · simp [toP, PySem.PyData.depth]
theorem sort_ints (ns : List Int) (h : ns.length ≤ 1000000) : gSorted [.lst (ns.map D.int)] = some (.fr ((sortI ns).map D.int)) := by
  show (if sortOk (ns.map D.int) = true then some (RX.fr (sortD (ns.map D.int))) else none) = _
  rw [if_pos (sortOk_int ns h), sortD_int]
theorem sort_intsT (ns : List Int) (h : ns.length ≤ 1000000) : gSorted [.tup (ns.map D.int)] = some (.fr ((sortI ns).map D.int)) := by
  show (if sortOk (ns.map D.int) = true then some (RX.fr (sortD (ns.map D.int))) else none) = _
  rw [if_pos (sortOk_int ns h), sortD_int]
section
variable {f elt test : E} {s s1 : Sx} {i k : Nat}
theorem setv_wipe {d : D} {s : Sx} : (setv i d (s.wipe [i])).wipe [i] = s.wipe [i] := by
  show Sx.mk (((s.env.set i .no).set i (.v d)).set i .no) s.hp = Sx.mk (s.env.set i .no) s.hp
  rw [List.set_set, List.set_set]
theorem lc_rng {n : Nat} (g : Nat → D) (hq : arg f s = .ok (.int (n : Nat)) s1) (hn : n ≤ 1000000) (hs : ∀ j : Nat, j < n → arg elt (setv i (.int (j : Nat)) (s1.wipe [i])) = .ok (g j) (setv i (.int (j : Nat)) (s1.wipe [i]))) :
    iLc (qR1 f) (tgN i) (iC (.bl true)) elt [i] s = .ok (.fr ((List.range n).map g)) (s1.wipe [i]) := by
  have h := lc_all (q := qR1 f) (tg := tgN i) (elt := elt) (vs := [i]) (s := s) (s1 := s1) (xs := rngD 0 n) (fun x => match x with | .int j => g j.toNat | _ => .non) (r1_ok hq rfl (by omega)) (by rw [rngD_length]; omega) (fun x hx => by
    obtain ⟨j, hj⟩ := List.getElem?_of_mem hx
    obtain ⟨h1, rfl⟩ := rngD_get hj
    rw [Int.zero_add]
    refine ⟨_, rfl, ?_, setv_wipe⟩
    rw [hs j h1]
    simp)
  rw [h]
  congr 2
  unfold rngD
  rw [List.map_map]
  refine List.map_congr_left fun j _ => ?_
  show g (0 + (j : Int)).toNat = g j
  congr 1; omega
theorem lc_listA {q : Sq} {xs : List D} (g : D → D) (hq : q s = .ok (xs, .val) s1) (hn : xs.length ≤ 1000000) (hs : ∀ x ∈ xs, arg elt (setv i x (s1.wipe [i])) = .ok (g x) (setv i x (s1.wipe [i]))) :
    iLc q (tgN i) (iC (.bl true)) elt [i] s = .ok (.fr (xs.map g)) (s1.wipe [i]) :=
  lc_all g hq hn fun x hx => ⟨_, rfl, hs x hx, setv_wipe⟩
end
theorem atI_nat {α : Type} (xs : List α) (n : Nat) : L2.atI xs (n : Int) = xs[n]? := by
  unfold L2.atI L2.ixN
  by_cases h : n < xs.length
  · simp [h]
  · simp [h, List.getElem?_eq_none (Nat.le_of_not_lt h)]
theorem gAdd_i (i j : Int) : gAdd (.int i) (.int j) = some (.w (.int (i + j))) := rfl
theorem gAdd_t (xs ys : List D) (h : xs.length + ys.length ≤ 1000000) : gAdd (.tup xs) (.tup ys) = some (.w (.tup (xs ++ ys))) := by
  show (if xs.length + ys.length ≤ 1000000 then some (RX.w (.tup (xs ++ ys))) else none) = _
  rw [if_pos h]
theorem gAdd_l (xs ys : List D) (h : xs.length + ys.length ≤ 1000000) : gAdd (.lst xs) (.lst ys) = some (.fr (xs ++ ys)) := by
  show (if xs.length + ys.length ≤ 1000000 then some (RX.fr (xs ++ ys)) else none) = _
  rw [if_pos h]
theorem gAdd_s (x y : PySem.Str) (h : x.length + y.length ≤ 1000000) : gAdd (.str x) (.str y) = some (.w (.str (x ++ y))) := by
  show (if x.length + y.length ≤ 1000000 then some (RX.w (.str (x ++ y))) else none) = _
  rw [if_pos h]
@[simp] theorem weq_l00 : weq (.lst []) (.lst []) = some true := rfl
@[simp] theorem weq_l10 (x : D) (xs : List D) : weq (.lst (x :: xs)) (.lst []) = some false := rfl
@[simp] theorem weq_l01 (x : D) (xs : List D) : weq (.lst []) (.lst (x :: xs)) = some false := rfl
@[simp] theorem weq_t00 : weq (.tup []) (.tup []) = some true := rfl
@[simp] theorem weq_t10 (x : D) (xs : List D) : weq (.tup (x :: xs)) (.tup []) = some false := rfl
@[simp] theorem weq_t01 (x : D) (xs : List D) : weq (.tup []) (.tup (x :: xs)) = some false := rfl
theorem weqL_self {f : D → D → Option Bool} : ∀ (xs : List D), (∀ x ∈ xs, f x x = some true) → weqL f xs xs = some true
  | [], _ => rfl
  | x :: xs, h => by
    unfold weqL
    rw [h x List.mem_cons_self, weqL_self xs fun y hy => h y (List.mem_cons_of_mem _ hy)]
    rfl
theorem weq_self_l (xs : List D) (h : ∀ x ∈ xs, weqF 19 x x = some true) : weq (.lst xs) (.lst xs) = some true := weqL_self xs h
theorem weq_self_ints (ns : List Int) : weq (.lst (ns.map D.int)) (.lst (ns.map D.int)) = some true := weq_self_l _ fun x hx => by
  obtain ⟨j, _, rfl⟩ := List.mem_map.mp hx
  simp
end Lk
namespace Pf
open PySem L2 Lk
def topS (i : Nat) : Stmt := PySem.Challenge.pw_lateknow_k81_game_read.main.body.getD i (.Pass ⟨0, 0, 0, 0⟩)
abbrev s_LateError___init__ : Stmt := inClass (topS 2) 0
theorem sc_LateError___init__ : FnScope ["self", "row"] ["self", "row"] (defScope s_LateError___init__) := ⟨rfl, rfl, rfl, by decide +kernel, rfl, by decide +kernel, by decide +kernel⟩
abbrev s_is_between : Stmt := topS 8
theorem sc_is_between : FnScope ["thing", "low", "high"] ["thing", "low", "high"] (defScope s_is_between) := ⟨rfl, rfl, rfl, by decide +kernel, rfl, by decide +kernel, by decide +kernel⟩
abbrev s_is_amount : Stmt := topS 9
theorem sc_is_amount : FnScope ["thing"] ["thing"] (defScope s_is_amount) := ⟨rfl, rfl, rfl, by decide +kernel, rfl, by decide +kernel, by decide +kernel⟩
abbrev s_is_name : Stmt := topS 10
theorem sc_is_name : FnScope ["thing", "sign"] ["thing"] (defScope s_is_name) := ⟨rfl, rfl, rfl, by decide +kernel, rfl, by decide +kernel, by decide +kernel⟩
abbrev s_are_names : Stmt := topS 11
theorem sc_are_names : FnScope ["thing", "one"] ["thing"] (defScope s_are_names) := ⟨rfl, rfl, rfl, by decide +kernel, rfl, by decide +kernel, by decide +kernel⟩
abbrev s_Rule___init__ : Stmt := inClass (topS 13) 0
theorem sc_Rule___init__ : FnScope ["self", "world", "start"] ["self", "world", "start"] (defScope s_Rule___init__) := ⟨rfl, rfl, rfl, by decide +kernel, rfl, by decide +kernel, by decide +kernel⟩
abbrev s_Bags___init__ : Stmt := inClass (topS 16) 0
theorem sc_Bags___init__ : FnScope ["self", "room"] ["self", "room"] (defScope s_Bags___init__) := ⟨rfl, rfl, rfl, by decide +kernel, rfl, by decide +kernel, by decide +kernel⟩
abbrev s_Bags_is_wish : Stmt := inClass (topS 16) 2
theorem sc_Bags_is_wish : FnScope ["self", "thing"] ["self", "thing"] (defScope s_Bags_is_wish) := ⟨rfl, rfl, rfl, by decide +kernel, rfl, by decide +kernel, by decide +kernel⟩
abbrev s_Filler___init__ : Stmt := inClass (topS 17) 0
theorem sc_Filler___init__ : FnScope ["self", "room"] ["self", "room"] (defScope s_Filler___init__) := ⟨rfl, rfl, rfl, by decide +kernel, rfl, by decide +kernel, by decide +kernel⟩
abbrev s_Hire___init__ : Stmt := inClass (topS 19) 0
theorem sc_Hire___init__ : FnScope ["self", "whole"] ["self", "whole"] (defScope s_Hire___init__) := ⟨rfl, rfl, rfl, by decide +kernel, rfl, by decide +kernel, by decide +kernel⟩
abbrev s_Hire_is_wish : Stmt := inClass (topS 19) 2
theorem sc_Hire_is_wish : FnScope ["self", "thing"] ["self", "thing"] (defScope s_Hire_is_wish) := ⟨rfl, rfl, rfl, by decide +kernel, rfl, by decide +kernel, by decide +kernel⟩
abbrev s_Buyer___init__ : Stmt := inClass (topS 20) 0
theorem sc_Buyer___init__ : FnScope ["self", "whole"] ["self", "whole"] (defScope s_Buyer___init__) := ⟨rfl, rfl, rfl, by decide +kernel, rfl, by decide +kernel, by decide +kernel⟩
abbrev s_is_place : Stmt := topS 22
theorem sc_is_place : FnScope ["thing"] ["thing"] (defScope s_is_place) := ⟨rfl, rfl, rfl, by decide +kernel, rfl, by decide +kernel, by decide +kernel⟩
abbrev s_are_places : Stmt := topS 23
theorem sc_are_places : FnScope ["thing", "many", "place"] ["thing", "many"] (defScope s_are_places) := ⟨rfl, rfl, rfl, by decide +kernel, rfl, by decide +kernel, by decide +kernel⟩
abbrev s_line_of : Stmt := topS 24
theorem sc_line_of : FnScope ["start", "many"] ["start"] (defScope s_line_of) := ⟨rfl, rfl, rfl, by decide +kernel, rfl, by decide +kernel, by decide +kernel⟩
abbrev s_Line___init__ : Stmt := inClass (topS 25) 0
theorem sc_Line___init__ : FnScope ["self", "many"] ["self", "many"] (defScope s_Line___init__) := ⟨rfl, rfl, rfl, by decide +kernel, rfl, by decide +kernel, by decide +kernel⟩
abbrev s_Line_is_wish : Stmt := inClass (topS 25) 2
theorem sc_Line_is_wish : FnScope ["self", "thing"] ["self", "thing"] (defScope s_Line_is_wish) := ⟨rfl, rfl, rfl, by decide +kernel, rfl, by decide +kernel, by decide +kernel⟩
abbrev s_Both___init__ : Stmt := inClass (topS 26) 0
theorem sc_Both___init__ : FnScope ["self", "start"] ["self", "start"] (defScope s_Both___init__) := ⟨rfl, rfl, rfl, by decide +kernel, rfl, by decide +kernel, by decide +kernel⟩
abbrev s_Shelf___init__ : Stmt := inClass (topS 28) 0
theorem sc_Shelf___init__ : FnScope ["self", "things"] ["self", "things"] (defScope s_Shelf___init__) := ⟨rfl, rfl, rfl, by decide +kernel, rfl, by decide +kernel, by decide +kernel⟩
abbrev s_Shelf_is_wish : Stmt := inClass (topS 28) 2
theorem sc_Shelf_is_wish : FnScope ["self", "thing"] ["self", "thing"] (defScope s_Shelf_is_wish) := ⟨rfl, rfl, rfl, by decide +kernel, rfl, by decide +kernel, by decide +kernel⟩
abbrev s_Front___init__ : Stmt := inClass (topS 29) 0
theorem sc_Front___init__ : FnScope ["self", "start"] ["self", "start"] (defScope s_Front___init__) := ⟨rfl, rfl, rfl, by decide +kernel, rfl, by decide +kernel, by decide +kernel⟩
abbrev s_Store___init__ : Stmt := inClass (topS 31) 0
theorem sc_Store___init__ : FnScope ["self", "many"] ["self", "many"] (defScope s_Store___init__) := ⟨rfl, rfl, rfl, by decide +kernel, rfl, by decide +kernel, by decide +kernel⟩
abbrev s_Store_is_wish : Stmt := inClass (topS 31) 2
theorem sc_Store_is_wish : FnScope ["self", "thing"] ["self", "thing"] (defScope s_Store_is_wish) := ⟨rfl, rfl, rfl, by decide +kernel, rfl, by decide +kernel, by decide +kernel⟩
abbrev s_Keeper___init__ : Stmt := inClass (topS 32) 0
theorem sc_Keeper___init__ : FnScope ["self", "pages"] ["self", "pages"] (defScope s_Keeper___init__) := ⟨rfl, rfl, rfl, by decide +kernel, rfl, by decide +kernel, by decide +kernel⟩
abbrev s_Ways___init__ : Stmt := inClass (topS 34) 0
theorem sc_Ways___init__ : FnScope ["self", "many", "toll"] ["self", "many", "toll"] (defScope s_Ways___init__) := ⟨rfl, rfl, rfl, by decide +kernel, rfl, by decide +kernel, by decide +kernel⟩
abbrev s_Ways_is_wish : Stmt := inClass (topS 34) 2
theorem sc_Ways_is_wish : FnScope ["self", "thing", "charge"] ["self", "thing"] (defScope s_Ways_is_wish) := ⟨rfl, rfl, rfl, by decide +kernel, rfl, by decide +kernel, by decide +kernel⟩
abbrev s_Changer___init__ : Stmt := inClass (topS 35) 0
theorem sc_Changer___init__ : FnScope ["self", "many", "toll", "start", "way"] ["self", "many", "toll", "start"] (defScope s_Changer___init__) := ⟨rfl, rfl, rfl, by decide +kernel, rfl, by decide +kernel, by decide +kernel⟩
abbrev s_sum_read : Stmt := topS 40
theorem sc_sum_read : FnScope ["word", "sign"] ["word"] (defScope s_sum_read) := ⟨rfl, rfl, rfl, by decide +kernel, rfl, by decide +kernel, by decide +kernel⟩
abbrev s_number_read : Stmt := topS 41
theorem sc_number_read : FnScope ["word", "number"] ["word"] (defScope s_number_read) := ⟨rfl, rfl, rfl, by decide +kernel, rfl, by decide +kernel, by decide +kernel⟩
abbrev s_rule_of : Stmt := topS 42
theorem sc_rule_of : FnScope ["word", "start"] ["word", "start"] (defScope s_rule_of) := ⟨rfl, rfl, rfl, by decide +kernel, rfl, by decide +kernel, by decide +kernel⟩
abbrev s_world_start : Stmt := topS 43
theorem sc_world_start : FnScope ["word", "start"] ["word", "start"] (defScope s_world_start) := ⟨rfl, rfl, rfl, by decide +kernel, rfl, by decide +kernel, by decide +kernel⟩
abbrev s_many_fit : Stmt := topS 44
theorem sc_many_fit : FnScope ["word", "many"] ["word", "many"] (defScope s_many_fit) := ⟨rfl, rfl, rfl, by decide +kernel, rfl, by decide +kernel, by decide +kernel⟩
abbrev s_start_read : Stmt := topS 45
theorem sc_start_read : FnScope ["words", "word", "names", "numbers", "one"] ["words"] (defScope s_start_read) := ⟨rfl, rfl, rfl, by decide +kernel, rfl, by decide +kernel, by decide +kernel⟩
abbrev s_wish_read : Stmt := topS 46
theorem sc_wish_read : FnScope ["words", "word", "world", "wish", "one"] ["words", "word", "world"] (defScope s_wish_read) := ⟨rfl, rfl, rfl, by decide +kernel, rfl, by decide +kernel, by decide +kernel⟩
abbrev s_read_game : Stmt := topS 47
theorem sc_read_game : FnScope ["text", "game", "world", "wishes", "at", "line", "wish"] ["text"] (defScope s_read_game) := ⟨rfl, rfl, rfl, by decide +kernel, rfl, by decide +kernel, by decide +kernel⟩
abbrev s__law_cell : Stmt := topS 49
theorem sc__law_cell : FnScope ["_law_script", "_law_k"] ["_law_script", "_law_k"] (defScope s__law_cell) := ⟨rfl, rfl, rfl, by decide +kernel, rfl, by decide +kernel, by decide +kernel⟩
abbrev s__law_mixed : Stmt := topS 50
theorem sc__law_mixed : FnScope ["_law_cell_here", "_law_k", "_law_number"] ["_law_cell_here", "_law_k"] (defScope s__law_mixed) := ⟨rfl, rfl, rfl, by decide +kernel, rfl, by decide +kernel, by decide +kernel⟩
abbrev s__law_whole : Stmt := topS 51
theorem sc__law_whole : FnScope ["_law_found"] ["_law_found"] (defScope s__law_whole) := ⟨rfl, rfl, rfl, by decide +kernel, rfl, by decide +kernel, by decide +kernel⟩
abbrev s__law_same : Stmt := topS 52
theorem sc__law_same : FnScope ["_law_found", "_law_due"] ["_law_found", "_law_due"] (defScope s__law_same) := ⟨rfl, rfl, rfl, by decide +kernel, rfl, by decide +kernel, by decide +kernel⟩
abbrev s__law_all_same : Stmt := topS 53
theorem sc__law_all_same : FnScope ["_law_found", "_law_due", "_law_one", "_law_other"] ["_law_found", "_law_due"] (defScope s__law_all_same) := ⟨rfl, rfl, rfl, by decide +kernel, rfl, by decide +kernel, by decide +kernel⟩
abbrev s__law_amount : Stmt := topS 54
theorem sc__law_amount : FnScope ["_law_cell_here", "_law_k", "_law_number"] ["_law_cell_here", "_law_k"] (defScope s__law_amount) := ⟨rfl, rfl, rfl, by decide +kernel, rfl, by decide +kernel, by decide +kernel⟩
abbrev s__law_place : Stmt := topS 55
theorem sc__law_place : FnScope ["_law_cell_here", "_law_k"] ["_law_cell_here", "_law_k"] (defScope s__law_place) := ⟨rfl, rfl, rfl, by decide +kernel, rfl, by decide +kernel, by decide +kernel⟩
abbrev s__law_names : Stmt := topS 56
theorem sc__law_names : FnScope ["_law_number", "_law_many", "_law_stem", "_law_at", "_law_names_here", "_law_j", "_law_sign"] ["_law_number", "_law_many"] (defScope s__law_names) := ⟨rfl, rfl, rfl, by decide +kernel, rfl, by decide +kernel, by decide +kernel⟩
abbrev s__law_start : Stmt := topS 57
theorem sc__law_start : FnScope ["_law_script", "_law_cell_here", "_law_number", "_law_word", "_law_j"] ["_law_script"] (defScope s__law_start) := ⟨rfl, rfl, rfl, by decide +kernel, rfl, by decide +kernel, by decide +kernel⟩
abbrev s__law_wish : Stmt := topS 58
theorem sc__law_wish : FnScope ["_law_word", "_law_start_here", "_law_cell_here", "_law_k", "_law_number", "_law_j"] ["_law_word", "_law_start_here", "_law_cell_here", "_law_k"] (defScope s__law_wish) := ⟨rfl, rfl, rfl, by decide +kernel, rfl, by decide +kernel, by decide +kernel⟩
abbrev s__law_words : Stmt := topS 59
theorem sc__law_words : FnScope ["_law_thing", "_law_part"] ["_law_thing"] (defScope s__law_words) := ⟨rfl, rfl, rfl, by decide +kernel, rfl, by decide +kernel, by decide +kernel⟩
abbrev s__law_lines : Stmt := topS 60
theorem sc__law_lines : FnScope ["_law_word", "_law_start_here", "_law_wishes", "_law_wish_here"] ["_law_word", "_law_start_here", "_law_wishes"] (defScope s__law_lines) := ⟨rfl, rfl, rfl, by decide +kernel, rfl, by decide +kernel, by decide +kernel⟩
abbrev s__law_text : Stmt := topS 61
theorem sc__law_text : FnScope ["_law_script", "_law_lines_here", "_law_found", "_law_k"] ["_law_script", "_law_lines_here"] (defScope s__law_text) := ⟨rfl, rfl, rfl, by decide +kernel, rfl, by decide +kernel, by decide +kernel⟩
abbrev s_law : Stmt := topS 62
theorem sc_law : FnScope ["_law_script", "_law_word", "_law_start_here", "_law_cells", "_law_wishes", "_law_number", "_law_signs", "_law_found", "_law_k"] ["_law_script"] (defScope s_law) := ⟨rfl, rfl, rfl, by decide +kernel, rfl, by decide +kernel, by decide +kernel⟩
def exs : Cl → Bool
  | .lateError => true
  | .noState => true
  | .noText => true
  | _ => false
structure Ad where
  LateError___init__ : Addr
  is_between : Addr
  is_amount : Addr
  is_name : Addr
  are_names : Addr
  Rule___init__ : Addr
  Bags___init__ : Addr
  Bags_is_wish : Addr
  Filler___init__ : Addr
  Hire___init__ : Addr
  Hire_is_wish : Addr
  Buyer___init__ : Addr
  is_place : Addr
  are_places : Addr
  line_of : Addr
  Line___init__ : Addr
  Line_is_wish : Addr
  Both___init__ : Addr
  Shelf___init__ : Addr
  Shelf_is_wish : Addr
  Front___init__ : Addr
  Store___init__ : Addr
  Store_is_wish : Addr
  Keeper___init__ : Addr
  Ways___init__ : Addr
  Ways_is_wish : Addr
  Changer___init__ : Addr
  sum_read : Addr
  number_read : Addr
  rule_of : Addr
  world_start : Addr
  many_fit : Addr
  start_read : Addr
  wish_read : Addr
  read_game : Addr
  _law_cell : Addr
  _law_mixed : Addr
  _law_whole : Addr
  _law_same : Addr
  _law_all_same : Addr
  _law_amount : Addr
  _law_place : Addr
  _law_names : Addr
  _law_start : Addr
  _law_wish : Addr
  _law_words : Addr
  _law_lines : Addr
  _law_text : Addr
  law : Addr
structure Tx (K : PySem.W.Frag) (mg : Str → Option Value) (A : Ad) : Prop where
  b_ValueError : mg "ValueError" = none
  b_isinstance : mg "isinstance" = none
  b_bool : mg "bool" = none
  b_int : mg "int" = none
  b_str : mg "str" = none
  b_len : mg "len" = none
  b_tuple : mg "tuple" = none
  b_set : mg "set" = none
  b_list : mg "list" = none
  b_sorted : mg "sorted" = none
  b_range : mg "range" = none
  b_all : mg "all" = none
  b_enumerate : mg "enumerate" = none
  b_zip : mg "zip" = none
  b_max : mg "max" = none
  g_is_between : mg "is_between" = some (.ref A.is_between)
  g_GREATEST : ConstAt mg "GREATEST" (.int 1000000000000000000)
  g_LETTERS : ConstAt mg "LETTERS" (.str "abcdefghijklmnopqrstuvwxyz")
  g_is_name : mg "is_name" = some (.ref A.is_name)
  g_is_amount : mg "is_amount" = some (.ref A.is_amount)
  g_is_place : mg "is_place" = some (.ref A.is_place)
  g_are_places : mg "are_places" = some (.ref A.are_places)
  g_line_of : mg "line_of" = some (.ref A.line_of)
  g_are_names : mg "are_names" = some (.ref A.are_names)
  g_MOST_FIGURES : ConstAt mg "MOST_FIGURES" (.int 19)
  g_FIGURES : ConstAt mg "FIGURES" (.str "0123456789")
  g_sum_read : mg "sum_read" = some (.ref A.sum_read)
  g_rule_of : mg "rule_of" = some (.ref A.rule_of)
  g_number_read : mg "number_read" = some (.ref A.number_read)
  g_many_fit : mg "many_fit" = some (.ref A.many_fit)
  g_wish_read : mg "wish_read" = some (.ref A.wish_read)
  g_start_read : mg "start_read" = some (.ref A.start_read)
  g_MOST_ASKS : ConstAt mg "MOST_ASKS" (.int 200)
  g_world_start : mg "world_start" = some (.ref A.world_start)
  g__law_whole : mg "_law_whole" = some (.ref A._law_whole)
  g__law_all_same : mg "_law_all_same" = some (.ref A._law_all_same)
  g__law_same : mg "_law_same" = some (.ref A._law_same)
  g__law_mixed : mg "_law_mixed" = some (.ref A._law_mixed)
  g__law_amount : mg "_law_amount" = some (.ref A._law_amount)
  g__law_cell : mg "_law_cell" = some (.ref A._law_cell)
  g__law_names : mg "_law_names" = some (.ref A._law_names)
  g__law_place : mg "_law_place" = some (.ref A._law_place)
  g__law_words : mg "_law_words" = some (.ref A._law_words)
  g__law_start : mg "_law_start" = some (.ref A._law_start)
  g__law_text : mg "_law_text" = some (.ref A._law_text)
  g_read_game : mg "read_game" = some (.ref A.read_game)
  g__law_wish : mg "_law_wish" = some (.ref A._law_wish)
  g__law_lines : mg "_law_lines" = some (.ref A._law_lines)
  f_LateError___init__ : FTX K "__init__" "LateError.__init__" s_LateError___init__ A.LateError___init__
  f_is_between : FT K "is_between" "is_between" s_is_between A.is_between ["thing", "low", "high"]
  f_is_amount : FT K "is_amount" "is_amount" s_is_amount A.is_amount ["thing"]
  f_is_name : FT K "is_name" "is_name" s_is_name A.is_name ["thing"]
  f_are_names : FT K "are_names" "are_names" s_are_names A.are_names ["thing"]
  f_Rule___init__ : FT K "__init__" "Rule.__init__" s_Rule___init__ A.Rule___init__ ["self", "world", "start"]
  f_Bags___init__ : FT K "__init__" "Bags.__init__" s_Bags___init__ A.Bags___init__ ["self", "room"]
  f_Bags_is_wish : FT K "is_wish" "Bags.is_wish" s_Bags_is_wish A.Bags_is_wish ["self", "thing"]
  f_Filler___init__ : FT K "__init__" "Filler.__init__" s_Filler___init__ A.Filler___init__ ["self", "room"]
  f_Hire___init__ : FT K "__init__" "Hire.__init__" s_Hire___init__ A.Hire___init__ ["self", "whole"]
  f_Hire_is_wish : FT K "is_wish" "Hire.is_wish" s_Hire_is_wish A.Hire_is_wish ["self", "thing"]
  f_Buyer___init__ : FT K "__init__" "Buyer.__init__" s_Buyer___init__ A.Buyer___init__ ["self", "whole"]
  f_is_place : FT K "is_place" "is_place" s_is_place A.is_place ["thing"]
  f_are_places : FT K "are_places" "are_places" s_are_places A.are_places ["thing", "many"]
  f_line_of : FT K "line_of" "line_of" s_line_of A.line_of ["start"]
  f_Line___init__ : FT K "__init__" "Line.__init__" s_Line___init__ A.Line___init__ ["self", "many"]
  f_Line_is_wish : FT K "is_wish" "Line.is_wish" s_Line_is_wish A.Line_is_wish ["self", "thing"]
  f_Both___init__ : FT K "__init__" "Both.__init__" s_Both___init__ A.Both___init__ ["self", "start"]
  f_Shelf___init__ : FT K "__init__" "Shelf.__init__" s_Shelf___init__ A.Shelf___init__ ["self", "things"]
  f_Shelf_is_wish : FT K "is_wish" "Shelf.is_wish" s_Shelf_is_wish A.Shelf_is_wish ["self", "thing"]
  f_Front___init__ : FT K "__init__" "Front.__init__" s_Front___init__ A.Front___init__ ["self", "start"]
  f_Store___init__ : FT K "__init__" "Store.__init__" s_Store___init__ A.Store___init__ ["self", "many"]
  f_Store_is_wish : FT K "is_wish" "Store.is_wish" s_Store_is_wish A.Store_is_wish ["self", "thing"]
  f_Keeper___init__ : FT K "__init__" "Keeper.__init__" s_Keeper___init__ A.Keeper___init__ ["self", "pages"]
  f_Ways___init__ : FT K "__init__" "Ways.__init__" s_Ways___init__ A.Ways___init__ ["self", "many", "toll"]
  f_Ways_is_wish : FT K "is_wish" "Ways.is_wish" s_Ways_is_wish A.Ways_is_wish ["self", "thing"]
  f_Changer___init__ : FTd K "__init__" "Changer.__init__" s_Changer___init__ A.Changer___init__ ["self", "many", "toll", "start"] [.int 0]
  f_sum_read : FT K "sum_read" "sum_read" s_sum_read A.sum_read ["word"]
  f_number_read : FT K "number_read" "number_read" s_number_read A.number_read ["word"]
  f_rule_of : FT K "rule_of" "rule_of" s_rule_of A.rule_of ["word", "start"]
  f_world_start : FT K "world_start" "world_start" s_world_start A.world_start ["word", "start"]
  f_many_fit : FT K "many_fit" "many_fit" s_many_fit A.many_fit ["word", "many"]
  f_start_read : FT K "start_read" "start_read" s_start_read A.start_read ["words"]
  f_wish_read : FT K "wish_read" "wish_read" s_wish_read A.wish_read ["words", "word", "world"]
  f_read_game : FT K "read_game" "read_game" s_read_game A.read_game ["text"]
  f__law_cell : FT K "_law_cell" "_law_cell" s__law_cell A._law_cell ["_law_script", "_law_k"]
  f__law_mixed : FT K "_law_mixed" "_law_mixed" s__law_mixed A._law_mixed ["_law_cell_here", "_law_k"]
  f__law_whole : FT K "_law_whole" "_law_whole" s__law_whole A._law_whole ["_law_found"]
  f__law_same : FT K "_law_same" "_law_same" s__law_same A._law_same ["_law_found", "_law_due"]
  f__law_all_same : FT K "_law_all_same" "_law_all_same" s__law_all_same A._law_all_same ["_law_found", "_law_due"]
  f__law_amount : FT K "_law_amount" "_law_amount" s__law_amount A._law_amount ["_law_cell_here", "_law_k"]
  f__law_place : FT K "_law_place" "_law_place" s__law_place A._law_place ["_law_cell_here", "_law_k"]
  f__law_names : FT K "_law_names" "_law_names" s__law_names A._law_names ["_law_number", "_law_many"]
  f__law_start : FT K "_law_start" "_law_start" s__law_start A._law_start ["_law_script"]
  f__law_wish : FT K "_law_wish" "_law_wish" s__law_wish A._law_wish ["_law_word", "_law_start_here", "_law_cell_here", "_law_k"]
  f__law_words : FT K "_law_words" "_law_words" s__law_words A._law_words ["_law_thing"]
  f__law_lines : FT K "_law_lines" "_law_lines" s__law_lines A._law_lines ["_law_word", "_law_start_here", "_law_wishes"]
  f__law_text : FT K "_law_text" "_law_text" s__law_text A._law_text ["_law_script", "_law_lines_here"]
  f_law : FT K "law" "law" s_law A.law ["_law_script"]
  k_Bags : CK K mg (caOf K) .bags "Bags" A.Bags___init__
  k_Hire : CK K mg (caOf K) .hire "Hire" A.Hire___init__
  k_Line : CK K mg (caOf K) .line "Line" A.Line___init__
  k_Shelf : CK K mg (caOf K) .shelf "Shelf" A.Shelf___init__
  k_Store : CK K mg (caOf K) .store "Store" A.Store___init__
  k_Ways : CK K mg (caOf K) .ways "Ways" A.Ways___init__
  k_Filler : CK K mg (caOf K) .filler "Filler" A.Filler___init__
  k_Both : CK K mg (caOf K) .both "Both" A.Both___init__
  k_Front : CK K mg (caOf K) .front "Front" A.Front___init__
  k_Buyer : CK K mg (caOf K) .buyer "Buyer" A.Buyer___init__
  k_Changer : CK K mg (caOf K) .changer "Changer" A.Changer___init__
  k_Keeper : CK K mg (caOf K) .keeper "Keeper" A.Keeper___init__
  c_Bags : Cls K (caOf K .bags)
  c_Hire : Cls K (caOf K .hire)
  c_Line : Cls K (caOf K .line)
  c_Shelf : Cls K (caOf K .shelf)
  c_Store : Cls K (caOf K .store)
  c_Ways : Cls K (caOf K .ways)
  c_Filler : Cls K (caOf K .filler)
  c_Both : Cls K (caOf K .both)
  c_Front : Cls K (caOf K .front)
  c_Buyer : Cls K (caOf K .buyer)
  c_Changer : Cls K (caOf K .changer)
  c_Keeper : Cls K (caOf K .keeper)
  n_Bags_room : NoAttr K (caOf K .bags) "room"
  n_Hire_whole : NoAttr K (caOf K .hire) "whole"
  n_Line_many : NoAttr K (caOf K .line) "many"
  n_Shelf_things : NoAttr K (caOf K .shelf) "things"
  n_Store_many : NoAttr K (caOf K .store) "many"
  n_Ways_many : NoAttr K (caOf K .ways) "many"
  n_Ways_toll : NoAttr K (caOf K .ways) "toll"
  n_Filler_world : NoAttr K (caOf K .filler) "world"
  n_Filler_now : NoAttr K (caOf K .filler) "now"
  n_Filler_total : NoAttr K (caOf K .filler) "total"
  n_Filler_room : NoAttr K (caOf K .filler) "room"
  n_Filler_opened : NoAttr K (caOf K .filler) "opened"
  n_Both_world : NoAttr K (caOf K .both) "world"
  n_Both_now : NoAttr K (caOf K .both) "now"
  n_Both_total : NoAttr K (caOf K .both) "total"
  n_Front_world : NoAttr K (caOf K .front) "world"
  n_Front_now : NoAttr K (caOf K .front) "now"
  n_Front_total : NoAttr K (caOf K .front) "total"
  n_Buyer_world : NoAttr K (caOf K .buyer) "world"
  n_Buyer_now : NoAttr K (caOf K .buyer) "now"
  n_Buyer_total : NoAttr K (caOf K .buyer) "total"
  n_Buyer_whole : NoAttr K (caOf K .buyer) "whole"
  n_Buyer_hired : NoAttr K (caOf K .buyer) "hired"
  n_Changer_world : NoAttr K (caOf K .changer) "world"
  n_Changer_now : NoAttr K (caOf K .changer) "now"
  n_Changer_total : NoAttr K (caOf K .changer) "total"
  n_Changer_toll : NoAttr K (caOf K .changer) "toll"
  n_Changer_known : NoAttr K (caOf K .changer) "known"
  n_Keeper_world : NoAttr K (caOf K .keeper) "world"
  n_Keeper_now : NoAttr K (caOf K .keeper) "now"
  n_Keeper_total : NoAttr K (caOf K .keeper) "total"
  n_Keeper_kept : NoAttr K (caOf K .keeper) "kept"
  xa : XA K mg (caOf K) A.LateError___init__ exs
  d_Bound___init__ : CMd K mg (caOf K) .bound "__init__" A.Rule___init__
  m_Bags_is_wish : Meth K (caOf K .bags) "is_wish" A.Bags_is_wish
  m_Hire_is_wish : Meth K (caOf K .hire) "is_wish" A.Hire_is_wish
  m_Line_is_wish : Meth K (caOf K .line) "is_wish" A.Line_is_wish
  m_Shelf_is_wish : Meth K (caOf K .shelf) "is_wish" A.Shelf_is_wish
  m_Store_is_wish : Meth K (caOf K .store) "is_wish" A.Store_is_wish
  m_Ways_is_wish : Meth K (caOf K .ways) "is_wish" A.Ways_is_wish
section
variable {P : Program} {w : World} {K : PySem.W.Frag} {mg : Str → Option Value} {base : Heap} {A : Ad}
def has : Cl → Fl → Bool
  | .bags, .room => true
  | .hire, .whole => true
  | .line, .many => true
  | .shelf, .things => true
  | .store, .many => true
  | .ways, .many => true
  | .ways, .toll => true
  | .filler, .world => true
  | .filler, .now => true
  | .filler, .total => true
  | .filler, .room => true
  | .filler, .opened => true
  | .both, .world => true
  | .both, .now => true
  | .both, .total => true
  | .front, .world => true
  | .front, .now => true
  | .front, .total => true
  | .buyer, .world => true
  | .buyer, .now => true
  | .buyer, .total => true
  | .buyer, .whole => true
  | .buyer, .hired => true
  | .changer, .world => true
  | .changer, .now => true
  | .changer, .total => true
  | .changer, .toll => true
  | .changer, .known => true
  | .keeper, .world => true
  | .keeper, .now => true
  | .keeper, .total => true
  | .keeper, .kept => true
  | _, _ => false
theorem hasOk (T : Tx K mg A) : HasOk K (caOf K) has := ⟨fun c f h => by
  unfold has at h
  split at h
  · exact ⟨T.c_Bags, T.n_Bags_room⟩
  · exact ⟨T.c_Hire, T.n_Hire_whole⟩
  · exact ⟨T.c_Line, T.n_Line_many⟩
  · exact ⟨T.c_Shelf, T.n_Shelf_things⟩
  · exact ⟨T.c_Store, T.n_Store_many⟩
  · exact ⟨T.c_Ways, T.n_Ways_many⟩
  · exact ⟨T.c_Ways, T.n_Ways_toll⟩
  · exact ⟨T.c_Filler, T.n_Filler_world⟩
  · exact ⟨T.c_Filler, T.n_Filler_now⟩
  · exact ⟨T.c_Filler, T.n_Filler_total⟩
  · exact ⟨T.c_Filler, T.n_Filler_room⟩
  · exact ⟨T.c_Filler, T.n_Filler_opened⟩
  · exact ⟨T.c_Both, T.n_Both_world⟩
  · exact ⟨T.c_Both, T.n_Both_now⟩
  · exact ⟨T.c_Both, T.n_Both_total⟩
  · exact ⟨T.c_Front, T.n_Front_world⟩
  · exact ⟨T.c_Front, T.n_Front_now⟩
  · exact ⟨T.c_Front, T.n_Front_total⟩
  · exact ⟨T.c_Buyer, T.n_Buyer_world⟩
  · exact ⟨T.c_Buyer, T.n_Buyer_now⟩
  · exact ⟨T.c_Buyer, T.n_Buyer_total⟩
  · exact ⟨T.c_Buyer, T.n_Buyer_whole⟩
  · exact ⟨T.c_Buyer, T.n_Buyer_hired⟩
  · exact ⟨T.c_Changer, T.n_Changer_world⟩
  · exact ⟨T.c_Changer, T.n_Changer_now⟩
  · exact ⟨T.c_Changer, T.n_Changer_total⟩
  · exact ⟨T.c_Changer, T.n_Changer_toll⟩
  · exact ⟨T.c_Changer, T.n_Changer_known⟩
  · exact ⟨T.c_Keeper, T.n_Keeper_world⟩
  · exact ⟨T.c_Keeper, T.n_Keeper_now⟩
  · exact ⟨T.c_Keeper, T.n_Keeper_total⟩
  · exact ⟨T.c_Keeper, T.n_Keeper_kept⟩
  · cases h⟩
end
noncomputable def m_is_between : I := (iSeq (iIfS (iOr (iIsT .bool (iVar 0)) (iNot (iIsT .int (iVar 0)))) (iRet (iC (.bl false))) iNext)
    (iRet (iChain gLe gLe (iVar 1) (iVar 0) (iVar 2))))
noncomputable def F_is_between : Fn := mkFn 3 0 m_is_between
noncomputable def m_is_amount : I := (iRet (iCall F_is_between [(iVar 0), (iC (.int 0)), (iC (.int 1000000000000000000))]))
noncomputable def F_is_amount : Fn := mkFn 1 0 m_is_amount
noncomputable def b_is_name_1 : I := (iIfS (op2 gNiS (iVar 1) (iC (.str "abcdefghijklmnopqrstuvwxyz"))) (iRet (iC (.bl false))) iNext)
noncomputable def m_is_name : I := (iSeq (iIfS (iOr (iNot (iIsT .str (iVar 0))) (iNot (iChain gLe gLe (iC (.int 1)) (iB gLen [(iVar 0)]) (iC (.int 8))))) (iRet (iC (.bl false))) iNext)
    (iSeq (iFor (qE (iVar 0)) (tgN 1) b_is_name_1)
    (iRet (iC (.bl true)))))
noncomputable def F_is_name : Fn := mkFn 1 1 m_is_name
noncomputable def b_are_names_1 : I := (iIfS (iNot (iCall F_is_name [(iVar 1)])) (iRet (iC (.bl false))) iNext)
noncomputable def m_are_names : I := (iSeq (iIfS (iOr (iNot (iIsT .tuple (iVar 0))) (iNot (iChain gLe gLe (iC (.int 1)) (iB gLen [(iVar 0)]) (iC (.int 8))))) (iRet (iC (.bl false))) iNext)
    (iSeq (iFor (qE (iVar 0)) (tgN 1) b_are_names_1)
    (iRet (op2 gEq (iB gUnl [(iVar 0)]) (iB gLen [(iVar 0)])))))
noncomputable def F_are_names : Fn := mkFn 1 1 m_are_names
noncomputable def m_Rule___init__ : I := (iSeq (iSetF has .world (iVar 0) (iVar 1))
    (iSeq (iSetF has .now (iVar 0) (iVar 2))
    (iSetF has .total (iVar 0) (iC (.int 0)))))
noncomputable def F_Rule___init__ : Fn := mkFn 3 0 m_Rule___init__
noncomputable def m_Bags___init__ : I := (iSetF has .room (iVar 0) (iVar 1))
noncomputable def F_Bags___init__ : Fn := mkFn 2 0 m_Bags___init__
noncomputable def m_Bags_is_wish : I := (iRet (iCall F_is_between [(iVar 1), (iC (.int 1)), (iFld has .room (iVar 0))]))
noncomputable def F_Bags_is_wish : Fn := mkFn 2 0 m_Bags_is_wish
noncomputable def m_Filler___init__ : I := (iSeq (iIfS (iNot (iCall F_is_between [(iVar 1), (iC (.int 1)), (iC (.int 1000000000000000000))])) (iRaise .noState (iC .non)) iNext)
    (iSeq (iDrop (iCall F_Rule___init__ [(iVar 0), (iNew .bags F_Bags___init__ [(iVar 1)]), (iTup [])]))
    (iSeq (iSetF has .room (iVar 0) (iVar 1))
    (iSetF has .opened (iVar 0) (iHeap (iLst []))))))
noncomputable def F_Filler___init__ : Fn := mkFn 2 0 m_Filler___init__
noncomputable def m_Hire___init__ : I := (iSetF has .whole (iVar 0) (iVar 1))
noncomputable def F_Hire___init__ : Fn := mkFn 2 0 m_Hire___init__
noncomputable def m_Hire_is_wish : I := (iRet (iCall F_is_amount [(iVar 1)]))
noncomputable def F_Hire_is_wish : Fn := mkFn 2 0 m_Hire_is_wish
noncomputable def m_Buyer___init__ : I := (iSeq (iIfS (iNot (iCall F_is_between [(iVar 1), (iC (.int 1)), (iC (.int 1000000000000000000))])) (iRaise .noState (iC .non)) iNext)
    (iSeq (iDrop (iCall F_Rule___init__ [(iVar 0), (iNew .hire F_Hire___init__ [(iVar 1)]), (iC (.int 0))]))
    (iSeq (iSetF has .whole (iVar 0) (iVar 1))
    (iSetF has .hired (iVar 0) (iC (.int 0))))))
noncomputable def F_Buyer___init__ : Fn := mkFn 2 0 m_Buyer___init__
noncomputable def m_is_place : I := (iRet (iCall F_is_between [(iVar 0), (op2 gSub (iC (.int 0)) (iC (.int 1000000000000000000))), (iC (.int 1000000000000000000))]))
noncomputable def F_is_place : Fn := mkFn 1 0 m_is_place
noncomputable def b_are_places_1 : I := (iIfS (iNot (iCall F_is_place [(iVar 2)])) (iRet (iC (.bl false))) iNext)
noncomputable def m_are_places : I := (iSeq (iIfS (iOr (iNot (iIsT .tuple (iVar 0))) (op2 gNe (iB gLen [(iVar 0)]) (iVar 1))) (iRet (iC (.bl false))) iNext)
    (iSeq (iFor (qE (iVar 0)) (tgN 2) b_are_places_1)
    (iRet (op2 gEq (iB gList [(iVar 0)]) (iB gSorted [(iVar 0)])))))
noncomputable def F_are_places : Fn := mkFn 2 1 m_are_places
noncomputable def m_Line___init__ : I := (iSetF has .many (iVar 0) (iVar 1))
noncomputable def F_Line___init__ : Fn := mkFn 2 0 m_Line___init__
noncomputable def b_line_of_1 : I := (iIfS (iCall F_are_places [(iVar 0), (iVar 1)]) (iRet (iNew .line F_Line___init__ [(iVar 1)])) iNext)
noncomputable def m_line_of : I := (iSeq (iFor (qR2 (iC (.int 1)) (iC (.int 7))) (tgN 1) b_line_of_1)
    (iRaise .noState (iC .non)))
noncomputable def F_line_of : Fn := mkFn 1 1 m_line_of
noncomputable def m_Line_is_wish : I := (iRet (iCall F_is_place [(iVar 1)]))
noncomputable def F_Line_is_wish : Fn := mkFn 2 0 m_Line_is_wish
noncomputable def m_Both___init__ : I := (iDrop (iCall F_Rule___init__ [(iVar 0), (iCall F_line_of [(iVar 1)]), (iVar 1)]))
noncomputable def F_Both___init__ : Fn := mkFn 2 0 m_Both___init__
noncomputable def m_Shelf___init__ : I := (iSetF has .things (iVar 0) (iB gTuple [(iVar 1)]))
noncomputable def F_Shelf___init__ : Fn := mkFn 2 0 m_Shelf___init__
noncomputable def m_Shelf_is_wish : I := (iRet (iAnd (iIsT .str (iVar 1)) (op2 gIn (iVar 1) (iFld has .things (iVar 0)))))
noncomputable def F_Shelf_is_wish : Fn := mkFn 2 0 m_Shelf_is_wish
noncomputable def m_Front___init__ : I := (iSeq (iIfS (iNot (iCall F_are_names [(iVar 1)])) (iRaise .noState (iC .non)) iNext)
    (iDrop (iCall F_Rule___init__ [(iVar 0), (iNew .shelf F_Shelf___init__ [(iVar 1)]), (iVar 1)])))
noncomputable def F_Front___init__ : Fn := mkFn 2 0 m_Front___init__
noncomputable def m_Store___init__ : I := (iSetF has .many (iVar 0) (iVar 1))
noncomputable def F_Store___init__ : Fn := mkFn 2 0 m_Store___init__
noncomputable def m_Store_is_wish : I := (iRet (iCall F_is_name [(iVar 1)]))
noncomputable def F_Store_is_wish : Fn := mkFn 2 0 m_Store_is_wish
noncomputable def m_Keeper___init__ : I := (iSeq (iIfS (iNot (iCall F_are_names [(iVar 1)])) (iRaise .noState (iC .non)) iNext)
    (iSeq (iDrop (iCall F_Rule___init__ [(iVar 0), (iNew .store F_Store___init__ [(iB gLen [(iVar 1)])]), (iB gTuple [(iB gSorted [(iVar 1)])])]))
    (iSetF has .kept (iVar 0) (iHeap (iB gList [(iVar 1)])))))
noncomputable def F_Keeper___init__ : Fn := mkFn 2 0 m_Keeper___init__
noncomputable def m_Ways___init__ : I := (iSeq (iSetF has .many (iVar 0) (iVar 1))
    (iSetF has .toll (iVar 0) (iVar 2)))
noncomputable def F_Ways___init__ : Fn := mkFn 3 0 m_Ways___init__
noncomputable def c_Ways_is_wish_1 : E := (iLc (qE (iVar 1)) (tgN 2) (iC (.bl true)) (iCall F_is_amount [(iVar 2)]) [2])
noncomputable def m_Ways_is_wish : I := (iSeq (iIfS (iOr (iNot (iIsT .tuple (iVar 1))) (op2 gNe (iB gLen [(iVar 1)]) (iFld has .many (iVar 0)))) (iRet (iC (.bl false))) iNext)
    (iRet (iB gAll [c_Ways_is_wish_1])))
noncomputable def F_Ways_is_wish : Fn := mkFn 2 1 m_Ways_is_wish
noncomputable def c_Changer___init___1 : E := (iLc (qR1 (iVar 1)) (tgN 4) (iC (.bl true)) (iVar 2) [4])
noncomputable def m_Changer___init__ : I := (iSeq (iIfS (iOr (iNot (iCall F_is_between [(iVar 1), (iC (.int 1)), (iC (.int 8))])) (iNot (iCall F_is_amount [(iVar 2)]))) (iRaise .noState (iC .non)) iNext)
    (iSeq (iIfS (iNot (iCall F_is_between [(iVar 3), (iC (.int 0)), (op2 gSub (iVar 1) (iC (.int 1)))])) (iRaise .noState (iC .non)) iNext)
    (iSeq (iDrop (iCall F_Rule___init__ [(iVar 0), (iNew .ways F_Ways___init__ [(iVar 1), (iVar 2)]), (iVar 3)]))
    (iSeq (iSetF has .toll (iVar 0) (iVar 2))
    (iSeq (iSetF has .known (iVar 0) (iHeap c_Changer___init___1))
    (iSetIx (iFld has .known (iVar 0)) (iVar 3) (iC (.int 0))))))))
noncomputable def F_Changer___init__ : Fn := mkFn 4 1 m_Changer___init__
noncomputable def b_sum_read_1 : I := (iIfS (op2 gNiS (iVar 1) (iC (.str "0123456789"))) (iRet (iC .non)) iNext)
noncomputable def m_sum_read : I := (iSeq (iIfS (iOr (op2 gEq (iVar 0) (iC (.str ""))) (iOr (op2 gGt (iB gLen [(iVar 0)]) (iC (.int 19))) (iAnd (op2 gEq (op2 gIx (iVar 0) (iC (.int 0))) (iC (.str "0"))) (op2 gGt (iB gLen [(iVar 0)]) (iC (.int 1)))))) (iRet (iC .non)) iNext)
    (iSeq (iFor (qE (iVar 0)) (tgN 1) b_sum_read_1)
    (iRet (iB gIntS [(iVar 0)]))))
noncomputable def F_sum_read : Fn := mkFn 1 1 m_sum_read
noncomputable def m_number_read : I := (iSeq (iIfS (iNot (op2k isStr gSw (iVar 0) (iC (.str "-")))) (iRet (iCall F_sum_read [(iVar 0)])) iNext)
    (iSeq (iSet 1 (iCall F_sum_read [(iSlS (iVar 0) (pSome (iC (.int 1))) pNo)]))
    (iSeq (iIfS (iOr (op2 gIs (iVar 1) (iC .non)) (op2 gEq (iVar 1) (iC (.int 0)))) (iRet (iC .non)) iNext)
    (iRet (op2 gSub (iC (.int 0)) (iVar 1))))))
noncomputable def F_number_read : Fn := mkFn 1 1 m_number_read
noncomputable def m_rule_of : I := (iSeq (iIfS (op2 gEq (iVar 0) (iC (.str "line"))) (iRet (iNew .both F_Both___init__ [(iVar 1)])) iNext)
    (iSeq (iIfS (op2 gEq (iVar 0) (iC (.str "shelf"))) (iRet (iNew .front F_Front___init__ [(iVar 1)])) iNext)
    (iSeq (iIfS (op2 gEq (iVar 0) (iC (.str "hire"))) (iRet (iNew .buyer F_Buyer___init__ [(op2 gIx (iVar 1) (iC (.int 0)))])) iNext)
    (iSeq (iIfS (op2 gEq (iVar 0) (iC (.str "ways"))) (iRet (iNew .changer F_Changer___init__ [(op2 gIx (iVar 1) (iC (.int 0))), (op2 gIx (iVar 1) (iC (.int 1))), (op2 gIx (iVar 1) (iC (.int 2)))])) iNext)
    (iSeq (iIfS (op2 gEq (iVar 0) (iC (.str "store"))) (iRet (iNew .keeper F_Keeper___init__ [(iVar 1)])) iNext)
    (iRet (iNew .filler F_Filler___init__ [(op2 gIx (iVar 1) (iC (.int 0)))])))))))
noncomputable def F_rule_of : Fn := mkFn 2 0 m_rule_of
noncomputable def m_world_start : I := (iSeq (iIfS (op2 gEq (iVar 0) (iC (.str "line"))) (iRet (iTup [(iNew .line F_Line___init__ [(iB gLen [(iVar 1)])]), (iVar 1)])) iNext)
    (iSeq (iIfS (op2 gEq (iVar 0) (iC (.str "shelf"))) (iRet (iTup [(iNew .shelf F_Shelf___init__ [(iVar 1)]), (iVar 1)])) iNext)
    (iSeq (iIfS (op2 gEq (iVar 0) (iC (.str "hire"))) (iRet (iTup [(iNew .hire F_Hire___init__ [(op2 gIx (iVar 1) (iC (.int 0)))]), (iC (.int 0))])) iNext)
    (iSeq (iIfS (op2 gEq (iVar 0) (iC (.str "ways"))) (iRet (iTup [(iNew .ways F_Ways___init__ [(op2 gIx (iVar 1) (iC (.int 0))), (op2 gIx (iVar 1) (iC (.int 1)))]), (op2 gIx (iVar 1) (iC (.int 2)))])) iNext)
    (iSeq (iIfS (op2 gEq (iVar 0) (iC (.str "store"))) (iRet (iTup [(iNew .store F_Store___init__ [(iB gLen [(iVar 1)])]), (iB gTuple [(iB gSorted [(iVar 1)])])])) iNext)
    (iRet (iTup [(iNew .bags F_Bags___init__ [(op2 gIx (iVar 1) (iC (.int 0)))]), (iTup [])])))))))
noncomputable def F_world_start : Fn := mkFn 2 0 m_world_start
noncomputable def m_many_fit : I := (iSeq (iIfS (op2 gEq (iVar 0) (iC (.str "line"))) (iRet (iC (.bl true))) iNext)
    (iSeq (iIfS (op2 gEq (iVar 0) (iC (.str "ways"))) (iRet (op2 gEq (iVar 1) (iC (.int 3)))) iNext)
    (iRet (iAnd (iOr (op2 gEq (iVar 0) (iC (.str "hire"))) (op2 gEq (iVar 0) (iC (.str "bags")))) (op2 gEq (iVar 1) (iC (.int 1)))))))
noncomputable def F_many_fit : Fn := mkFn 2 0 m_many_fit
noncomputable def c_start_read_1 : E := (iLc (qE (iSl (iVar 0) (pSome (iC (.int 1))) pNo)) (tgN 4) (iC (.bl true)) (iCall F_number_read [(iVar 4)]) [4])
noncomputable def m_start_read : I := (iSeq (iSet 1 (op2 gIx (iVar 0) (iC (.int 0))))
    (iSeq (iIfS (iOr (op2 gEq (iVar 1) (iC (.str "shelf"))) (op2 gEq (iVar 1) (iC (.str "store")))) (iSeq (iSet 2 (iB gTuple [(iSl (iVar 0) (pSome (iC (.int 1))) pNo)]))
    (iSeq (iIfS (iCall F_are_names [(iVar 2)]) (iRet (iTup [(iVar 1), (iVar 2)])) iNext)
    (iRet (iC .non)))) iNext)
    (iSeq (iSet 3 (iB gTuple [c_start_read_1]))
    (iSeq (iIfS (iOr (op2 gIn (iC .non) (iVar 3)) (iNot (iCall F_many_fit [(iVar 1), (iB gLen [(iVar 3)])]))) (iRet (iC .non)) iNext)
    (iTryE exs .noState (iDrop (iCall F_rule_of [(iVar 1), (iVar 3)])) (iRet (iC .non)) (iRet (iTup [(iVar 1), (iVar 3)])))))))
noncomputable def F_start_read : Fn := mkFn 1 4 m_start_read
noncomputable def c_wish_read_1 : E := (iLc (qE (iSl (iVar 0) (pSome (iC (.int 1))) pNo)) (tgN 4) (iC (.bl true)) (iCall F_number_read [(iVar 4)]) [4])
noncomputable def m_wish_read : I := (iSeq (iIfS (iOr (op2 gNe (op2 gIx (iVar 0) (iC (.int 0))) (iC (.str "ask"))) (iOr (op2 gLt (iB gLen [(iVar 0)]) (iC (.int 2))) (iAnd (op2 gGt (iB gLen [(iVar 0)]) (iC (.int 2))) (op2 gNe (iVar 1) (iC (.str "ways")))))) (iRet (iC .non)) iNext)
    (iSeq (iSet 3 (op2 gIx (iVar 0) (iC (.int 1))))
    (iSeq (iIfS (op2 gEq (iVar 1) (iC (.str "ways"))) (iSet 3 (iB gTuple [c_wish_read_1])) (iIfS (iAnd (op2 gNe (iVar 1) (iC (.str "shelf"))) (op2 gNe (iVar 1) (iC (.str "store")))) (iSet 3 (iCall F_number_read [(iVar 3)])) iNext))
    (iSeq (iIfS (iNot (iMeth [(.bags, F_Bags_is_wish), (.hire, F_Hire_is_wish), (.line, F_Line_is_wish), (.shelf, F_Shelf_is_wish), (.store, F_Store_is_wish), (.ways, F_Ways_is_wish)] (iVar 2) [(iVar 3)])) (iRet (iC .non)) iNext)
    (iRet (iVar 3))))))
noncomputable def F_wish_read : Fn := mkFn 3 2 m_wish_read
noncomputable def b_read_game_1 : I := (iSeq (iIfS (op2 gEq (iVar 5) (iC (.str ""))) (fun s => .cnt s) iNext)
    (iSeq (iIfS (op2 gIs (iVar 1) (iC .non)) (iSeq (iSet 1 (iCall F_start_read [(op2k isStr gSplit (iVar 5) (iC (.str " ")))]))
    (iSeq (iIfS (op2 gIs (iVar 1) (iC .non)) (iRaise .noText (iVar 4)) iNext)
    (iSeq (iSet 2 (op2 gIx (iCall F_world_start [(op2 gIx (iVar 1) (iC (.int 0))), (op2 gIx (iVar 1) (iC (.int 1)))]) (iC (.int 0))))
    (fun s => .cnt s)))) iNext)
    (iSeq (iSet 6 (iCall F_wish_read [(op2k isStr gSplit (iVar 5) (iC (.str " "))), (op2 gIx (iVar 1) (iC (.int 0))), (iVar 2)]))
    (iSeq (iIfS (iOr (op2 gIs (iVar 6) (iC .non)) (op2 gEq (iB gLen [(iVar 3)]) (iC (.int 200)))) (iRaise .noText (iVar 4)) iNext)
    (iDrop (iMut gApp (iVar 3) [(iVar 6)]))))))
noncomputable def m_read_game : I := (iSeq (iIfS (iNot (iIsT .str (iVar 0))) (iRaise .noText (iC (.int 0))) iNext)
    (iSeq (iSet 1 (iC .non))
    (iSeq (iSet 2 (iC .non))
    (iSeq (iSet 3 (iHeap (iLst [])))
    (iSeq (iFor (qEnum (op2k isStr gSplit (iVar 0) (iC (.str "\n")))) (tgT [(tgN 4), (tgN 5)]) b_read_game_1)
    (iSeq (iIfS (op2 gIs (iVar 1) (iC .non)) (iRaise .noText (iC (.int 0))) iNext)
    (iRet (iTup [(op2 gIx (iVar 1) (iC (.int 0))), (op2 gIx (iVar 1) (iC (.int 1))), (iVar 3)]))))))))
noncomputable def F_read_game : Fn := mkFn 1 6 m_read_game
noncomputable def m__law_cell : I := (iSeq (iIfS (op2 gLt (iVar 1) (iB gLen [(iVar 0)])) (iRet (op2 gIx (iVar 0) (iVar 1))) iNext)
    (iRet (iC (.int 0))))
noncomputable def F__law_cell : Fn := mkFn 2 0 m__law_cell
noncomputable def m__law_mixed : I := (iSeq (iSet 2 (op2 gMod (op2 gAdd (op2 gAdd (op2 gMul (op2 gMod (iVar 0) (iC (.int 2147483647))) (iC (.int 48271))) (op2 gMul (op2 gMul (iC (.int 7919)) (iVar 1)) (iVar 1))) (iC (.int 104729))) (iC (.int 2147483647))))
    (iRet (op2 gMod (op2 gMul (iVar 2) (iVar 2)) (iC (.int 2147483629)))))
noncomputable def F__law_mixed : Fn := mkFn 2 1 m__law_mixed
noncomputable def m__law_whole : I := (iRet (iAnd (iIsT .int (iVar 0)) (iNot (iIsT .bool (iVar 0)))))
noncomputable def F__law_whole : Fn := mkFn 1 0 m__law_whole
noncomputable def b__law_all_same_1 (F : Fn) : I := (iIfS (iNot (iCall F [(iVar 2), (iVar 3)])) (iRet (iC (.bl false))) iNext)
noncomputable def m__law_all_same (F : Fn) : I := (iSeq (iFor (qZipH (iVar 0) (iVar 1)) (tgT [(tgN 2), (tgN 3)]) (b__law_all_same_1 F))
    (iRet (iC (.bl true))))
noncomputable def G__law_all_same (F : Fn) : Fn := mkFn 2 2 (m__law_all_same F)
noncomputable def m__law_same (F : Fn) : I := (iSeq (iIfS (iIsT .tuple (iVar 1)) (iRet (iAnd (iIsT .tuple (iVar 0)) (iAnd (op2 gEq (iB gLen [(iVar 0)]) (iB gLen [(iVar 1)])) (iCall (G__law_all_same F) [(iB gList [(iVar 0)]), (iB gList [(iVar 1)])])))) iNext)
    (iSeq (iIfS (iIsT .list (iVar 1)) (iRet (iAnd (iIsT .list (iVar 0)) (iAnd (op2 gEq (iB gLen [(iVar 0)]) (iB gLen [(iVar 1)])) (iCall (G__law_all_same F) [(iVar 0), (iVar 1)])))) iNext)
    (iSeq (iIfS (iIsT .str (iVar 1)) (iRet (iAnd (iIsT .str (iVar 0)) (op2 gEq (iVar 0) (iVar 1)))) iNext)
    (iRet (iAnd (iCall F__law_whole [(iVar 0)]) (op2 gEq (iVar 0) (iVar 1)))))))
noncomputable def F__law_same : Nat → Fn
  | 0 => fun _ _ => .stuck
  | n + 1 => mkFn 2 0 (m__law_same (F__law_same n))
noncomputable def F__law_all_same (n : Nat) : Fn := G__law_all_same (F__law_same n)
noncomputable def m__law_amount : I := (iSeq (iSet 2 (iCall F__law_mixed [(iVar 0), (iVar 1)]))
    (iSeq (iIfS (op2 gLt (op2 gMod (iVar 2) (iC (.int 4))) (iC (.int 2))) (iRet (op2 gMod (op2 gDiv (iVar 2) (iC (.int 4))) (iC (.int 30)))) iNext)
    (iSeq (iIfS (op2 gEq (op2 gMod (iVar 2) (iC (.int 4))) (iC (.int 2))) (iRet (op2 gIx (iLst [(op2 gPow (iC (.int 10)) (iC (.int 18))), (op2 gSub (op2 gPow (iC (.int 10)) (iC (.int 18))) (iC (.int 1))), (iC (.int 0)), (iC (.int 1))]) (op2 gMod (op2 gDiv (iVar 2) (iC (.int 4))) (iC (.int 4))))) iNext)
    (iRet (op2 gMod (op2 gMul (op2 gAdd (iVar 0) (iVar 2)) (op2 gPow (iC (.int 982451653)) (iC (.int 3)))) (op2 gAdd (op2 gPow (iC (.int 10)) (iC (.int 18))) (iC (.int 1))))))))
noncomputable def F__law_amount : Fn := mkFn 2 1 m__law_amount
noncomputable def m__law_place : I := (iRet (op2 gMul (iCall F__law_amount [(iVar 0), (iVar 1)]) (op2 gSub (iC (.int 1)) (op2 gMul (iC (.int 2)) (op2 gMod (op2 gDiv (iCall F__law_mixed [(iVar 0), (op2 gAdd (iVar 1) (iC (.int 7)))]) (iC (.int 8))) (iC (.int 2)))))))
noncomputable def F__law_place : Fn := mkFn 2 0 m__law_place
noncomputable def b__law_names_1 : I := (iSeq (iSet 6 (op2 gIx (iC (.str "abcdefghijklmnopqrstuvwxyz")) (op2 gMod (op2 gAdd (op2 gDiv (iVar 0) (iC (.int 256))) (op2 gMul (iC (.int 3)) (iVar 5))) (iC (.int 26)))))
    (iDrop (iMut gApp (iVar 4) [(op2 gAdd (op2 gAdd (iSlS (iVar 2) pNo (pSome (iVar 3))) (iVar 6)) (iSlS (iVar 2) (pSome (op2 gAdd (iVar 3) (iC (.int 1)))) pNo))])))
noncomputable def m__law_names : I := (iSeq (iSet 2 (iSlS (op2 gIx (iLst [(iC (.str "abcdefgh")), (iC (.str "stopstop")), (iC (.str "zyxwvuts")), (iC (.str "aaaaaaaa"))]) (op2 gMod (iVar 0) (iC (.int 4)))) pNo (pSome (op2 gAdd (iC (.int 1)) (op2 gMod (op2 gDiv (iVar 0) (iC (.int 4))) (iC (.int 8)))))))
    (iSeq (iSet 3 (op2 gMod (op2 gDiv (iVar 0) (iC (.int 32))) (iB gLen [(iVar 2)])))
    (iSeq (iOwn 4 (iLst []))
    (iSeq (iFor (qR1 (iVar 1)) (tgN 5) b__law_names_1)
    (iRet (iVar 4))))))
noncomputable def F__law_names : Fn := mkFn 2 5 m__law_names
noncomputable def c__law_start_1 : E := (iLc (qR1 (op2 gAdd (iC (.int 1)) (op2 gMod (iVar 2) (iC (.int 6))))) (tgN 4) (iC (.bl true)) (iCall F__law_place [(iVar 1), (op2 gAdd (iC (.int 20)) (iVar 4))]) [4])
noncomputable def m__law_start : I := (iSeq (iSet 1 (iCall F__law_cell [(iVar 0), (iC (.int 1))]))
    (iSeq (iSet 2 (iCall F__law_mixed [(iVar 1), (iC (.int 1))]))
    (iSeq (iSet 3 (op2 gIx (iLst [(iC (.str "line")), (iC (.str "shelf")), (iC (.str "hire")), (iC (.str "ways")), (iC (.str "store")), (iC (.str "bags"))]) (op2 gMod (iCall F__law_mixed [(iCall F__law_cell [(iVar 0), (iC (.int 0))]), (iC (.int 0))]) (iC (.int 6)))))
    (iSeq (iIfS (op2 gEq (iVar 3) (iC (.str "line"))) (iRet (iTup [(iVar 3), (iB gTuple [(iB gSorted [c__law_start_1])])])) iNext)
    (iSeq (iIfS (iOr (op2 gEq (iVar 3) (iC (.str "shelf"))) (op2 gEq (iVar 3) (iC (.str "store")))) (iRet (iTup [(iVar 3), (iB gTuple [(iCall F__law_names [(op2 gDiv (iVar 2) (iC (.int 8))), (op2 gAdd (iC (.int 1)) (op2 gMod (iVar 2) (iC (.int 8))))])])])) iNext)
    (iSeq (iIfS (op2 gEq (iVar 3) (iC (.str "ways"))) (iRet (iTup [(iVar 3), (iTup [(op2 gAdd (iC (.int 1)) (op2 gMod (iVar 2) (iC (.int 8)))), (iCall F__law_amount [(iVar 1), (iC (.int 3))]), (op2 gMod (op2 gDiv (iVar 2) (iC (.int 8))) (op2 gAdd (iC (.int 1)) (op2 gMod (iVar 2) (iC (.int 8)))))])])) iNext)
    (iRet (iTup [(iVar 3), (iTup [(iB gMax [(iC (.int 1)), (iCall F__law_amount [(iVar 1), (iC (.int 3))])])])]))))))))
noncomputable def F__law_start : Fn := mkFn 1 4 m__law_start
noncomputable def c__law_wish_1 : E := (iLc (qR1 (op2 gIx (iVar 1) (iC (.int 0)))) (tgN 5) (iC (.bl true)) (iCall F__law_amount [(iVar 2), (op2 gAdd (op2 gAdd (op2 gMul (iC (.int 9)) (iVar 3)) (iC (.int 90))) (iVar 5))]) [5])
noncomputable def m__law_wish : I := (iSeq (iSet 4 (iCall F__law_mixed [(iVar 2), (iVar 3)]))
    (iSeq (iIfS (op2 gEq (iVar 0) (iC (.str "line"))) (iRet (op2 gIx (iLst [(op2 gIx (iVar 1) (op2 gMod (op2 gDiv (iVar 4) (iC (.int 2))) (iB gLen [(iVar 1)]))), (iCall F__law_place [(iVar 2), (op2 gAdd (iVar 3) (iC (.int 90)))])]) (op2 gMod (iVar 4) (iC (.int 2))))) iNext)
    (iSeq (iIfS (op2 gEq (iVar 0) (iC (.str "shelf"))) (iRet (op2 gIx (iVar 1) (op2 gMod (iVar 4) (iB gLen [(iVar 1)])))) iNext)
    (iSeq (iIfS (op2 gEq (iVar 0) (iC (.str "store"))) (iRet (op2 gIx (op2 gAdd (iB gList [(iVar 1)]) (iCall F__law_names [(op2 gDiv (iVar 4) (iC (.int 16))), (iC (.int 8))])) (op2 gMod (iVar 4) (op2 gAdd (iB gLen [(iVar 1)]) (iC (.int 8)))))) iNext)
    (iSeq (iIfS (op2 gEq (iVar 0) (iC (.str "hire"))) (iRet (iCall F__law_amount [(iVar 2), (op2 gAdd (iVar 3) (iC (.int 90)))])) iNext)
    (iSeq (iIfS (op2 gEq (iVar 0) (iC (.str "ways"))) (iRet (iB gTuple [c__law_wish_1])) iNext)
    (iRet (op2 gAdd (iC (.int 1)) (op2 gMod (iCall F__law_amount [(iVar 2), (op2 gAdd (iVar 3) (iC (.int 90)))]) (op2 gIx (iVar 1) (iC (.int 0))))))))))))
noncomputable def F__law_wish : Fn := mkFn 4 2 m__law_wish
noncomputable def c__law_words_1 : E := (iLc (qE (iVar 0)) (tgN 1) (iC (.bl true)) (iB gStr [(iVar 1)]) [1])
noncomputable def m__law_words : I := (iSeq (iIfS (iIsT .tuple (iVar 0)) (iRet (op2k isStr gJoin (iC (.str " ")) c__law_words_1)) iNext)
    (iRet (iB gStr [(iVar 0)])))
noncomputable def F__law_words : Fn := mkFn 1 1 m__law_words
noncomputable def c__law_lines_1 : E := (iLc (qE (iVar 2)) (tgN 3) (iC (.bl true)) (op2 gAdd (iC (.str "ask ")) (iCall F__law_words [(iVar 3)])) [3])
noncomputable def m__law_lines : I := (iRet (op2 gAdd (iLst [(op2 gAdd (op2 gAdd (iVar 0) (iC (.str " "))) (iCall F__law_words [(iVar 1)]))]) c__law_lines_1))
noncomputable def F__law_lines : Fn := mkFn 3 1 m__law_lines
noncomputable def b__law_text_1 : I := (iSeq (iOwn 2 (op2 gAdd (iVar 2) (op2 gRepV (iLst [(iC (.str ""))]) (op2 gIx (iLst [(iC (.int 0)), (iC (.int 0)), (iC (.int 0)), (iC (.int 1)), (iC (.int 2))]) (op2 gMod (iCall F__law_mixed [(iCall F__law_cell [(iVar 0), (iC (.int 0))]), (op2 gAdd (iC (.int 300)) (iVar 3))]) (iC (.int 5)))))))
    (iDrop (iMut gApp (iVar 2) [(op2 gIx (iVar 1) (iVar 3))])))
noncomputable def m__law_text : I := (iSeq (iOwn 2 (iLst []))
    (iSeq (iFor (qR1 (iB gLen [(iVar 1)])) (tgN 3) b__law_text_1)
    (iRet (op2k isStr gJoin (iC (.str "\n")) (op2 gAdd (iVar 2) (op2 gRepV (iLst [(iC (.str ""))]) (op2 gMod (iCall F__law_mixed [(iCall F__law_cell [(iVar 0), (iC (.int 0))]), (iC (.int 299))]) (iC (.int 3)))))))))
noncomputable def F__law_text : Fn := mkFn 2 2 m__law_text
noncomputable def c_law_1 : E := (iLc (qR1 (iB gLen [(iVar 3)])) (tgN 8) (iC (.bl true)) (iCall F__law_wish [(iVar 1), (iVar 2), (op2 gIx (iVar 3) (iVar 8)), (op2 gAdd (iVar 8) (iC (.int 5)))]) [8])
noncomputable def m_law : I := (iSeq (iTgt (tgT [(tgN 1), (tgN 2)]) (iCall F__law_start [(iVar 0)]))
    (iSeq (iSet 3 (iSlR (iVar 0) (pSome (iC (.int 2))) (pSome (iC (.int 62)))))
    (iSeq (iSet 4 c_law_1)
    (iSeq (iSet 5 (iCall F__law_mixed [(iCall F__law_cell [(iVar 0), (iC (.int 0))]), (iC (.int 2))]))
    (iSeq (iIfS (iAnd (op2 gEq (op2 gMod (iVar 5) (iC (.int 8))) (iC (.int 1))) (iAnd (op2 gNeW (iVar 4) (iLst [])) (iOr (op2 gNe (iVar 1) (iC (.str "ways"))) (op2 gLt (op2 gIx (iVar 2) (iC (.int 0))) (iC (.int 3)))))) (iSet 4 (op2 gAdd (iVar 4) (op2 gRepV (iLst [(op2 gIx (iVar 4) (iNeg (iC (.int 1))))]) (op2 gSub (op2 gSub (iC (.int 200)) (op2 gMod (op2 gDiv (iVar 5) (iC (.int 8))) (iC (.int 4)))) (iB gLen [(iVar 4)]))))) iNext)
    (iSeq (iSet 6 (iCall F__law_text [(iVar 0), (iCall F__law_lines [(iVar 1), (iVar 2), (iVar 4)])]))
    (iSeq (iSet 7 (iCall F_read_game [(iVar 6)]))
    (iSeq (iIfS (iNot (iCall (F__law_same 6) [(iVar 7), (iTup [(iVar 1), (iVar 2), (iVar 4)])])) (iRet (iC (.bl false))) iNext)
    (iSeq (iIfS (iNot (iCall (F__law_same 6) [(iCall F_read_game [(iC (.str "hire 7\n\nask 5\nask 0"))]), (iTup [(iC (.str "hire")), (iTup [(iC (.int 7))]), (iLst [(iC (.int 5)), (iC (.int 0))])])])) (iRet (iC (.bl false))) iNext)
    (iSeq (iDrop (iMut gApp (op2 gIx (iVar 7) (iC (.int 2))) [(iC (.int 0))]))
    (iRet (iAnd (iCall (F__law_same 6) [(iCall F_read_game [(iVar 6)]), (iTup [(iVar 1), (iVar 2), (iVar 4)])]) (op2 gEq (iB gLen [(op2 gIx (iVar 7) (iC (.int 2)))]) (op2 gAdd (iB gLen [(iVar 4)]) (iC (.int 1))))))))))))))))
noncomputable def F_law : Fn := mkFn 1 8 m_law
section
variable {P : Program} {w : World} {K : PySem.W.Frag} {mg : Str → Option Value} {base : Heap} {A : Ad}
theorem k_LateError___init__ (T : Tx K mg A) : FX P w K mg base (caOf K) 1 A.LateError___init__ :=
  fx_ok (k := 0) T.f_LateError___init__ sc_LateError___init__ fun cdv Ar outer s H E =>
    have sc := sc_LateError___init__
    pss_cons (ps_expr (pe_veinit (by rfl) T.xa.bV T.xa.vV (pa_cons (pv 0) (pa_cons pe_str pa_nil)))) (pss_one (ps_ost (pv 0) (pv 1)))
theorem k_is_between (T : Tx K mg A) : FK P w K mg base (caOf K) 1 A.is_between ["thing", "low", "high"] F_is_between :=
  fk_ok (k := 0) T.f_is_between sc_is_between rfl rfl fun cdv Ar outer s H E hr W tk po =>
    have sc := sc_is_between
    (ss_cons (s_if (PW.pt (w_or (t_val (e_isT (t := .bool) (by rfl) T.b_isinstance (e_var (i := 0)) (pe_bltn (by rfl) T.b_bool bt_bool rfl (by decide +kernel) (by decide +kernel)))) (w_or1 (t_not (t_val (e_isT (t := .int) (by rfl) T.b_isinstance (e_var (i := 0)) (pe_bltn (by rfl) T.b_int bt_int rfl (by decide +kernel) (by decide +kernel)))))))) (ss_one (s_ret e_bl)) ss_nil)
    (ss_one (s_ret (e_chain o_le o_le (e_var (i := 1)) (e_var (i := 0)) (e_var (i := 2))))))
theorem k_is_amount (T : Tx K mg A) : FK P w K mg base (caOf K) 2 A.is_amount ["thing"] F_is_amount :=
  fk_ok (k := 1) T.f_is_amount sc_is_amount rfl rfl fun cdv Ar outer s H E hr W tk po =>
    have sc := sc_is_amount
    (ss_one (s_ret (e_callK (k_is_between T) tk hr (by rfl) T.g_is_between (a_cons (e_var (i := 0)) (a_cons e_int (a_cons (e_gint' (by rfl) T.g_GREATEST) a_nil))) (hj := (by decide)))))
theorem k_is_name (T : Tx K mg A) : FK P w K mg base (caOf K) 1 A.is_name ["thing"] F_is_name :=
  fk_ok (k := 0) T.f_is_name sc_is_name rfl rfl fun cdv Ar outer s H E hr W tk po =>
    have sc := sc_is_name
    (ss_cons (s_if (PW.pt (w_or (t_not (t_val (e_isT (t := .str) (by rfl) T.b_isinstance (e_var (i := 0)) (pe_bltn (by rfl) T.b_str bt_str rfl (by decide +kernel) (by decide +kernel))))) (w_or1 (t_not (t_chain o_le o_le e_int (e_cb c_len (by rfl) T.b_len bt_len (p_cons (e_var (i := 0)) p_nil)) e_int))))) (ss_one (s_ret e_bl)) ss_nil)
    (ss_cons (s_for po rfl (q_e (e_var (i := 0))) (g_name (i := 1) sc.nd)
    (ss_one (s_if (t_cmp o_niS (e_var (i := 1)) (e_gstr' (by rfl) T.g_LETTERS)) (ss_one (s_ret e_bl)) ss_nil)))
    (ss_one (s_ret e_bl))))
theorem k_are_names (T : Tx K mg A) : FK P w K mg base (caOf K) 2 A.are_names ["thing"] F_are_names :=
  fk_ok (k := 1) T.f_are_names sc_are_names rfl rfl fun cdv Ar outer s H E hr W tk po =>
    have sc := sc_are_names
    (ss_cons (s_if (PW.pt (w_or (t_not (t_val (e_isT (t := .tuple) (by rfl) T.b_isinstance (e_var (i := 0)) (pe_bltn (by rfl) T.b_tuple bt_tuple rfl (by decide +kernel) (by decide +kernel))))) (w_or1 (t_not (t_chain o_le o_le e_int (e_cb c_len (by rfl) T.b_len bt_len (p_cons (e_var (i := 0)) p_nil)) e_int))))) (ss_one (s_ret e_bl)) ss_nil)
    (ss_cons (s_for po rfl (q_e (e_var (i := 0))) (g_name (i := 1) sc.nd)
    (ss_one (s_if (t_not (t_val (e_callK (k_is_name T) tk hr (by rfl) T.g_is_name (a_cons (e_var (i := 1)) a_nil) (hj := (by decide))))) (ss_one (s_ret e_bl)) ss_nil)))
    (ss_one (s_ret (e_cmp (o_eq (have h := hu30 hr; h)) (e_unl rfl (by rfl) T.b_len (by rfl) T.b_set (e_var (i := 0))) (e_cb c_len (by rfl) T.b_len bt_len (p_cons (e_var (i := 0)) p_nil)) (hm := nobehind' (by decide) (by decide)))))))
theorem k_Rule___init__ (T : Tx K mg A) : FK P w K mg base (caOf K) 1 A.Rule___init__ ["self", "world", "start"] F_Rule___init__ :=
  fk_ok (k := 0) T.f_Rule___init__ sc_Rule___init__ rfl rfl fun cdv Ar outer s H E hr W tk po =>
    have sc := sc_Rule___init__
    (ss_cons (s_setF (fl := .world) (hasOk T) (e_var (i := 0)) (e_var (i := 1)))
    (ss_cons (s_setF (fl := .now) (hasOk T) (e_var (i := 0)) (e_var (i := 2)))
    (ss_one (s_setF (fl := .total) (hasOk T) (e_var (i := 0)) e_int))))
theorem k_Bags___init__ (T : Tx K mg A) : FK P w K mg base (caOf K) 1 A.Bags___init__ ["self", "room"] F_Bags___init__ :=
  fk_ok (k := 0) T.f_Bags___init__ sc_Bags___init__ rfl rfl fun cdv Ar outer s H E hr W tk po =>
    have sc := sc_Bags___init__
    (ss_one (s_setF (fl := .room) (hasOk T) (e_var (i := 0)) (e_var (i := 1))))
theorem k_Bags_is_wish (T : Tx K mg A) : FK P w K mg base (caOf K) 2 A.Bags_is_wish ["self", "thing"] F_Bags_is_wish :=
  fk_ok (k := 1) T.f_Bags_is_wish sc_Bags_is_wish rfl rfl fun cdv Ar outer s H E hr W tk po =>
    have sc := sc_Bags_is_wish
    (ss_one (s_ret (e_callK (k_is_between T) tk hr (by rfl) T.g_is_between (a_cons (e_var (i := 1)) (a_cons e_int (a_cons (e_fld (fl := .room) (hasOk T) (e_var (i := 0))) a_nil))) (hj := (by decide)))))
theorem k_Filler___init__ (T : Tx K mg A) : FK P w K mg base (caOf K) 3 A.Filler___init__ ["self", "room"] F_Filler___init__ :=
  fk_ok (k := 2) T.f_Filler___init__ sc_Filler___init__ rfl rfl fun cdv Ar outer s H E hr W tk po =>
    have sc := sc_Filler___init__
    (ss_cons (s_if (t_not (t_val (e_callK (k_is_between T) tk hr (by rfl) T.g_is_between (a_cons (e_var (i := 1)) (a_cons e_int (a_cons (e_gint' (by rfl) T.g_GREATEST) a_nil))) (hj := (by decide))))) (ss_one (s_raise0 T.xa (k_LateError___init__ T) tk hr (by rfl) (by rfl) (by rfl) (by rfl) (hj := (by decide)))) ss_nil)
    (ss_cons (s_drop (e_clsm (c := .bound) T.d_Bound___init__ (k_Rule___init__ T) tk hr (by rfl) (by rfl) (a_cons (e_var (i := 0)) (a_cons (e_newK (c := .bags) T.k_Bags (k_Bags___init__ T) tk hr (by rfl) (a_cons (e_var (i := 1)) a_nil) (hj := (by decide))) (a_cons (e_tup a_nil) a_nil))) (hj := (by decide))))
    (ss_cons (s_setF (fl := .room) (hasOk T) (e_var (i := 0)) (e_var (i := 1)))
    (ss_one (s_setF (fl := .opened) (hasOk T) (e_var (i := 0)) (e_heap (e_lst a_nil)))))))
theorem k_Hire___init__ (T : Tx K mg A) : FK P w K mg base (caOf K) 1 A.Hire___init__ ["self", "whole"] F_Hire___init__ :=
  fk_ok (k := 0) T.f_Hire___init__ sc_Hire___init__ rfl rfl fun cdv Ar outer s H E hr W tk po =>
    have sc := sc_Hire___init__
    (ss_one (s_setF (fl := .whole) (hasOk T) (e_var (i := 0)) (e_var (i := 1))))
theorem k_Hire_is_wish (T : Tx K mg A) : FK P w K mg base (caOf K) 3 A.Hire_is_wish ["self", "thing"] F_Hire_is_wish :=
  fk_ok (k := 2) T.f_Hire_is_wish sc_Hire_is_wish rfl rfl fun cdv Ar outer s H E hr W tk po =>
    have sc := sc_Hire_is_wish
    (ss_one (s_ret (e_callK (k_is_amount T) tk hr (by rfl) T.g_is_amount (a_cons (e_var (i := 1)) a_nil) (hj := (by decide)))))
theorem k_Buyer___init__ (T : Tx K mg A) : FK P w K mg base (caOf K) 3 A.Buyer___init__ ["self", "whole"] F_Buyer___init__ :=
  fk_ok (k := 2) T.f_Buyer___init__ sc_Buyer___init__ rfl rfl fun cdv Ar outer s H E hr W tk po =>
    have sc := sc_Buyer___init__
    (ss_cons (s_if (t_not (t_val (e_callK (k_is_between T) tk hr (by rfl) T.g_is_between (a_cons (e_var (i := 1)) (a_cons e_int (a_cons (e_gint' (by rfl) T.g_GREATEST) a_nil))) (hj := (by decide))))) (ss_one (s_raise0 T.xa (k_LateError___init__ T) tk hr (by rfl) (by rfl) (by rfl) (by rfl) (hj := (by decide)))) ss_nil)
    (ss_cons (s_drop (e_clsm (c := .bound) T.d_Bound___init__ (k_Rule___init__ T) tk hr (by rfl) (by rfl) (a_cons (e_var (i := 0)) (a_cons (e_newK (c := .hire) T.k_Hire (k_Hire___init__ T) tk hr (by rfl) (a_cons (e_var (i := 1)) a_nil) (hj := (by decide))) (a_cons e_int a_nil))) (hj := (by decide))))
    (ss_cons (s_setF (fl := .whole) (hasOk T) (e_var (i := 0)) (e_var (i := 1)))
    (ss_one (s_setF (fl := .hired) (hasOk T) (e_var (i := 0)) e_int)))))
theorem k_is_place (T : Tx K mg A) : FK P w K mg base (caOf K) 2 A.is_place ["thing"] F_is_place :=
  fk_ok (k := 1) T.f_is_place sc_is_place rfl rfl fun cdv Ar outer s H E hr W tk po =>
    have sc := sc_is_place
    (ss_one (s_ret (e_callK (k_is_between T) tk hr (by rfl) T.g_is_between (a_cons (e_var (i := 0)) (a_cons (e_op o_sub e_int (e_gint' (by rfl) T.g_GREATEST)) (a_cons (e_gint' (by rfl) T.g_GREATEST) a_nil))) (hj := (by decide)))))
theorem k_are_places (T : Tx K mg A) : FK P w K mg base (caOf K) 3 A.are_places ["thing", "many"] F_are_places :=
  fk_ok (k := 2) T.f_are_places sc_are_places rfl rfl fun cdv Ar outer s H E hr W tk po =>
    have sc := sc_are_places
    (ss_cons (s_if (PW.pt (w_or (t_not (t_val (e_isT (t := .tuple) (by rfl) T.b_isinstance (e_var (i := 0)) (pe_bltn (by rfl) T.b_tuple bt_tuple rfl (by decide +kernel) (by decide +kernel))))) (w_or1 (t_cmp o_ne (e_cb c_len (by rfl) T.b_len bt_len (p_cons (e_var (i := 0)) p_nil)) (e_var (i := 1)) (hm := nobehind' (by decide) (by decide)))))) (ss_one (s_ret e_bl)) ss_nil)
    (ss_cons (s_for po rfl (q_e (e_var (i := 0))) (g_name (i := 2) sc.nd)
    (ss_one (s_if (t_not (t_val (e_callK (k_is_place T) tk hr (by rfl) T.g_is_place (a_cons (e_var (i := 2)) a_nil) (hj := (by decide))))) (ss_one (s_ret e_bl)) ss_nil)))
    (ss_one (s_ret (e_cmp (o_eq (have h := hu30 hr; h)) (e_cty c_list (by rfl) T.b_list bt_list (p_cons (e_var (i := 0)) p_nil)) (e_cb (c_sorted (have h := hu30 hr; h)) (by rfl) T.b_sorted bt_sorted (p_cons (e_var (i := 0)) p_nil)) (hm := nobehind' (by decide) (by decide)))))))
theorem k_Line___init__ (T : Tx K mg A) : FK P w K mg base (caOf K) 1 A.Line___init__ ["self", "many"] F_Line___init__ :=
  fk_ok (k := 0) T.f_Line___init__ sc_Line___init__ rfl rfl fun cdv Ar outer s H E hr W tk po =>
    have sc := sc_Line___init__
    (ss_one (s_setF (fl := .many) (hasOk T) (e_var (i := 0)) (e_var (i := 1))))
theorem k_line_of (T : Tx K mg A) : FK P w K mg base (caOf K) 4 A.line_of ["start"] F_line_of :=
  fk_ok (k := 3) T.f_line_of sc_line_of rfl rfl fun cdv Ar outer s H E hr W tk po =>
    have sc := sc_line_of
    (ss_cons (s_for po rfl (q_r2 (by rfl) T.b_range (a_cons e_int (a_cons e_int a_nil))) (g_name (i := 1) sc.nd)
    (ss_one (s_if (t_val (e_callK (k_are_places T) tk hr (by rfl) T.g_are_places (a_cons (e_var (i := 0)) (a_cons (e_var (i := 1)) a_nil)) (hj := (by decide)))) (ss_one (s_ret (e_newK (c := .line) T.k_Line (k_Line___init__ T) tk hr (by rfl) (a_cons (e_var (i := 1)) a_nil) (hj := (by decide))))) ss_nil)))
    (ss_one (s_raise0 T.xa (k_LateError___init__ T) tk hr (by rfl) (by rfl) (by rfl) (by rfl) (hj := (by decide)))))
theorem k_Line_is_wish (T : Tx K mg A) : FK P w K mg base (caOf K) 3 A.Line_is_wish ["self", "thing"] F_Line_is_wish :=
  fk_ok (k := 2) T.f_Line_is_wish sc_Line_is_wish rfl rfl fun cdv Ar outer s H E hr W tk po =>
    have sc := sc_Line_is_wish
    (ss_one (s_ret (e_callK (k_is_place T) tk hr (by rfl) T.g_is_place (a_cons (e_var (i := 1)) a_nil) (hj := (by decide)))))
theorem k_Both___init__ (T : Tx K mg A) : FK P w K mg base (caOf K) 5 A.Both___init__ ["self", "start"] F_Both___init__ :=
  fk_ok (k := 4) T.f_Both___init__ sc_Both___init__ rfl rfl fun cdv Ar outer s H E hr W tk po =>
    have sc := sc_Both___init__
    (ss_one (s_drop (e_clsm (c := .bound) T.d_Bound___init__ (k_Rule___init__ T) tk hr (by rfl) (by rfl) (a_cons (e_var (i := 0)) (a_cons (e_callK (k_line_of T) tk hr (by rfl) T.g_line_of (a_cons (e_var (i := 1)) a_nil) (hj := (by decide))) (a_cons (e_var (i := 1)) a_nil))) (hj := (by decide)))))
theorem k_Shelf___init__ (T : Tx K mg A) : FK P w K mg base (caOf K) 1 A.Shelf___init__ ["self", "things"] F_Shelf___init__ :=
  fk_ok (k := 0) T.f_Shelf___init__ sc_Shelf___init__ rfl rfl fun cdv Ar outer s H E hr W tk po =>
    have sc := sc_Shelf___init__
    (ss_one (s_setF (fl := .things) (hasOk T) (e_var (i := 0)) (e_cty c_tuple (by rfl) T.b_tuple bt_tuple (p_cons (e_var (i := 1)) p_nil))))
theorem k_Shelf_is_wish (T : Tx K mg A) : FK P w K mg base (caOf K) 1 A.Shelf_is_wish ["self", "thing"] F_Shelf_is_wish :=
  fk_ok (k := 0) T.f_Shelf_is_wish sc_Shelf_is_wish rfl rfl fun cdv Ar outer s H E hr W tk po =>
    have sc := sc_Shelf_is_wish
    (ss_one (s_ret (e_and (e_isT (t := .str) (by rfl) T.b_isinstance (e_var (i := 1)) (pe_bltn (by rfl) T.b_str bt_str rfl (by decide +kernel) (by decide +kernel))) (e_one (e_cmp (o_in (have h := hu30 hr; h)) (e_var (i := 1)) (e_fld (fl := .things) (hasOk T) (e_var (i := 0))))))))
theorem k_Front___init__ (T : Tx K mg A) : FK P w K mg base (caOf K) 3 A.Front___init__ ["self", "start"] F_Front___init__ :=
  fk_ok (k := 2) T.f_Front___init__ sc_Front___init__ rfl rfl fun cdv Ar outer s H E hr W tk po =>
    have sc := sc_Front___init__
    (ss_cons (s_if (t_not (t_val (e_callK (k_are_names T) tk hr (by rfl) T.g_are_names (a_cons (e_var (i := 1)) a_nil) (hj := (by decide))))) (ss_one (s_raise0 T.xa (k_LateError___init__ T) tk hr (by rfl) (by rfl) (by rfl) (by rfl) (hj := (by decide)))) ss_nil)
    (ss_one (s_drop (e_clsm (c := .bound) T.d_Bound___init__ (k_Rule___init__ T) tk hr (by rfl) (by rfl) (a_cons (e_var (i := 0)) (a_cons (e_newK (c := .shelf) T.k_Shelf (k_Shelf___init__ T) tk hr (by rfl) (a_cons (e_var (i := 1)) a_nil) (hj := (by decide))) (a_cons (e_var (i := 1)) a_nil))) (hj := (by decide))))))
theorem k_Store___init__ (T : Tx K mg A) : FK P w K mg base (caOf K) 1 A.Store___init__ ["self", "many"] F_Store___init__ :=
  fk_ok (k := 0) T.f_Store___init__ sc_Store___init__ rfl rfl fun cdv Ar outer s H E hr W tk po =>
    have sc := sc_Store___init__
    (ss_one (s_setF (fl := .many) (hasOk T) (e_var (i := 0)) (e_var (i := 1))))
theorem k_Store_is_wish (T : Tx K mg A) : FK P w K mg base (caOf K) 2 A.Store_is_wish ["self", "thing"] F_Store_is_wish :=
  fk_ok (k := 1) T.f_Store_is_wish sc_Store_is_wish rfl rfl fun cdv Ar outer s H E hr W tk po =>
    have sc := sc_Store_is_wish
    (ss_one (s_ret (e_callK (k_is_name T) tk hr (by rfl) T.g_is_name (a_cons (e_var (i := 1)) a_nil) (hj := (by decide)))))
theorem k_Keeper___init__ (T : Tx K mg A) : FK P w K mg base (caOf K) 3 A.Keeper___init__ ["self", "pages"] F_Keeper___init__ :=
  fk_ok (k := 2) T.f_Keeper___init__ sc_Keeper___init__ rfl rfl fun cdv Ar outer s H E hr W tk po =>
    have sc := sc_Keeper___init__
    (ss_cons (s_if (t_not (t_val (e_callK (k_are_names T) tk hr (by rfl) T.g_are_names (a_cons (e_var (i := 1)) a_nil) (hj := (by decide))))) (ss_one (s_raise0 T.xa (k_LateError___init__ T) tk hr (by rfl) (by rfl) (by rfl) (by rfl) (hj := (by decide)))) ss_nil)
    (ss_cons (s_drop (e_clsm (c := .bound) T.d_Bound___init__ (k_Rule___init__ T) tk hr (by rfl) (by rfl) (a_cons (e_var (i := 0)) (a_cons (e_newK (c := .store) T.k_Store (k_Store___init__ T) tk hr (by rfl) (a_cons (e_cb c_len (by rfl) T.b_len bt_len (p_cons (e_var (i := 1)) p_nil)) a_nil) (hj := (by decide))) (a_cons (e_cty c_tuple (by rfl) T.b_tuple bt_tuple (p_cons (e_cb (c_sorted (have h := hu30 hr; h)) (by rfl) T.b_sorted bt_sorted (p_cons (e_var (i := 1)) p_nil)) p_nil)) a_nil))) (hj := (by decide))))
    (ss_one (s_setF (fl := .kept) (hasOk T) (e_var (i := 0)) (e_heap (e_cty c_list (by rfl) T.b_list bt_list (p_cons (e_var (i := 1)) p_nil)))))))
theorem k_Ways___init__ (T : Tx K mg A) : FK P w K mg base (caOf K) 1 A.Ways___init__ ["self", "many", "toll"] F_Ways___init__ :=
  fk_ok (k := 0) T.f_Ways___init__ sc_Ways___init__ rfl rfl fun cdv Ar outer s H E hr W tk po =>
    have sc := sc_Ways___init__
    (ss_cons (s_setF (fl := .many) (hasOk T) (e_var (i := 0)) (e_var (i := 1)))
    (ss_one (s_setF (fl := .toll) (hasOk T) (e_var (i := 0)) (e_var (i := 2)))))
theorem k_Ways_is_wish (T : Tx K mg A) : FK P w K mg base (caOf K) 3 A.Ways_is_wish ["self", "thing"] F_Ways_is_wish :=
  fk_ok (k := 2) T.f_Ways_is_wish sc_Ways_is_wish rfl rfl fun cdv Ar outer s H E hr W tk po =>
    have sc := sc_Ways_is_wish
    (ss_cons (s_if (PW.pt (w_or (t_not (t_val (e_isT (t := .tuple) (by rfl) T.b_isinstance (e_var (i := 1)) (pe_bltn (by rfl) T.b_tuple bt_tuple rfl (by decide +kernel) (by decide +kernel))))) (w_or1 (t_cmp o_ne (e_cb c_len (by rfl) T.b_len bt_len (p_cons (e_var (i := 1)) p_nil)) (e_fld (fl := .many) (hasOk T) (e_var (i := 0))) (hm := nobehind' (by decide) (by decide)))))) (ss_one (s_ret e_bl)) ss_nil)
    (ss_one (s_ret (e_cb (c_all rfl) (by rfl) T.b_all bt_all (p_cons (e_lc rfl sc.nd (q_e (e_var (i := 1))) (blkOk_by (own := [("charge", 2)]) (by rfl)) (vs := [2]) rfl (fun s H C cl fp => (h_name (i := 2) sc.nd (by decide))) (fun s H C cl fp tk => (e_callK (k_is_amount T) tk hr (by rfl) T.g_is_amount (a_cons (e_var (i := 2)) a_nil) (hj := (by decide))))) p_nil)))))
theorem k_Changer___init__ (T : Tx K mg A) : FK P w K mg base (caOf K) 3 A.Changer___init__ ["self", "many", "toll", "start"] F_Changer___init__ :=
  fk_okD (k := 2) T.f_Changer___init__ sc_Changer___init__ rfl rfl fun cdv Ar outer s H E hr W tk po =>
    have sc := sc_Changer___init__
    (ss_cons (s_if (PW.pt (w_or (t_not (t_val (e_callK (k_is_between T) tk hr (by rfl) T.g_is_between (a_cons (e_var (i := 1)) (a_cons e_int (a_cons e_int a_nil))) (hj := (by decide))))) (w_or1 (t_not (t_val (e_callK (k_is_amount T) tk hr (by rfl) T.g_is_amount (a_cons (e_var (i := 2)) a_nil) (hj := (by decide)))))))) (ss_one (s_raise0 T.xa (k_LateError___init__ T) tk hr (by rfl) (by rfl) (by rfl) (by rfl) (hj := (by decide)))) ss_nil)
    (ss_cons (s_if (t_not (t_val (e_callK (k_is_between T) tk hr (by rfl) T.g_is_between (a_cons (e_var (i := 3)) (a_cons e_int (a_cons (e_op o_sub (e_var (i := 1)) e_int) a_nil))) (hj := (by decide))))) (ss_one (s_raise0 T.xa (k_LateError___init__ T) tk hr (by rfl) (by rfl) (by rfl) (by rfl) (hj := (by decide)))) ss_nil)
    (ss_cons (s_drop (e_clsm (c := .bound) T.d_Bound___init__ (k_Rule___init__ T) tk hr (by rfl) (by rfl) (a_cons (e_var (i := 0)) (a_cons (e_newK (c := .ways) T.k_Ways (k_Ways___init__ T) tk hr (by rfl) (a_cons (e_var (i := 1)) (a_cons (e_var (i := 2)) a_nil)) (hj := (by decide))) (a_cons (e_var (i := 3)) a_nil))) (hj := (by decide))))
    (ss_cons (s_setF (fl := .toll) (hasOk T) (e_var (i := 0)) (e_var (i := 2)))
    (ss_cons (s_setF (fl := .known) (hasOk T) (e_var (i := 0)) (e_heap (e_lc rfl sc.nd (q_r1 (by rfl) T.b_range (a_cons (e_var (i := 1)) a_nil)) (blkOk_by (own := [("way", 4)]) (by rfl)) (vs := [4]) rfl (fun s H C cl fp => (h_name (i := 4) sc.nd (by decide))) (fun s H C cl fp tk => (e_var (i := 2))))))
    (ss_one (s_setIx (e_fld (fl := .known) (hasOk T) (e_var (i := 0))) (e_var (i := 3)) e_int)))))))
theorem k_sum_read (T : Tx K mg A) : FK P w K mg base (caOf K) 1 A.sum_read ["word"] F_sum_read :=
  fk_ok (k := 0) T.f_sum_read sc_sum_read rfl rfl fun cdv Ar outer s H E hr W tk po =>
    have sc := sc_sum_read
    (ss_cons (s_if (PW.pt (w_or (t_cmp (o_eq (have h := hu30 hr; h)) (e_var (i := 0)) e_str (hm := nobehind' (by decide) (by decide))) (w_or (t_cmp o_gt (e_cb c_len (by rfl) T.b_len bt_len (p_cons (e_var (i := 0)) p_nil)) (e_gint' (by rfl) T.g_MOST_FIGURES) (hm := nobehind' (by decide) (by decide))) (w_or1 (PW.pt (w_and (t_cmp (o_eq (have h := hu30 hr; h)) (e_ix o_ix (e_var (i := 0)) e_int) e_str (hm := nobehind' (by decide) (by decide))) (w_and1 (t_cmp o_gt (e_cb c_len (by rfl) T.b_len bt_len (p_cons (e_var (i := 0)) p_nil)) e_int (hm := nobehind' (by decide) (by decide)))))))))) (ss_one (s_ret e_non)) ss_nil)
    (ss_cons (s_for po rfl (q_e (e_var (i := 0))) (g_name (i := 1) sc.nd)
    (ss_one (s_if (t_cmp o_niS (e_var (i := 1)) (e_gstr' (by rfl) T.g_FIGURES)) (ss_one (s_ret e_non)) ss_nil)))
    (ss_one (s_ret (e_cty c_intS (by rfl) T.b_int bt_int (p_cons (e_var (i := 0)) p_nil))))))
theorem k_number_read (T : Tx K mg A) : FK P w K mg base (caOf K) 2 A.number_read ["word"] F_number_read :=
  fk_ok (k := 1) T.f_number_read sc_number_read rfl rfl fun cdv Ar outer s H E hr W tk po =>
    have sc := sc_number_read
    (ss_cons (s_if (t_not (t_val (e_m1 (T := "str") (n := "startswith") (id := "str.startswith") (fun _ _ _ _ _ => ty_str) PySem.F.plainAttrs_str PySem.F.slot_str_startswith PySem.F.type_str_startswith m_startswith (e_var (i := 0)) e_str))) (ss_one (s_ret (e_callK (k_sum_read T) tk hr (by rfl) T.g_sum_read (a_cons (e_var (i := 0)) a_nil) (hj := (by decide))))) ss_nil)
    (ss_cons (s_set (i := 1) sc.nd (e_callK (k_sum_read T) tk hr (by rfl) T.g_sum_read (a_cons (e_slS (e_var (i := 0)) (p_some e_int) p_no) a_nil) (hj := (by decide))))
    (ss_cons (s_if (PW.pt (w_or (t_cmp o_is (e_var (i := 1)) e_non (hm := nobehind' (by decide) (by decide))) (w_or1 (t_cmp (o_eq (have h := hu30 hr; h)) (e_var (i := 1)) e_int (hm := nobehind' (by decide) (by decide)))))) (ss_one (s_ret e_non)) ss_nil)
    (ss_one (s_ret (e_op o_sub e_int (e_var (i := 1))))))))
theorem k_rule_of (T : Tx K mg A) : FK P w K mg base (caOf K) 7 A.rule_of ["word", "start"] F_rule_of :=
  fk_ok (k := 6) T.f_rule_of sc_rule_of rfl rfl fun cdv Ar outer s H E hr W tk po =>
    have sc := sc_rule_of
    (ss_cons (s_if (t_cmp (o_eq (have h := hu30 hr; h)) (e_var (i := 0)) e_str (hm := nobehind' (by decide) (by decide))) (ss_one (s_ret (e_newK (c := .both) T.k_Both (k_Both___init__ T) tk hr (by rfl) (a_cons (e_var (i := 1)) a_nil) (hj := (by decide))))) ss_nil)
    (ss_cons (s_if (t_cmp (o_eq (have h := hu30 hr; h)) (e_var (i := 0)) e_str (hm := nobehind' (by decide) (by decide))) (ss_one (s_ret (e_newK (c := .front) T.k_Front (k_Front___init__ T) tk hr (by rfl) (a_cons (e_var (i := 1)) a_nil) (hj := (by decide))))) ss_nil)
    (ss_cons (s_if (t_cmp (o_eq (have h := hu30 hr; h)) (e_var (i := 0)) e_str (hm := nobehind' (by decide) (by decide))) (ss_one (s_ret (e_newK (c := .buyer) T.k_Buyer (k_Buyer___init__ T) tk hr (by rfl) (a_cons (e_ix o_ix (e_var (i := 1)) e_int) a_nil) (hj := (by decide))))) ss_nil)
    (ss_cons (s_if (t_cmp (o_eq (have h := hu30 hr; h)) (e_var (i := 0)) e_str (hm := nobehind' (by decide) (by decide))) (ss_one (s_ret (e_newK (c := .changer) T.k_Changer (k_Changer___init__ T) tk hr (by rfl) (a_cons (e_ix o_ix (e_var (i := 1)) e_int) (a_cons (e_ix o_ix (e_var (i := 1)) e_int) (a_cons (e_ix o_ix (e_var (i := 1)) e_int) a_nil))) (hj := (by decide))))) ss_nil)
    (ss_cons (s_if (t_cmp (o_eq (have h := hu30 hr; h)) (e_var (i := 0)) e_str (hm := nobehind' (by decide) (by decide))) (ss_one (s_ret (e_newK (c := .keeper) T.k_Keeper (k_Keeper___init__ T) tk hr (by rfl) (a_cons (e_var (i := 1)) a_nil) (hj := (by decide))))) ss_nil)
    (ss_one (s_ret (e_newK (c := .filler) T.k_Filler (k_Filler___init__ T) tk hr (by rfl) (a_cons (e_ix o_ix (e_var (i := 1)) e_int) a_nil) (hj := (by decide))))))))))
theorem k_world_start (T : Tx K mg A) : FK P w K mg base (caOf K) 3 A.world_start ["word", "start"] F_world_start :=
  fk_ok (k := 2) T.f_world_start sc_world_start rfl rfl fun cdv Ar outer s H E hr W tk po =>
    have sc := sc_world_start
    (ss_cons (s_if (t_cmp (o_eq (have h := hu30 hr; h)) (e_var (i := 0)) e_str (hm := nobehind' (by decide) (by decide))) (ss_one (s_ret (e_tup (a_cons (e_newK (c := .line) T.k_Line (k_Line___init__ T) tk hr (by rfl) (a_cons (e_cb c_len (by rfl) T.b_len bt_len (p_cons (e_var (i := 1)) p_nil)) a_nil) (hj := (by decide))) (a_cons (e_var (i := 1)) a_nil))))) ss_nil)
    (ss_cons (s_if (t_cmp (o_eq (have h := hu30 hr; h)) (e_var (i := 0)) e_str (hm := nobehind' (by decide) (by decide))) (ss_one (s_ret (e_tup (a_cons (e_newK (c := .shelf) T.k_Shelf (k_Shelf___init__ T) tk hr (by rfl) (a_cons (e_var (i := 1)) a_nil) (hj := (by decide))) (a_cons (e_var (i := 1)) a_nil))))) ss_nil)
    (ss_cons (s_if (t_cmp (o_eq (have h := hu30 hr; h)) (e_var (i := 0)) e_str (hm := nobehind' (by decide) (by decide))) (ss_one (s_ret (e_tup (a_cons (e_newK (c := .hire) T.k_Hire (k_Hire___init__ T) tk hr (by rfl) (a_cons (e_ix o_ix (e_var (i := 1)) e_int) a_nil) (hj := (by decide))) (a_cons e_int a_nil))))) ss_nil)
    (ss_cons (s_if (t_cmp (o_eq (have h := hu30 hr; h)) (e_var (i := 0)) e_str (hm := nobehind' (by decide) (by decide))) (ss_one (s_ret (e_tup (a_cons (e_newK (c := .ways) T.k_Ways (k_Ways___init__ T) tk hr (by rfl) (a_cons (e_ix o_ix (e_var (i := 1)) e_int) (a_cons (e_ix o_ix (e_var (i := 1)) e_int) a_nil)) (hj := (by decide))) (a_cons (e_ix o_ix (e_var (i := 1)) e_int) a_nil))))) ss_nil)
    (ss_cons (s_if (t_cmp (o_eq (have h := hu30 hr; h)) (e_var (i := 0)) e_str (hm := nobehind' (by decide) (by decide))) (ss_one (s_ret (e_tup (a_cons (e_newK (c := .store) T.k_Store (k_Store___init__ T) tk hr (by rfl) (a_cons (e_cb c_len (by rfl) T.b_len bt_len (p_cons (e_var (i := 1)) p_nil)) a_nil) (hj := (by decide))) (a_cons (e_cty c_tuple (by rfl) T.b_tuple bt_tuple (p_cons (e_cb (c_sorted (have h := hu30 hr; h)) (by rfl) T.b_sorted bt_sorted (p_cons (e_var (i := 1)) p_nil)) p_nil)) a_nil))))) ss_nil)
    (ss_one (s_ret (e_tup (a_cons (e_newK (c := .bags) T.k_Bags (k_Bags___init__ T) tk hr (by rfl) (a_cons (e_ix o_ix (e_var (i := 1)) e_int) a_nil) (hj := (by decide))) (a_cons (e_tup a_nil) a_nil))))))))))
theorem k_many_fit (T : Tx K mg A) : FK P w K mg base (caOf K) 1 A.many_fit ["word", "many"] F_many_fit :=
  fk_ok (k := 0) T.f_many_fit sc_many_fit rfl rfl fun cdv Ar outer s H E hr W tk po =>
    have sc := sc_many_fit
    (ss_cons (s_if (t_cmp (o_eq (have h := hu30 hr; h)) (e_var (i := 0)) e_str (hm := nobehind' (by decide) (by decide))) (ss_one (s_ret e_bl)) ss_nil)
    (ss_cons (s_if (t_cmp (o_eq (have h := hu30 hr; h)) (e_var (i := 0)) e_str (hm := nobehind' (by decide) (by decide))) (ss_one (s_ret (e_cmp (o_eq (have h := hu30 hr; h)) (e_var (i := 1)) e_int (hm := nobehind' (by decide) (by decide))))) ss_nil)
    (ss_one (s_ret (e_and (e_or (e_cmp (o_eq (have h := hu30 hr; h)) (e_var (i := 0)) e_str (hm := nobehind' (by decide) (by decide))) (e_one (e_cmp (o_eq (have h := hu30 hr; h)) (e_var (i := 0)) e_str (hm := nobehind' (by decide) (by decide))))) (e_one (e_cmp (o_eq (have h := hu30 hr; h)) (e_var (i := 1)) e_int (hm := nobehind' (by decide) (by decide)))))))))
theorem k_start_read (T : Tx K mg A) : FK P w K mg base (caOf K) 8 A.start_read ["words"] F_start_read :=
  fk_ok (k := 7) T.f_start_read sc_start_read rfl rfl fun cdv Ar outer s H E hr W tk po =>
    have sc := sc_start_read
    (ss_cons (s_set (i := 1) sc.nd (e_ix o_ix (e_var (i := 0)) e_int))
    (ss_cons (s_if (PW.pt (w_or (t_cmp (o_eq (have h := hu30 hr; h)) (e_var (i := 1)) e_str (hm := nobehind' (by decide) (by decide))) (w_or1 (t_cmp (o_eq (have h := hu30 hr; h)) (e_var (i := 1)) e_str (hm := nobehind' (by decide) (by decide)))))) (ss_cons (s_set (i := 2) sc.nd (e_cty c_tuple (by rfl) T.b_tuple bt_tuple (p_cons (e_sl (e_var (i := 0)) (p_some e_int) p_no) p_nil)))
    (ss_cons (s_if (t_val (e_callK (k_are_names T) tk hr (by rfl) T.g_are_names (a_cons (e_var (i := 2)) a_nil) (hj := (by decide)))) (ss_one (s_ret (e_tup (a_cons (e_var (i := 1)) (a_cons (e_var (i := 2)) a_nil))))) ss_nil)
    (ss_one (s_ret e_non)))) ss_nil)
    (ss_cons (s_set (i := 3) sc.nd (e_cty c_tuple (by rfl) T.b_tuple bt_tuple (p_cons (e_lc rfl sc.nd (q_e (e_sl (e_var (i := 0)) (p_some e_int) p_no)) (blkOk_by (own := [("one", 4)]) (by rfl)) (vs := [4]) rfl (fun s H C cl fp => (h_name (i := 4) sc.nd (by decide))) (fun s H C cl fp tk => (e_callK (k_number_read T) tk hr (by rfl) T.g_number_read (a_cons (e_var (i := 4)) a_nil) (hj := (by decide))))) p_nil)))
    (ss_cons (s_if (PW.pt (w_or (t_cmp (o_in (have h := hu30 hr; h)) e_non (e_var (i := 3))) (w_or1 (t_not (t_val (e_callK (k_many_fit T) tk hr (by rfl) T.g_many_fit (a_cons (e_var (i := 1)) (a_cons (e_cb c_len (by rfl) T.b_len bt_len (p_cons (e_var (i := 3)) p_nil)) a_nil)) (hj := (by decide)))))))) (ss_one (s_ret e_non)) ss_nil)
    (ss_one (s_tryE T.xa (C := .noState) (by rfl) rfl rfl (by rfl) (by rfl) tk (fun W' pn xe tk po =>
    (ss_one (s_drop (e_callK (k_rule_of T) tk hr (by rfl) T.g_rule_of (a_cons (e_var (i := 1)) (a_cons (e_var (i := 3)) a_nil)) (hj := (by decide)))))) (fun a oe pn tk =>
    (ss_one (s_ret e_non))) (ss_one (s_ret (e_tup (a_cons (e_var (i := 1)) (a_cons (e_var (i := 3)) a_nil)))))))))))
theorem k_wish_read (T : Tx K mg A) : FK P w K mg base (caOf K) 4 A.wish_read ["words", "word", "world"] F_wish_read :=
  fk_ok (k := 3) T.f_wish_read sc_wish_read rfl rfl fun cdv Ar outer s H E hr W tk po =>
    have sc := sc_wish_read
    (ss_cons (s_if (PW.pt (w_or (t_cmp o_ne (e_ix o_ix (e_var (i := 0)) e_int) e_str (hm := nobehind' (by decide) (by decide))) (w_or (t_cmp o_lt (e_cb c_len (by rfl) T.b_len bt_len (p_cons (e_var (i := 0)) p_nil)) e_int (hm := nobehind' (by decide) (by decide))) (w_or1 (PW.pt (w_and (t_cmp o_gt (e_cb c_len (by rfl) T.b_len bt_len (p_cons (e_var (i := 0)) p_nil)) e_int (hm := nobehind' (by decide) (by decide))) (w_and1 (t_cmp o_ne (e_var (i := 1)) e_str (hm := nobehind' (by decide) (by decide)))))))))) (ss_one (s_ret e_non)) ss_nil)
    (ss_cons (s_set (i := 3) sc.nd (e_ix o_ix (e_var (i := 0)) e_int))
    (ss_cons (s_if (t_cmp (o_eq (have h := hu30 hr; h)) (e_var (i := 1)) e_str (hm := nobehind' (by decide) (by decide))) (ss_one (s_set (i := 3) sc.nd (e_cty c_tuple (by rfl) T.b_tuple bt_tuple (p_cons (e_lc rfl sc.nd (q_e (e_sl (e_var (i := 0)) (p_some e_int) p_no)) (blkOk_by (own := [("one", 4)]) (by rfl)) (vs := [4]) rfl (fun s H C cl fp => (h_name (i := 4) sc.nd (by decide))) (fun s H C cl fp tk => (e_callK (k_number_read T) tk hr (by rfl) T.g_number_read (a_cons (e_var (i := 4)) a_nil) (hj := (by decide))))) p_nil)))) (ss_one (s_if (PW.pt (w_and (t_cmp o_ne (e_var (i := 1)) e_str (hm := nobehind' (by decide) (by decide))) (w_and1 (t_cmp o_ne (e_var (i := 1)) e_str (hm := nobehind' (by decide) (by decide)))))) (ss_one (s_set (i := 3) sc.nd (e_callK (k_number_read T) tk hr (by rfl) T.g_number_read (a_cons (e_var (i := 3)) a_nil) (hj := (by decide))))) ss_nil)))
    (ss_cons (s_if (t_not (t_val (e_meth (mok_cons (mok T.c_Bags T.m_Bags_is_wish (k_Bags_is_wish T) hr (hj := (by decide))) (mok_cons (mok T.c_Hire T.m_Hire_is_wish (k_Hire_is_wish T) hr (hj := (by decide))) (mok_cons (mok T.c_Line T.m_Line_is_wish (k_Line_is_wish T) hr (hj := (by decide))) (mok_cons (mok T.c_Shelf T.m_Shelf_is_wish (k_Shelf_is_wish T) hr (hj := (by decide))) (mok_cons (mok T.c_Store T.m_Store_is_wish (k_Store_is_wish T) hr (hj := (by decide))) (mok_cons (mok T.c_Ways T.m_Ways_is_wish (k_Ways_is_wish T) hr (hj := (by decide))) mok_nil)))))) tk (e_var (i := 2)) (a_cons (e_var (i := 3)) a_nil)))) (ss_one (s_ret e_non)) ss_nil)
    (ss_one (s_ret (e_var (i := 3))))))))
theorem k_read_game (T : Tx K mg A) : FK P w K mg base (caOf K) 9 A.read_game ["text"] F_read_game :=
  fk_ok (k := 8) T.f_read_game sc_read_game rfl rfl fun cdv Ar outer s H E hr W tk po =>
    have sc := sc_read_game
    (ss_cons (s_if (t_not (t_val (e_isT (t := .str) (by rfl) T.b_isinstance (e_var (i := 0)) (pe_bltn (by rfl) T.b_str bt_str rfl (by decide +kernel) (by decide +kernel))))) (ss_one (s_raise1 T.xa (k_LateError___init__ T) tk hr (by rfl) (by rfl) (by rfl) (by rfl) (a_cons e_int a_nil) (hj := (by decide)))) ss_nil)
    (ss_cons (s_set (i := 1) sc.nd e_non)
    (ss_cons (s_set (i := 2) sc.nd e_non)
    (ss_cons (s_set (i := 3) sc.nd (e_heap (e_lst a_nil)))
    (ss_cons (s_for po rfl (q_enum (by rfl) T.b_enumerate (e_m1 (T := "str") (n := "split") (id := "str.split") (fun _ _ _ _ _ => ty_str) PySem.F.plainAttrs_str PySem.F.slot_str_split PySem.F.type_str_split m_split (e_var (i := 0)) e_str)) (g_tup rfl (gs_cons (g_name (i := 4) sc.nd) (gs_cons (g_name (i := 5) sc.nd) gs_nil)))
    (ss_cons (s_if (t_cmp (o_eq (have h := hu30 hr; h)) (e_var (i := 5)) e_str (hm := nobehind' (by decide) (by decide))) (ss_one s_continue) ss_nil)
    (ss_cons (s_if (t_cmp o_is (e_var (i := 1)) e_non (hm := nobehind' (by decide) (by decide))) (ss_cons (s_set (i := 1) sc.nd (e_callK (k_start_read T) tk hr (by rfl) T.g_start_read (a_cons (e_m1 (T := "str") (n := "split") (id := "str.split") (fun _ _ _ _ _ => ty_str) PySem.F.plainAttrs_str PySem.F.slot_str_split PySem.F.type_str_split m_split (e_var (i := 5)) e_str) a_nil) (hj := (by decide))))
    (ss_cons (s_if (t_cmp o_is (e_var (i := 1)) e_non (hm := nobehind' (by decide) (by decide))) (ss_one (s_raise1 T.xa (k_LateError___init__ T) tk hr (by rfl) (by rfl) (by rfl) (by rfl) (a_cons (e_var (i := 4)) a_nil) (hj := (by decide)))) ss_nil)
    (ss_cons (s_set (i := 2) sc.nd (e_ix o_ix (e_callK (k_world_start T) tk hr (by rfl) T.g_world_start (a_cons (e_ix o_ix (e_var (i := 1)) e_int) (a_cons (e_ix o_ix (e_var (i := 1)) e_int) a_nil)) (hj := (by decide))) e_int))
    (ss_one s_continue)))) ss_nil)
    (ss_cons (s_set (i := 6) sc.nd (e_callK (k_wish_read T) tk hr (by rfl) T.g_wish_read (a_cons (e_m1 (T := "str") (n := "split") (id := "str.split") (fun _ _ _ _ _ => ty_str) PySem.F.plainAttrs_str PySem.F.slot_str_split PySem.F.type_str_split m_split (e_var (i := 5)) e_str) (a_cons (e_ix o_ix (e_var (i := 1)) e_int) (a_cons (e_var (i := 2)) a_nil))) (hj := (by decide))))
    (ss_cons (s_if (PW.pt (w_or (t_cmp o_is (e_var (i := 6)) e_non (hm := nobehind' (by decide) (by decide))) (w_or1 (t_cmp (o_eq (have h := hu30 hr; h)) (e_cb c_len (by rfl) T.b_len bt_len (p_cons (e_var (i := 3)) p_nil)) (e_gint' (by rfl) T.g_MOST_ASKS) (hm := nobehind' (by decide) (by decide)))))) (ss_one (s_raise1 T.xa (k_LateError___init__ T) tk hr (by rfl) (by rfl) (by rfl) (by rfl) (a_cons (e_var (i := 4)) a_nil) (hj := (by decide)))) ss_nil)
    (ss_one (s_drop (e_mut PySem.F.slot_list_append PySem.F.type_list_append m_app (e_var (i := 3)) (a_cons (e_var (i := 6)) a_nil)))))))))
    (ss_cons (s_if (t_cmp o_is (e_var (i := 1)) e_non (hm := nobehind' (by decide) (by decide))) (ss_one (s_raise1 T.xa (k_LateError___init__ T) tk hr (by rfl) (by rfl) (by rfl) (by rfl) (a_cons e_int a_nil) (hj := (by decide)))) ss_nil)
    (ss_one (s_ret (e_tup (a_cons (e_ix o_ix (e_var (i := 1)) e_int) (a_cons (e_ix o_ix (e_var (i := 1)) e_int) (a_cons (e_var (i := 3)) a_nil))))))))))))
theorem k__law_cell (T : Tx K mg A) : FK P w K mg base (caOf K) 1 A._law_cell ["_law_script", "_law_k"] F__law_cell :=
  fk_ok (k := 0) T.f__law_cell sc__law_cell rfl rfl fun cdv Ar outer s H E hr W tk po =>
    have sc := sc__law_cell
    (ss_cons (s_if (t_cmp o_lt (e_var (i := 1)) (e_cb c_len (by rfl) T.b_len bt_len (p_cons (e_var (i := 0)) p_nil)) (hm := nobehind' (by decide) (by decide))) (ss_one (s_ret (e_ix o_ix (e_var (i := 0)) (e_var (i := 1))))) ss_nil)
    (ss_one (s_ret e_int)))
theorem k__law_mixed (T : Tx K mg A) : FK P w K mg base (caOf K) 1 A._law_mixed ["_law_cell_here", "_law_k"] F__law_mixed :=
  fk_ok (k := 0) T.f__law_mixed sc__law_mixed rfl rfl fun cdv Ar outer s H E hr W tk po =>
    have sc := sc__law_mixed
    (ss_cons (s_set (i := 2) sc.nd (e_op o_mod (e_op o_add (e_op o_add (e_op o_mul (e_op o_mod (e_var (i := 0)) e_int) e_int) (e_op o_mul (e_op o_mul e_int (e_var (i := 1))) (e_var (i := 1)))) e_int) e_int))
    (ss_one (s_ret (e_op o_mod (e_op o_mul (e_var (i := 2)) (e_var (i := 2))) e_int))))
theorem k__law_whole (T : Tx K mg A) : FK P w K mg base (caOf K) 1 A._law_whole ["_law_found"] F__law_whole :=
  fk_ok (k := 0) T.f__law_whole sc__law_whole rfl rfl fun cdv Ar outer s H E hr W tk po =>
    have sc := sc__law_whole
    (ss_one (s_ret (e_and (e_isT (t := .int) (by rfl) T.b_isinstance (e_var (i := 0)) (pe_bltn (by rfl) T.b_int bt_int rfl (by decide +kernel) (by decide +kernel))) (e_one (e_not (e_isT (t := .bool) (by rfl) T.b_isinstance (e_var (i := 0)) (pe_bltn (by rfl) T.b_bool bt_bool rfl (by decide +kernel) (by decide +kernel))))))))
theorem kg__law_all_same (T : Tx K mg A) (n : Nat) (hrec : FK P w K mg base (caOf K) (1 + 2 * n) A._law_same ["_law_found", "_law_due"] (F__law_same n)) : FK P w K mg base (caOf K) (1 + 2 * n + 1) A._law_all_same ["_law_found", "_law_due"] (F__law_all_same n) :=
  fk_ok (k := 1 + 2 * n + 0) T.f__law_all_same sc__law_all_same rfl rfl fun cdv Ar outer s H E hr W tk po =>
    have sc := sc__law_all_same
    (ss_cons (s_for po rfl (q_zipH (by rfl) T.b_zip (a_cons (e_var (i := 0)) (a_cons (e_var (i := 1)) a_nil))) (g_tup rfl (gs_cons (g_name (i := 2) sc.nd) (gs_cons (g_name (i := 3) sc.nd) gs_nil)))
    (ss_one (s_if (t_not (t_val (e_callK hrec tk hr (by rfl) T.g__law_same (a_cons (e_var (i := 2)) (a_cons (e_var (i := 3)) a_nil)) (hj := (by omega))))) (ss_one (s_ret e_bl)) ss_nil)))
    (ss_one (s_ret e_bl)))
theorem kg__law_same (T : Tx K mg A) (n : Nat) (hrec : FK P w K mg base (caOf K) (1 + 2 * n) A._law_same ["_law_found", "_law_due"] (F__law_same n)) (hg__law_all_same : FK P w K mg base (caOf K) (1 + 2 * n + 1) A._law_all_same ["_law_found", "_law_due"] (F__law_all_same n)) : FK P w K mg base (caOf K) (1 + 2 * n + 1 + 1) A._law_same ["_law_found", "_law_due"] (F__law_same (n + 1)) :=
  fk_ok (k := 1 + 2 * n + 1) T.f__law_same sc__law_same rfl rfl fun cdv Ar outer s H E hr W tk po =>
    have sc := sc__law_same
    (ss_cons (s_if (t_val (e_isT (t := .tuple) (by rfl) T.b_isinstance (e_var (i := 1)) (pe_bltn (by rfl) T.b_tuple bt_tuple rfl (by decide +kernel) (by decide +kernel)))) (ss_one (s_ret (e_and (e_isT (t := .tuple) (by rfl) T.b_isinstance (e_var (i := 0)) (pe_bltn (by rfl) T.b_tuple bt_tuple rfl (by decide +kernel) (by decide +kernel))) (e_and (e_cmp (o_eq (have h := hu30 hr; h)) (e_cb c_len (by rfl) T.b_len bt_len (p_cons (e_var (i := 0)) p_nil)) (e_cb c_len (by rfl) T.b_len bt_len (p_cons (e_var (i := 1)) p_nil)) (hm := nobehind' (by decide) (by decide))) (e_one (e_callK hg__law_all_same tk hr (by rfl) T.g__law_all_same (a_cons (e_cty c_list (by rfl) T.b_list bt_list (p_cons (e_var (i := 0)) p_nil)) (a_cons (e_cty c_list (by rfl) T.b_list bt_list (p_cons (e_var (i := 1)) p_nil)) a_nil)) (hj := (by omega)))))))) ss_nil)
    (ss_cons (s_if (t_val (e_isT (t := .list) (by rfl) T.b_isinstance (e_var (i := 1)) (pe_bltn (by rfl) T.b_list bt_list rfl (by decide +kernel) (by decide +kernel)))) (ss_one (s_ret (e_and (e_isT (t := .list) (by rfl) T.b_isinstance (e_var (i := 0)) (pe_bltn (by rfl) T.b_list bt_list rfl (by decide +kernel) (by decide +kernel))) (e_and (e_cmp (o_eq (have h := hu30 hr; h)) (e_cb c_len (by rfl) T.b_len bt_len (p_cons (e_var (i := 0)) p_nil)) (e_cb c_len (by rfl) T.b_len bt_len (p_cons (e_var (i := 1)) p_nil)) (hm := nobehind' (by decide) (by decide))) (e_one (e_callK hg__law_all_same tk hr (by rfl) T.g__law_all_same (a_cons (e_var (i := 0)) (a_cons (e_var (i := 1)) a_nil)) (hj := (by omega)))))))) ss_nil)
    (ss_cons (s_if (t_val (e_isT (t := .str) (by rfl) T.b_isinstance (e_var (i := 1)) (pe_bltn (by rfl) T.b_str bt_str rfl (by decide +kernel) (by decide +kernel)))) (ss_one (s_ret (e_and (e_isT (t := .str) (by rfl) T.b_isinstance (e_var (i := 0)) (pe_bltn (by rfl) T.b_str bt_str rfl (by decide +kernel) (by decide +kernel))) (e_one (e_cmp (o_eq (have h := hu30 hr; h)) (e_var (i := 0)) (e_var (i := 1)) (hm := nobehind' (by decide) (by decide))))))) ss_nil)
    (ss_one (s_ret (e_and (e_callK (k__law_whole T) tk hr (by rfl) T.g__law_whole (a_cons (e_var (i := 0)) a_nil) (hj := (by omega))) (e_one (e_cmp (o_eq (have h := hu30 hr; h)) (e_var (i := 0)) (e_var (i := 1)) (hm := nobehind' (by decide) (by decide))))))))))
theorem k__law_same (T : Tx K mg A) (n : Nat) : FK P w K mg base (caOf K) (1 + 2 * n) A._law_same ["_law_found", "_law_due"] (F__law_same n) := by
  induction n with
  | zero => exact (fk_stuck T.f__law_same).mono (by omega)
  | succ n ih =>
    have hg__law_all_same := kg__law_all_same T n ih
    exact (kg__law_same T n ih hg__law_all_same).mono (by omega)
theorem k__law_all_same (T : Tx K mg A) (n : Nat) : FK P w K mg base (caOf K) (1 + 2 * n + 1) A._law_all_same ["_law_found", "_law_due"] (F__law_all_same n) :=
  kg__law_all_same T n (k__law_same T n)
theorem k__law_amount (T : Tx K mg A) : FK P w K mg base (caOf K) 2 A._law_amount ["_law_cell_here", "_law_k"] F__law_amount :=
  fk_ok (k := 1) T.f__law_amount sc__law_amount rfl rfl fun cdv Ar outer s H E hr W tk po =>
    have sc := sc__law_amount
    (ss_cons (s_set (i := 2) sc.nd (e_callK (k__law_mixed T) tk hr (by rfl) T.g__law_mixed (a_cons (e_var (i := 0)) (a_cons (e_var (i := 1)) a_nil)) (hj := (by decide))))
    (ss_cons (s_if (t_cmp o_lt (e_op o_mod (e_var (i := 2)) e_int) e_int (hm := nobehind' (by decide) (by decide))) (ss_one (s_ret (e_op o_mod (e_op o_div (e_var (i := 2)) e_int) e_int))) ss_nil)
    (ss_cons (s_if (t_cmp (o_eq (have h := hu30 hr; h)) (e_op o_mod (e_var (i := 2)) e_int) e_int (hm := nobehind' (by decide) (by decide))) (ss_one (s_ret (e_ix o_ix (e_lst (a_cons (e_op o_pow e_int e_int) (a_cons (e_op o_sub (e_op o_pow e_int e_int) e_int) (a_cons e_int (a_cons e_int a_nil))))) (e_op o_mod (e_op o_div (e_var (i := 2)) e_int) e_int)))) ss_nil)
    (ss_one (s_ret (e_op o_mod (e_op o_mul (e_op o_add (e_var (i := 0)) (e_var (i := 2))) (e_op o_pow e_int e_int)) (e_op o_add (e_op o_pow e_int e_int) e_int)))))))
theorem k__law_place (T : Tx K mg A) : FK P w K mg base (caOf K) 3 A._law_place ["_law_cell_here", "_law_k"] F__law_place :=
  fk_ok (k := 2) T.f__law_place sc__law_place rfl rfl fun cdv Ar outer s H E hr W tk po =>
    have sc := sc__law_place
    (ss_one (s_ret (e_op o_mul (e_callK (k__law_amount T) tk hr (by rfl) T.g__law_amount (a_cons (e_var (i := 0)) (a_cons (e_var (i := 1)) a_nil)) (hj := (by decide))) (e_op o_sub e_int (e_op o_mul e_int (e_op o_mod (e_op o_div (e_callK (k__law_mixed T) tk hr (by rfl) T.g__law_mixed (a_cons (e_var (i := 0)) (a_cons (e_op o_add (e_var (i := 1)) e_int) a_nil)) (hj := (by decide))) e_int) e_int))))))
theorem k__law_names (T : Tx K mg A) : FK P w K mg base (caOf K) 1 A._law_names ["_law_number", "_law_many"] F__law_names :=
  fk_ok (k := 0) T.f__law_names sc__law_names rfl rfl fun cdv Ar outer s H E hr W tk po =>
    have sc := sc__law_names
    (ss_cons (s_set (i := 2) sc.nd (e_slS (e_ix o_ix (e_lst (a_cons e_str (a_cons e_str (a_cons e_str (a_cons e_str a_nil))))) (e_op o_mod (e_var (i := 0)) e_int)) p_no (p_some (e_op o_add e_int (e_op o_mod (e_op o_div (e_var (i := 0)) e_int) e_int)))))
    (ss_cons (s_set (i := 3) sc.nd (e_op o_mod (e_op o_div (e_var (i := 0)) e_int) (e_cb c_len (by rfl) T.b_len bt_len (p_cons (e_var (i := 2)) p_nil))))
    (ss_cons (s_own (i := 4) sc.nd (e_lst a_nil))
    (ss_cons (s_for po rfl (q_r1 (by rfl) T.b_range (a_cons (e_var (i := 1)) a_nil)) (g_name (i := 5) sc.nd)
    (ss_cons (s_set (i := 6) sc.nd (e_ix o_ix e_str (e_op o_mod (e_op o_add (e_op o_div (e_var (i := 0)) e_int) (e_op o_mul e_int (e_var (i := 5)))) e_int)))
    (ss_one (s_drop (e_mut PySem.F.slot_list_append PySem.F.type_list_append m_app (e_var (i := 4)) (a_cons (e_op o_add (e_op o_add (e_slS (e_var (i := 2)) p_no (p_some (e_var (i := 3)))) (e_var (i := 6))) (e_slS (e_var (i := 2)) (p_some (e_op o_add (e_var (i := 3)) e_int)) p_no)) a_nil))))))
    (ss_one (s_ret (e_var (i := 4))))))))
theorem k__law_start (T : Tx K mg A) : FK P w K mg base (caOf K) 4 A._law_start ["_law_script"] F__law_start :=
  fk_ok (k := 3) T.f__law_start sc__law_start rfl rfl fun cdv Ar outer s H E hr W tk po =>
    have sc := sc__law_start
    (ss_cons (s_set (i := 1) sc.nd (e_callK (k__law_cell T) tk hr (by rfl) T.g__law_cell (a_cons (e_var (i := 0)) (a_cons e_int a_nil)) (hj := (by decide))))
    (ss_cons (s_set (i := 2) sc.nd (e_callK (k__law_mixed T) tk hr (by rfl) T.g__law_mixed (a_cons (e_var (i := 1)) (a_cons e_int a_nil)) (hj := (by decide))))
    (ss_cons (s_set (i := 3) sc.nd (e_ix o_ix (e_lst (a_cons e_str (a_cons e_str (a_cons e_str (a_cons e_str (a_cons e_str (a_cons e_str a_nil))))))) (e_op o_mod (e_callK (k__law_mixed T) tk hr (by rfl) T.g__law_mixed (a_cons (e_callK (k__law_cell T) tk hr (by rfl) T.g__law_cell (a_cons (e_var (i := 0)) (a_cons e_int a_nil)) (hj := (by decide))) (a_cons e_int a_nil)) (hj := (by decide))) e_int)))
    (ss_cons (s_if (t_cmp (o_eq (have h := hu30 hr; h)) (e_var (i := 3)) e_str (hm := nobehind' (by decide) (by decide))) (ss_one (s_ret (e_tup (a_cons (e_var (i := 3)) (a_cons (e_cty c_tuple (by rfl) T.b_tuple bt_tuple (p_cons (e_cb (c_sorted (have h := hu30 hr; h)) (by rfl) T.b_sorted bt_sorted (p_cons (e_lc rfl sc.nd (q_r1 (by rfl) T.b_range (a_cons (e_op o_add e_int (e_op o_mod (e_var (i := 2)) e_int)) a_nil)) (blkOk_by (own := [("_law_j", 4)]) (by rfl)) (vs := [4]) rfl (fun s H C cl fp => (h_name (i := 4) sc.nd (by decide))) (fun s H C cl fp tk => (e_callK (k__law_place T) tk hr (by rfl) T.g__law_place (a_cons (e_var (i := 1)) (a_cons (e_op o_add e_int (e_var (i := 4))) a_nil)) (hj := (by decide))))) p_nil)) p_nil)) a_nil))))) ss_nil)
    (ss_cons (s_if (PW.pt (w_or (t_cmp (o_eq (have h := hu30 hr; h)) (e_var (i := 3)) e_str (hm := nobehind' (by decide) (by decide))) (w_or1 (t_cmp (o_eq (have h := hu30 hr; h)) (e_var (i := 3)) e_str (hm := nobehind' (by decide) (by decide)))))) (ss_one (s_ret (e_tup (a_cons (e_var (i := 3)) (a_cons (e_cty c_tuple (by rfl) T.b_tuple bt_tuple (p_cons (e_callK (k__law_names T) tk hr (by rfl) T.g__law_names (a_cons (e_op o_div (e_var (i := 2)) e_int) (a_cons (e_op o_add e_int (e_op o_mod (e_var (i := 2)) e_int)) a_nil)) (hj := (by decide))) p_nil)) a_nil))))) ss_nil)
    (ss_cons (s_if (t_cmp (o_eq (have h := hu30 hr; h)) (e_var (i := 3)) e_str (hm := nobehind' (by decide) (by decide))) (ss_one (s_ret (e_tup (a_cons (e_var (i := 3)) (a_cons (e_tup (a_cons (e_op o_add e_int (e_op o_mod (e_var (i := 2)) e_int)) (a_cons (e_callK (k__law_amount T) tk hr (by rfl) T.g__law_amount (a_cons (e_var (i := 1)) (a_cons e_int a_nil)) (hj := (by decide))) (a_cons (e_op o_mod (e_op o_div (e_var (i := 2)) e_int) (e_op o_add e_int (e_op o_mod (e_var (i := 2)) e_int))) a_nil)))) a_nil))))) ss_nil)
    (ss_one (s_ret (e_tup (a_cons (e_var (i := 3)) (a_cons (e_tup (a_cons (e_cb (c_max rfl) (by rfl) T.b_max bt_max (p_cons e_int (p_cons (e_callK (k__law_amount T) tk hr (by rfl) T.g__law_amount (a_cons (e_var (i := 1)) (a_cons e_int a_nil)) (hj := (by decide))) p_nil))) a_nil)) a_nil)))))))))))
theorem k__law_wish (T : Tx K mg A) : FK P w K mg base (caOf K) 4 A._law_wish ["_law_word", "_law_start_here", "_law_cell_here", "_law_k"] F__law_wish :=
  fk_ok (k := 3) T.f__law_wish sc__law_wish rfl rfl fun cdv Ar outer s H E hr W tk po =>
    have sc := sc__law_wish
    (ss_cons (s_set (i := 4) sc.nd (e_callK (k__law_mixed T) tk hr (by rfl) T.g__law_mixed (a_cons (e_var (i := 2)) (a_cons (e_var (i := 3)) a_nil)) (hj := (by decide))))
    (ss_cons (s_if (t_cmp (o_eq (have h := hu30 hr; h)) (e_var (i := 0)) e_str (hm := nobehind' (by decide) (by decide))) (ss_one (s_ret (e_ix o_ix (e_lst (a_cons (e_ix o_ix (e_var (i := 1)) (e_op o_mod (e_op o_div (e_var (i := 4)) e_int) (e_cb c_len (by rfl) T.b_len bt_len (p_cons (e_var (i := 1)) p_nil)))) (a_cons (e_callK (k__law_place T) tk hr (by rfl) T.g__law_place (a_cons (e_var (i := 2)) (a_cons (e_op o_add (e_var (i := 3)) e_int) a_nil)) (hj := (by decide))) a_nil))) (e_op o_mod (e_var (i := 4)) e_int)))) ss_nil)
    (ss_cons (s_if (t_cmp (o_eq (have h := hu30 hr; h)) (e_var (i := 0)) e_str (hm := nobehind' (by decide) (by decide))) (ss_one (s_ret (e_ix o_ix (e_var (i := 1)) (e_op o_mod (e_var (i := 4)) (e_cb c_len (by rfl) T.b_len bt_len (p_cons (e_var (i := 1)) p_nil)))))) ss_nil)
    (ss_cons (s_if (t_cmp (o_eq (have h := hu30 hr; h)) (e_var (i := 0)) e_str (hm := nobehind' (by decide) (by decide))) (ss_one (s_ret (e_ix o_ix (e_op o_add (e_cty c_list (by rfl) T.b_list bt_list (p_cons (e_var (i := 1)) p_nil)) (e_callK (k__law_names T) tk hr (by rfl) T.g__law_names (a_cons (e_op o_div (e_var (i := 4)) e_int) (a_cons e_int a_nil)) (hj := (by decide)))) (e_op o_mod (e_var (i := 4)) (e_op o_add (e_cb c_len (by rfl) T.b_len bt_len (p_cons (e_var (i := 1)) p_nil)) e_int))))) ss_nil)
    (ss_cons (s_if (t_cmp (o_eq (have h := hu30 hr; h)) (e_var (i := 0)) e_str (hm := nobehind' (by decide) (by decide))) (ss_one (s_ret (e_callK (k__law_amount T) tk hr (by rfl) T.g__law_amount (a_cons (e_var (i := 2)) (a_cons (e_op o_add (e_var (i := 3)) e_int) a_nil)) (hj := (by decide))))) ss_nil)
    (ss_cons (s_if (t_cmp (o_eq (have h := hu30 hr; h)) (e_var (i := 0)) e_str (hm := nobehind' (by decide) (by decide))) (ss_one (s_ret (e_cty c_tuple (by rfl) T.b_tuple bt_tuple (p_cons (e_lc rfl sc.nd (q_r1 (by rfl) T.b_range (a_cons (e_ix o_ix (e_var (i := 1)) e_int) a_nil)) (blkOk_by (own := [("_law_j", 5)]) (by rfl)) (vs := [5]) rfl (fun s H C cl fp => (h_name (i := 5) sc.nd (by decide))) (fun s H C cl fp tk => (e_callK (k__law_amount T) tk hr (by rfl) T.g__law_amount (a_cons (e_var (i := 2)) (a_cons (e_op o_add (e_op o_add (e_op o_mul e_int (e_var (i := 3))) e_int) (e_var (i := 5))) a_nil)) (hj := (by decide))))) p_nil)))) ss_nil)
    (ss_one (s_ret (e_op o_add e_int (e_op o_mod (e_callK (k__law_amount T) tk hr (by rfl) T.g__law_amount (a_cons (e_var (i := 2)) (a_cons (e_op o_add (e_var (i := 3)) e_int) a_nil)) (hj := (by decide))) (e_ix o_ix (e_var (i := 1)) e_int)))))))))))
theorem k__law_words (T : Tx K mg A) : FK P w K mg base (caOf K) 1 A._law_words ["_law_thing"] F__law_words :=
  fk_ok (k := 0) T.f__law_words sc__law_words rfl rfl fun cdv Ar outer s H E hr W tk po =>
    have sc := sc__law_words
    (ss_cons (s_if (t_val (e_isT (t := .tuple) (by rfl) T.b_isinstance (e_var (i := 0)) (pe_bltn (by rfl) T.b_tuple bt_tuple rfl (by decide +kernel) (by decide +kernel)))) (ss_one (s_ret (e_m1 (T := "str") (n := "join") (id := "str.join") (fun _ _ _ _ _ => ty_str) PySem.F.plainAttrs_str PySem.F.slot_str_join PySem.F.type_str_join m_join e_str (e_lc rfl sc.nd (q_e (e_var (i := 0))) (blkOk_by (own := [("_law_part", 1)]) (by rfl)) (vs := [1]) rfl (fun s H C cl fp => (h_name (i := 1) sc.nd (by decide))) (fun s H C cl fp tk => (e_cty c_str (by rfl) T.b_str bt_str (p_cons (e_var (i := 1)) p_nil))))))) ss_nil)
    (ss_one (s_ret (e_cty c_str (by rfl) T.b_str bt_str (p_cons (e_var (i := 0)) p_nil)))))
theorem k__law_lines (T : Tx K mg A) : FK P w K mg base (caOf K) 2 A._law_lines ["_law_word", "_law_start_here", "_law_wishes"] F__law_lines :=
  fk_ok (k := 1) T.f__law_lines sc__law_lines rfl rfl fun cdv Ar outer s H E hr W tk po =>
    have sc := sc__law_lines
    (ss_one (s_ret (e_op o_add (e_lst (a_cons (e_op o_add (e_op o_add (e_var (i := 0)) e_str) (e_callK (k__law_words T) tk hr (by rfl) T.g__law_words (a_cons (e_var (i := 1)) a_nil) (hj := (by decide)))) a_nil)) (e_lc rfl sc.nd (q_e (e_var (i := 2))) (blkOk_by (own := [("_law_wish_here", 3)]) (by rfl)) (vs := [3]) rfl (fun s H C cl fp => (h_name (i := 3) sc.nd (by decide))) (fun s H C cl fp tk => (e_op o_add e_str (e_callK (k__law_words T) tk hr (by rfl) T.g__law_words (a_cons (e_var (i := 3)) a_nil) (hj := (by decide)))))))))
theorem k__law_text (T : Tx K mg A) : FK P w K mg base (caOf K) 2 A._law_text ["_law_script", "_law_lines_here"] F__law_text :=
  fk_ok (k := 1) T.f__law_text sc__law_text rfl rfl fun cdv Ar outer s H E hr W tk po =>
    have sc := sc__law_text
    (ss_cons (s_own (i := 2) sc.nd (e_lst a_nil))
    (ss_cons (s_for po rfl (q_r1 (by rfl) T.b_range (a_cons (e_cb c_len (by rfl) T.b_len bt_len (p_cons (e_var (i := 1)) p_nil)) a_nil)) (g_name (i := 3) sc.nd)
    (ss_cons (s_own (i := 2) sc.nd (e_op o_add (e_var (i := 2)) (e_op o_repV (e_lst (a_cons e_str a_nil)) (e_ix o_ix (e_lst (a_cons e_int (a_cons e_int (a_cons e_int (a_cons e_int (a_cons e_int a_nil)))))) (e_op o_mod (e_callK (k__law_mixed T) tk hr (by rfl) T.g__law_mixed (a_cons (e_callK (k__law_cell T) tk hr (by rfl) T.g__law_cell (a_cons (e_var (i := 0)) (a_cons e_int a_nil)) (hj := (by decide))) (a_cons (e_op o_add e_int (e_var (i := 3))) a_nil)) (hj := (by decide))) e_int)))))
    (ss_one (s_drop (e_mut PySem.F.slot_list_append PySem.F.type_list_append m_app (e_var (i := 2)) (a_cons (e_ix o_ix (e_var (i := 1)) (e_var (i := 3))) a_nil))))))
    (ss_one (s_ret (e_m1 (T := "str") (n := "join") (id := "str.join") (fun _ _ _ _ _ => ty_str) PySem.F.plainAttrs_str PySem.F.slot_str_join PySem.F.type_str_join m_join e_str (e_op o_add (e_var (i := 2)) (e_op o_repV (e_lst (a_cons e_str a_nil)) (e_op o_mod (e_callK (k__law_mixed T) tk hr (by rfl) T.g__law_mixed (a_cons (e_callK (k__law_cell T) tk hr (by rfl) T.g__law_cell (a_cons (e_var (i := 0)) (a_cons e_int a_nil)) (hj := (by decide))) (a_cons e_int a_nil)) (hj := (by decide))) e_int))))))))
theorem k_law (T : Tx K mg A) {fd : FuncData} (F : Fun K "law" "law" s_law A.law fd) : FnOk P w K mg base (L2.CX P w) 14 A.law fd ["_law_script"] (spF K (caOf K) 1 F_law) :=
  fn_ok (k := 13) F sc_law rfl rfl fun cdv Ar outer s H E hr W _ tk po =>
    have sc := sc_law
    (ss_cons (s_tgt (g_tup rfl (gs_cons (g_name (i := 1) sc.nd) (gs_cons (g_name (i := 2) sc.nd) gs_nil))) (e_callK (k__law_start T) tk hr (by rfl) T.g__law_start (a_cons (e_var (i := 0)) a_nil) (hj := (by decide))))
    (ss_cons (s_set (i := 3) sc.nd (e_slR (e_var (i := 0)) (p_some e_int) (p_some e_int)))
    (ss_cons (s_setLc (i := 4) rfl sc.nd rfl (by rfl) (sw_true rfl (by rfl) (by rfl) (by rfl)) (q_r1 (by rfl) T.b_range (a_cons (e_cb c_len (by rfl) T.b_len bt_len (p_cons (e_var (i := 3)) p_nil)) a_nil)) (blkOk_by (own := [("_law_k", 8)]) (by rfl)) (vs := [8]) rfl (fun s H C cl fp => (h_name (i := 8) sc.nd (by decide))) (fun s H C cl fp tk => (e_callK (k__law_wish T) tk hr (by rfl) T.g__law_wish (a_cons (e_var (i := 1)) (a_cons (e_var (i := 2)) (a_cons (e_ix o_ix (e_var (i := 3)) (e_var (i := 8))) (a_cons (e_op o_add (e_var (i := 8)) e_int) a_nil)))) (hj := (by decide)))))
    (ss_cons (s_set (i := 5) sc.nd (e_callK (k__law_mixed T) tk hr (by rfl) T.g__law_mixed (a_cons (e_callK (k__law_cell T) tk hr (by rfl) T.g__law_cell (a_cons (e_var (i := 0)) (a_cons e_int a_nil)) (hj := (by decide))) (a_cons e_int a_nil)) (hj := (by decide))))
    (ss_cons (s_if (PW.pt (w_and (t_cmp (o_eq (have h := hu30 hr; h)) (e_op o_mod (e_var (i := 5)) e_int) e_int (hm := nobehind' (by decide) (by decide))) (w_and (t_cmp (o_neW (have h := hu30 hr; h)) (e_var (i := 4)) (e_lst a_nil) (hm := nobehind' (by decide) (by decide))) (w_and1 (PW.pt (w_or (t_cmp o_ne (e_var (i := 1)) e_str (hm := nobehind' (by decide) (by decide))) (w_or1 (t_cmp o_lt (e_ix o_ix (e_var (i := 2)) e_int) e_int (hm := nobehind' (by decide) (by decide)))))))))) (ss_one (s_set (i := 4) sc.nd (e_op o_add (e_var (i := 4)) (e_op o_repV (e_lst (a_cons (e_ix o_ix (e_var (i := 4)) (e_neg e_int)) a_nil)) (e_op o_sub (e_op o_sub e_int (e_op o_mod (e_op o_div (e_var (i := 5)) e_int) e_int)) (e_cb c_len (by rfl) T.b_len bt_len (p_cons (e_var (i := 4)) p_nil))))))) ss_nil)
    (ss_cons (s_set (i := 6) sc.nd (e_callK (k__law_text T) tk hr (by rfl) T.g__law_text (a_cons (e_var (i := 0)) (a_cons (e_callK (k__law_lines T) tk hr (by rfl) T.g__law_lines (a_cons (e_var (i := 1)) (a_cons (e_var (i := 2)) (a_cons (e_var (i := 4)) a_nil))) (hj := (by decide))) a_nil)) (hj := (by decide))))
    (ss_cons (s_set (i := 7) sc.nd (e_callK (k_read_game T) tk hr (by rfl) T.g_read_game (a_cons (e_var (i := 6)) a_nil) (hj := (by decide))))
    (ss_cons (s_if (t_not (t_val (e_callK (k__law_same T 6) tk hr (by rfl) T.g__law_same (a_cons (e_var (i := 7)) (a_cons (e_tup (a_cons (e_var (i := 1)) (a_cons (e_var (i := 2)) (a_cons (e_var (i := 4)) a_nil)))) a_nil)) (hj := (by decide))))) (ss_one (s_ret e_bl)) ss_nil)
    (ss_cons (s_if (t_not (t_val (e_callK (k__law_same T 6) tk hr (by rfl) T.g__law_same (a_cons (e_callK (k_read_game T) tk hr (by rfl) T.g_read_game (a_cons e_str a_nil) (hj := (by decide))) (a_cons (e_tup (a_cons e_str (a_cons (e_tup (a_cons e_int a_nil)) (a_cons (e_lst (a_cons e_int (a_cons e_int a_nil))) a_nil)))) a_nil)) (hj := (by decide))))) (ss_one (s_ret e_bl)) ss_nil)
    (ss_cons (s_drop (e_mut PySem.F.slot_list_append PySem.F.type_list_append m_app (e_ix o_ix (e_var (i := 7)) e_int) (a_cons e_int a_nil)))
    (ss_one (s_ret (e_and (e_callK (k__law_same T 6) tk hr (by rfl) T.g__law_same (a_cons (e_callK (k_read_game T) tk hr (by rfl) T.g_read_game (a_cons (e_var (i := 6)) a_nil) (hj := (by decide))) (a_cons (e_tup (a_cons (e_var (i := 1)) (a_cons (e_var (i := 2)) (a_cons (e_var (i := 4)) a_nil)))) a_nil)) (hj := (by decide))) (e_one (e_cmp (o_eq (have h := hu30 hr; h)) (e_cb c_len (by rfl) T.b_len bt_len (p_cons (e_ix o_ix (e_var (i := 7)) e_int) p_nil)) (e_op o_add (e_cb c_len (by rfl) T.b_len bt_len (p_cons (e_var (i := 4)) p_nil)) e_int) (hm := nobehind' (by decide) (by decide)))))))))))))))))
end
theorem all_mk {K : PySem.W.Frag} {h : Heap} {mg : Str → Option Value} {fa : Addr} (X : K.In h) (G : h.Ns mainGlobals mg) (hfa : mg "law" = some (.ref fa))
    {f0 f1 f2 f3 f4 f5 f6 f7 f8 f9 f10 f11 f12 f13 f14 f15 f16 f17 f18 f19 f20 f21 f22 f23 f24 f25 f26 f27 f28 f29 f30 f31 f32 f33 f34 f35 f36 f37 f38 f39 f40 f41 f42 f43 f44 f45 f46 f47 f48 C0 C1 C2 C3 C4 C5 C6 C7 C8 C9 C10 C11 C12 C13 C14 C15 : Addr}
    {odf0 anf0 : Option Addr} {slf0 : Array (Option Value)} {ocf0 kVf0 dcf0 pmf0 cdf0 ctf0 : Value}
    {odf1 anf1 : Option Addr} {slf1 : Array (Option Value)} {ocf1 kVf1 dcf1 pmf1 cdf1 ctf1 : Value}
    {odf2 anf2 : Option Addr} {slf2 : Array (Option Value)} {ocf2 kVf2 dcf2 pmf2 cdf2 ctf2 : Value}
    {odf3 anf3 : Option Addr} {slf3 : Array (Option Value)} {ocf3 kVf3 dcf3 pmf3 cdf3 ctf3 : Value}
    {odf4 anf4 : Option Addr} {slf4 : Array (Option Value)} {ocf4 kVf4 dcf4 pmf4 cdf4 ctf4 : Value}
    {odf5 anf5 : Option Addr} {slf5 : Array (Option Value)} {ocf5 kVf5 dcf5 pmf5 cdf5 ctf5 : Value}
    {odf6 anf6 : Option Addr} {slf6 : Array (Option Value)} {ocf6 kVf6 dcf6 pmf6 cdf6 ctf6 : Value}
    {odf7 anf7 : Option Addr} {slf7 : Array (Option Value)} {ocf7 kVf7 dcf7 pmf7 cdf7 ctf7 : Value}
    {odf8 anf8 : Option Addr} {slf8 : Array (Option Value)} {ocf8 kVf8 dcf8 pmf8 cdf8 ctf8 : Value}
    {odf9 anf9 : Option Addr} {slf9 : Array (Option Value)} {ocf9 kVf9 dcf9 pmf9 cdf9 ctf9 : Value}
    {odf10 anf10 : Option Addr} {slf10 : Array (Option Value)} {ocf10 kVf10 dcf10 pmf10 cdf10 ctf10 : Value}
    {odf11 anf11 : Option Addr} {slf11 : Array (Option Value)} {ocf11 kVf11 dcf11 pmf11 cdf11 ctf11 : Value}
    {odf12 anf12 : Option Addr} {slf12 : Array (Option Value)} {ocf12 kVf12 dcf12 pmf12 cdf12 ctf12 : Value}
    {odf13 anf13 : Option Addr} {slf13 : Array (Option Value)} {ocf13 kVf13 dcf13 pmf13 cdf13 ctf13 : Value}
    {odf14 anf14 : Option Addr} {slf14 : Array (Option Value)} {ocf14 kVf14 dcf14 pmf14 cdf14 ctf14 : Value}
    {odf15 anf15 : Option Addr} {slf15 : Array (Option Value)} {ocf15 kVf15 dcf15 pmf15 cdf15 ctf15 : Value}
    {odf16 anf16 : Option Addr} {slf16 : Array (Option Value)} {ocf16 kVf16 dcf16 pmf16 cdf16 ctf16 : Value}
    {odf17 anf17 : Option Addr} {slf17 : Array (Option Value)} {ocf17 kVf17 dcf17 pmf17 cdf17 ctf17 : Value}
    {odf18 anf18 : Option Addr} {slf18 : Array (Option Value)} {ocf18 kVf18 dcf18 pmf18 cdf18 ctf18 : Value}
    {odf19 anf19 : Option Addr} {slf19 : Array (Option Value)} {ocf19 kVf19 dcf19 pmf19 cdf19 ctf19 : Value}
    {odf20 anf20 : Option Addr} {slf20 : Array (Option Value)} {ocf20 kVf20 dcf20 pmf20 cdf20 ctf20 : Value}
    {odf21 anf21 : Option Addr} {slf21 : Array (Option Value)} {ocf21 kVf21 dcf21 pmf21 cdf21 ctf21 : Value}
    {odf22 anf22 : Option Addr} {slf22 : Array (Option Value)} {ocf22 kVf22 dcf22 pmf22 cdf22 ctf22 : Value}
    {odf23 anf23 : Option Addr} {slf23 : Array (Option Value)} {ocf23 kVf23 dcf23 pmf23 cdf23 ctf23 : Value}
    {odf24 anf24 : Option Addr} {slf24 : Array (Option Value)} {ocf24 kVf24 dcf24 pmf24 cdf24 ctf24 : Value}
    {odf25 anf25 : Option Addr} {slf25 : Array (Option Value)} {ocf25 kVf25 dcf25 pmf25 cdf25 ctf25 : Value}
    {odf26 anf26 : Option Addr} {slf26 : Array (Option Value)} {ocf26 kVf26 dcf26 pmf26 cdf26 ctf26 : Value}
    {odf27 anf27 : Option Addr} {slf27 : Array (Option Value)} {ocf27 kVf27 dcf27 pmf27 cdf27 ctf27 : Value}
    {odf28 anf28 : Option Addr} {slf28 : Array (Option Value)} {ocf28 kVf28 dcf28 pmf28 cdf28 ctf28 : Value}
    {odf29 anf29 : Option Addr} {slf29 : Array (Option Value)} {ocf29 kVf29 dcf29 pmf29 cdf29 ctf29 : Value}
    {odf30 anf30 : Option Addr} {slf30 : Array (Option Value)} {ocf30 kVf30 dcf30 pmf30 cdf30 ctf30 : Value}
    {odf31 anf31 : Option Addr} {slf31 : Array (Option Value)} {ocf31 kVf31 dcf31 pmf31 cdf31 ctf31 : Value}
    {odf32 anf32 : Option Addr} {slf32 : Array (Option Value)} {ocf32 kVf32 dcf32 pmf32 cdf32 ctf32 : Value}
    {odf33 anf33 : Option Addr} {slf33 : Array (Option Value)} {ocf33 kVf33 dcf33 pmf33 cdf33 ctf33 : Value}
    {odf34 anf34 : Option Addr} {slf34 : Array (Option Value)} {ocf34 kVf34 dcf34 pmf34 cdf34 ctf34 : Value}
    {odf35 anf35 : Option Addr} {slf35 : Array (Option Value)} {ocf35 kVf35 dcf35 pmf35 cdf35 ctf35 : Value}
    {odf36 anf36 : Option Addr} {slf36 : Array (Option Value)} {ocf36 kVf36 dcf36 pmf36 cdf36 ctf36 : Value}
    {odf37 anf37 : Option Addr} {slf37 : Array (Option Value)} {ocf37 kVf37 dcf37 pmf37 cdf37 ctf37 : Value}
    {odf38 anf38 : Option Addr} {slf38 : Array (Option Value)} {ocf38 kVf38 dcf38 pmf38 cdf38 ctf38 : Value}
    {odf39 anf39 : Option Addr} {slf39 : Array (Option Value)} {ocf39 kVf39 dcf39 pmf39 cdf39 ctf39 : Value}
    {odf40 anf40 : Option Addr} {slf40 : Array (Option Value)} {ocf40 kVf40 dcf40 pmf40 cdf40 ctf40 : Value}
    {odf41 anf41 : Option Addr} {slf41 : Array (Option Value)} {ocf41 kVf41 dcf41 pmf41 cdf41 ctf41 : Value}
    {odf42 anf42 : Option Addr} {slf42 : Array (Option Value)} {ocf42 kVf42 dcf42 pmf42 cdf42 ctf42 : Value}
    {odf43 anf43 : Option Addr} {slf43 : Array (Option Value)} {ocf43 kVf43 dcf43 pmf43 cdf43 ctf43 : Value}
    {odf44 anf44 : Option Addr} {slf44 : Array (Option Value)} {ocf44 kVf44 dcf44 pmf44 cdf44 ctf44 : Value}
    {odf45 anf45 : Option Addr} {slf45 : Array (Option Value)} {ocf45 kVf45 dcf45 pmf45 cdf45 ctf45 : Value}
    {odf46 anf46 : Option Addr} {slf46 : Array (Option Value)} {ocf46 kVf46 dcf46 pmf46 cdf46 ctf46 : Value}
    {odf47 anf47 : Option Addr} {slf47 : Array (Option Value)} {ocf47 kVf47 dcf47 pmf47 cdf47 ctf47 : Value}
    {odf48 anf48 : Option Addr} {slf48 : Array (Option Value)} {ocf48 kVf48 dcf48 pmf48 cdf48 ctf48 : Value}
    (zb_ValueError : PySem.W.nsIn K mainGlobals "ValueError" = some none)
    (zb_isinstance : PySem.W.nsIn K mainGlobals "isinstance" = some none)
    (zb_bool : PySem.W.nsIn K mainGlobals "bool" = some none)
    (zb_int : PySem.W.nsIn K mainGlobals "int" = some none)
    (zb_str : PySem.W.nsIn K mainGlobals "str" = some none)
    (zb_len : PySem.W.nsIn K mainGlobals "len" = some none)
    (zb_tuple : PySem.W.nsIn K mainGlobals "tuple" = some none)
    (zb_set : PySem.W.nsIn K mainGlobals "set" = some none)
    (zb_list : PySem.W.nsIn K mainGlobals "list" = some none)
    (zb_sorted : PySem.W.nsIn K mainGlobals "sorted" = some none)
    (zb_range : PySem.W.nsIn K mainGlobals "range" = some none)
    (zb_all : PySem.W.nsIn K mainGlobals "all" = some none)
    (zb_enumerate : PySem.W.nsIn K mainGlobals "enumerate" = some none)
    (zb_zip : PySem.W.nsIn K mainGlobals "zip" = some none)
    (zb_max : PySem.W.nsIn K mainGlobals "max" = some none)
    {t_GREATEST : Tok}
    (zg_GREATEST : PySem.W.nsIn K mainGlobals "GREATEST" = some (some (.int 1000000000000000000 t_GREATEST)))
    {t_LETTERS : Tok}
    (zg_LETTERS : PySem.W.nsIn K mainGlobals "LETTERS" = some (some (.str "abcdefghijklmnopqrstuvwxyz" t_LETTERS)))
    {t_MOST_FIGURES : Tok}
    (zg_MOST_FIGURES : PySem.W.nsIn K mainGlobals "MOST_FIGURES" = some (some (.int 19 t_MOST_FIGURES)))
    {t_FIGURES : Tok}
    (zg_FIGURES : PySem.W.nsIn K mainGlobals "FIGURES" = some (some (.str "0123456789" t_FIGURES)))
    {t_MOST_ASKS : Tok}
    (zg_MOST_ASKS : PySem.W.nsIn K mainGlobals "MOST_ASKS" = some (some (.int 200 t_MOST_ASKS)))
    (za_is_between : PySem.W.nsIn K mainGlobals "is_between" = some (some (.ref f1)))
    (za_is_amount : PySem.W.nsIn K mainGlobals "is_amount" = some (some (.ref f2)))
    (za_is_name : PySem.W.nsIn K mainGlobals "is_name" = some (some (.ref f3)))
    (za_are_names : PySem.W.nsIn K mainGlobals "are_names" = some (some (.ref f4)))
    (za_is_place : PySem.W.nsIn K mainGlobals "is_place" = some (some (.ref f12)))
    (za_are_places : PySem.W.nsIn K mainGlobals "are_places" = some (some (.ref f13)))
    (za_line_of : PySem.W.nsIn K mainGlobals "line_of" = some (some (.ref f14)))
    (za_sum_read : PySem.W.nsIn K mainGlobals "sum_read" = some (some (.ref f27)))
    (za_number_read : PySem.W.nsIn K mainGlobals "number_read" = some (some (.ref f28)))
    (za_rule_of : PySem.W.nsIn K mainGlobals "rule_of" = some (some (.ref f29)))
    (za_world_start : PySem.W.nsIn K mainGlobals "world_start" = some (some (.ref f30)))
    (za_many_fit : PySem.W.nsIn K mainGlobals "many_fit" = some (some (.ref f31)))
    (za_start_read : PySem.W.nsIn K mainGlobals "start_read" = some (some (.ref f32)))
    (za_wish_read : PySem.W.nsIn K mainGlobals "wish_read" = some (some (.ref f33)))
    (za_read_game : PySem.W.nsIn K mainGlobals "read_game" = some (some (.ref f34)))
    (za__law_cell : PySem.W.nsIn K mainGlobals "_law_cell" = some (some (.ref f35)))
    (za__law_mixed : PySem.W.nsIn K mainGlobals "_law_mixed" = some (some (.ref f36)))
    (za__law_whole : PySem.W.nsIn K mainGlobals "_law_whole" = some (some (.ref f37)))
    (za__law_same : PySem.W.nsIn K mainGlobals "_law_same" = some (some (.ref f38)))
    (za__law_all_same : PySem.W.nsIn K mainGlobals "_law_all_same" = some (some (.ref f39)))
    (za__law_amount : PySem.W.nsIn K mainGlobals "_law_amount" = some (some (.ref f40)))
    (za__law_place : PySem.W.nsIn K mainGlobals "_law_place" = some (some (.ref f41)))
    (za__law_names : PySem.W.nsIn K mainGlobals "_law_names" = some (some (.ref f42)))
    (za__law_start : PySem.W.nsIn K mainGlobals "_law_start" = some (some (.ref f43)))
    (za__law_wish : PySem.W.nsIn K mainGlobals "_law_wish" = some (some (.ref f44)))
    (za__law_words : PySem.W.nsIn K mainGlobals "_law_words" = some (some (.ref f45)))
    (za__law_lines : PySem.W.nsIn K mainGlobals "_law_lines" = some (some (.ref f46)))
    (za__law_text : PySem.W.nsIn K mainGlobals "_law_text" = some (some (.ref f47)))
    (za_law : PySem.W.nsIn K mainGlobals "law" = some (some (.ref f48)))
    {yTf26 : Addr} {yocf26 : Value} {yodf26 : Option Addr} {ynf26 : Nat} {yslf26 : Array (Option Value)} {ytkf26 : Tok}
    {xT : Addr} {xoc : Value} {xod : Option Addr} {xn : Nat} {xsl : Array (Option Value)}
    {nmC12 qC12 : Str} {NC12 : Addr} {bsC12 : List Value} {snC12 : List Str} {suC12 : List Value} {abC12 : Bool} {coC12 : Option Bool} {ddC12 : Option Addr} {kaC12 kbC12 kcC12 kdC12 keC12 : Option Value}
    {nmC13 qC13 : Str} {NC13 : Addr} {bsC13 : List Value} {snC13 : List Str} {suC13 : List Value} {abC13 : Bool} {coC13 : Option Bool} {ddC13 : Option Addr} {kaC13 kbC13 kcC13 kdC13 keC13 : Option Value}
    {nmC14 qC14 : Str} {NC14 : Addr} {bsC14 : List Value} {snC14 : List Str} {suC14 : List Value} {abC14 : Bool} {coC14 : Option Bool} {ddC14 : Option Addr} {kaC14 kbC14 kcC14 kdC14 keC14 : Option Value}
    (za_Bags : PySem.W.nsIn K mainGlobals "Bags" = some (some (.ref C0)))
    (za_Hire : PySem.W.nsIn K mainGlobals "Hire" = some (some (.ref C1)))
    (za_Line : PySem.W.nsIn K mainGlobals "Line" = some (some (.ref C2)))
    (za_Shelf : PySem.W.nsIn K mainGlobals "Shelf" = some (some (.ref C3)))
    (za_Store : PySem.W.nsIn K mainGlobals "Store" = some (some (.ref C4)))
    (za_Ways : PySem.W.nsIn K mainGlobals "Ways" = some (some (.ref C5)))
    (za_Filler : PySem.W.nsIn K mainGlobals "Filler" = some (some (.ref C6)))
    (za_Both : PySem.W.nsIn K mainGlobals "Both" = some (some (.ref C7)))
    (za_Front : PySem.W.nsIn K mainGlobals "Front" = some (some (.ref C8)))
    (za_Buyer : PySem.W.nsIn K mainGlobals "Buyer" = some (some (.ref C9)))
    (za_Changer : PySem.W.nsIn K mainGlobals "Changer" = some (some (.ref C10)))
    (za_Keeper : PySem.W.nsIn K mainGlobals "Keeper" = some (some (.ref C11)))
    (za_LateError : PySem.W.nsIn K mainGlobals "LateError" = some (some (.ref C12)))
    (za_NoState : PySem.W.nsIn K mainGlobals "NoState" = some (some (.ref C13)))
    (za_NoText : PySem.W.nsIn K mainGlobals "NoText" = some (some (.ref C14)))
    (za_Bound : PySem.W.nsIn K mainGlobals "Bound" = some (some (.ref C15)))
    (zxi_LateError : PySem.W.findIn K (.ref C12) "__init__" = some (some (.ref f0)))
    (zxi_NoState : PySem.W.findIn K (.ref C13) "__init__" = some (some (.ref f0)))
    (zxi_NoText : PySem.W.findIn K (.ref C14) "__init__" = some (some (.ref f0)))
    (zda_Bound___init__ : PySem.W.findCls K (.ref C15) (.type "type") "__init__" = some (.val (.ref f5)))
    (zi_Bags : PySem.W.findIn K (.ref C0) "__init__" = some (some (.ref f6)))
    (zif_Bags : PySem.W.isFn K (.ref f6) = true)
    (zi_Hire : PySem.W.findIn K (.ref C1) "__init__" = some (some (.ref f9)))
    (zif_Hire : PySem.W.isFn K (.ref f9) = true)
    (zi_Line : PySem.W.findIn K (.ref C2) "__init__" = some (some (.ref f15)))
    (zif_Line : PySem.W.isFn K (.ref f15) = true)
    (zi_Shelf : PySem.W.findIn K (.ref C3) "__init__" = some (some (.ref f18)))
    (zif_Shelf : PySem.W.isFn K (.ref f18) = true)
    (zi_Store : PySem.W.findIn K (.ref C4) "__init__" = some (some (.ref f21)))
    (zif_Store : PySem.W.isFn K (.ref f21) = true)
    (zi_Ways : PySem.W.findIn K (.ref C5) "__init__" = some (some (.ref f24)))
    (zif_Ways : PySem.W.isFn K (.ref f24) = true)
    (zi_Filler : PySem.W.findIn K (.ref C6) "__init__" = some (some (.ref f8)))
    (zif_Filler : PySem.W.isFn K (.ref f8) = true)
    (zi_Both : PySem.W.findIn K (.ref C7) "__init__" = some (some (.ref f17)))
    (zif_Both : PySem.W.isFn K (.ref f17) = true)
    (zi_Front : PySem.W.findIn K (.ref C8) "__init__" = some (some (.ref f20)))
    (zif_Front : PySem.W.isFn K (.ref f20) = true)
    (zi_Buyer : PySem.W.findIn K (.ref C9) "__init__" = some (some (.ref f11)))
    (zif_Buyer : PySem.W.isFn K (.ref f11) = true)
    (zi_Changer : PySem.W.findIn K (.ref C10) "__init__" = some (some (.ref f26)))
    (zif_Changer : PySem.W.isFn K (.ref f26) = true)
    (zi_Keeper : PySem.W.findIn K (.ref C11) "__init__" = some (some (.ref f23)))
    (zif_Keeper : PySem.W.isFn K (.ref f23) = true)
    (zm_Bags_is_wish : PySem.W.findIn K (.ref C0) "is_wish" = some (some (.ref f7)))
    (zmf_Bags_is_wish : PySem.W.isFn K (.ref f7) = true)
    (zm_Hire_is_wish : PySem.W.findIn K (.ref C1) "is_wish" = some (some (.ref f10)))
    (zmf_Hire_is_wish : PySem.W.isFn K (.ref f10) = true)
    (zm_Line_is_wish : PySem.W.findIn K (.ref C2) "is_wish" = some (some (.ref f16)))
    (zmf_Line_is_wish : PySem.W.isFn K (.ref f16) = true)
    (zm_Shelf_is_wish : PySem.W.findIn K (.ref C3) "is_wish" = some (some (.ref f19)))
    (zmf_Shelf_is_wish : PySem.W.isFn K (.ref f19) = true)
    (zm_Store_is_wish : PySem.W.findIn K (.ref C4) "is_wish" = some (some (.ref f22)))
    (zmf_Store_is_wish : PySem.W.isFn K (.ref f22) = true)
    (zm_Ways_is_wish : PySem.W.findIn K (.ref C5) "is_wish" = some (some (.ref f25)))
    (zmf_Ways_is_wish : PySem.W.isFn K (.ref f25) = true)
    (zl_LateError___init__ : K.lookup f0 = some ⟨ocf0, odf0, .func (PySem.W.fnOf "__init__" "LateError.__init__" (defArgs s_LateError___init__) (defBody s_LateError___init__) (defScope s_LateError___init__) (.ref xT) kVf0 dcf0 pmf0 anf0 cdf0 ctf0), slf0⟩)
    (zxt : K.lookup xT = some ⟨xoc, xod, .seq #[.none] xn, xsl⟩)
    (zc_LateError___init__ : PySem.W.codeIn K cdf0 "LateError.__init__" = true)
    (zk_LateError___init__ : PySem.W.keepIn K (.ref f0) = true)
    (zl_is_between : K.lookup f1 = some ⟨ocf1, odf1, .func (PySem.W.fnOf "is_between" "is_between" (defArgs s_is_between) (defBody s_is_between) (defScope s_is_between) .none kVf1 dcf1 pmf1 anf1 cdf1 ctf1), slf1⟩)
    (zc_is_between : PySem.W.codeIn K cdf1 "is_between" = true)
    (zk_is_between : PySem.W.keepIn K (.ref f1) = true)
    (zl_is_amount : K.lookup f2 = some ⟨ocf2, odf2, .func (PySem.W.fnOf "is_amount" "is_amount" (defArgs s_is_amount) (defBody s_is_amount) (defScope s_is_amount) .none kVf2 dcf2 pmf2 anf2 cdf2 ctf2), slf2⟩)
    (zc_is_amount : PySem.W.codeIn K cdf2 "is_amount" = true)
    (zk_is_amount : PySem.W.keepIn K (.ref f2) = true)
    (zl_is_name : K.lookup f3 = some ⟨ocf3, odf3, .func (PySem.W.fnOf "is_name" "is_name" (defArgs s_is_name) (defBody s_is_name) (defScope s_is_name) .none kVf3 dcf3 pmf3 anf3 cdf3 ctf3), slf3⟩)
    (zc_is_name : PySem.W.codeIn K cdf3 "is_name" = true)
    (zk_is_name : PySem.W.keepIn K (.ref f3) = true)
    (zl_are_names : K.lookup f4 = some ⟨ocf4, odf4, .func (PySem.W.fnOf "are_names" "are_names" (defArgs s_are_names) (defBody s_are_names) (defScope s_are_names) .none kVf4 dcf4 pmf4 anf4 cdf4 ctf4), slf4⟩)
    (zc_are_names : PySem.W.codeIn K cdf4 "are_names" = true)
    (zk_are_names : PySem.W.keepIn K (.ref f4) = true)
    (zl_Rule___init__ : K.lookup f5 = some ⟨ocf5, odf5, .func (PySem.W.fnOf "__init__" "Rule.__init__" (defArgs s_Rule___init__) (defBody s_Rule___init__) (defScope s_Rule___init__) .none kVf5 dcf5 pmf5 anf5 cdf5 ctf5), slf5⟩)
    (zc_Rule___init__ : PySem.W.codeIn K cdf5 "Rule.__init__" = true)
    (zk_Rule___init__ : PySem.W.keepIn K (.ref f5) = true)
    (zl_Bags___init__ : K.lookup f6 = some ⟨ocf6, odf6, .func (PySem.W.fnOf "__init__" "Bags.__init__" (defArgs s_Bags___init__) (defBody s_Bags___init__) (defScope s_Bags___init__) .none kVf6 dcf6 pmf6 anf6 cdf6 ctf6), slf6⟩)
    (zc_Bags___init__ : PySem.W.codeIn K cdf6 "Bags.__init__" = true)
    (zk_Bags___init__ : PySem.W.keepIn K (.ref f6) = true)
    (zl_Bags_is_wish : K.lookup f7 = some ⟨ocf7, odf7, .func (PySem.W.fnOf "is_wish" "Bags.is_wish" (defArgs s_Bags_is_wish) (defBody s_Bags_is_wish) (defScope s_Bags_is_wish) .none kVf7 dcf7 pmf7 anf7 cdf7 ctf7), slf7⟩)
    (zc_Bags_is_wish : PySem.W.codeIn K cdf7 "Bags.is_wish" = true)
    (zk_Bags_is_wish : PySem.W.keepIn K (.ref f7) = true)
    (zl_Filler___init__ : K.lookup f8 = some ⟨ocf8, odf8, .func (PySem.W.fnOf "__init__" "Filler.__init__" (defArgs s_Filler___init__) (defBody s_Filler___init__) (defScope s_Filler___init__) .none kVf8 dcf8 pmf8 anf8 cdf8 ctf8), slf8⟩)
    (zc_Filler___init__ : PySem.W.codeIn K cdf8 "Filler.__init__" = true)
    (zk_Filler___init__ : PySem.W.keepIn K (.ref f8) = true)
    (zl_Hire___init__ : K.lookup f9 = some ⟨ocf9, odf9, .func (PySem.W.fnOf "__init__" "Hire.__init__" (defArgs s_Hire___init__) (defBody s_Hire___init__) (defScope s_Hire___init__) .none kVf9 dcf9 pmf9 anf9 cdf9 ctf9), slf9⟩)
    (zc_Hire___init__ : PySem.W.codeIn K cdf9 "Hire.__init__" = true)
    (zk_Hire___init__ : PySem.W.keepIn K (.ref f9) = true)
    (zl_Hire_is_wish : K.lookup f10 = some ⟨ocf10, odf10, .func (PySem.W.fnOf "is_wish" "Hire.is_wish" (defArgs s_Hire_is_wish) (defBody s_Hire_is_wish) (defScope s_Hire_is_wish) .none kVf10 dcf10 pmf10 anf10 cdf10 ctf10), slf10⟩)
    (zc_Hire_is_wish : PySem.W.codeIn K cdf10 "Hire.is_wish" = true)
    (zk_Hire_is_wish : PySem.W.keepIn K (.ref f10) = true)
    (zl_Buyer___init__ : K.lookup f11 = some ⟨ocf11, odf11, .func (PySem.W.fnOf "__init__" "Buyer.__init__" (defArgs s_Buyer___init__) (defBody s_Buyer___init__) (defScope s_Buyer___init__) .none kVf11 dcf11 pmf11 anf11 cdf11 ctf11), slf11⟩)
    (zc_Buyer___init__ : PySem.W.codeIn K cdf11 "Buyer.__init__" = true)
    (zk_Buyer___init__ : PySem.W.keepIn K (.ref f11) = true)
    (zl_is_place : K.lookup f12 = some ⟨ocf12, odf12, .func (PySem.W.fnOf "is_place" "is_place" (defArgs s_is_place) (defBody s_is_place) (defScope s_is_place) .none kVf12 dcf12 pmf12 anf12 cdf12 ctf12), slf12⟩)
    (zc_is_place : PySem.W.codeIn K cdf12 "is_place" = true)
    (zk_is_place : PySem.W.keepIn K (.ref f12) = true)
    (zl_are_places : K.lookup f13 = some ⟨ocf13, odf13, .func (PySem.W.fnOf "are_places" "are_places" (defArgs s_are_places) (defBody s_are_places) (defScope s_are_places) .none kVf13 dcf13 pmf13 anf13 cdf13 ctf13), slf13⟩)
    (zc_are_places : PySem.W.codeIn K cdf13 "are_places" = true)
    (zk_are_places : PySem.W.keepIn K (.ref f13) = true)
    (zl_line_of : K.lookup f14 = some ⟨ocf14, odf14, .func (PySem.W.fnOf "line_of" "line_of" (defArgs s_line_of) (defBody s_line_of) (defScope s_line_of) .none kVf14 dcf14 pmf14 anf14 cdf14 ctf14), slf14⟩)
    (zc_line_of : PySem.W.codeIn K cdf14 "line_of" = true)
    (zk_line_of : PySem.W.keepIn K (.ref f14) = true)
    (zl_Line___init__ : K.lookup f15 = some ⟨ocf15, odf15, .func (PySem.W.fnOf "__init__" "Line.__init__" (defArgs s_Line___init__) (defBody s_Line___init__) (defScope s_Line___init__) .none kVf15 dcf15 pmf15 anf15 cdf15 ctf15), slf15⟩)
    (zc_Line___init__ : PySem.W.codeIn K cdf15 "Line.__init__" = true)
    (zk_Line___init__ : PySem.W.keepIn K (.ref f15) = true)
    (zl_Line_is_wish : K.lookup f16 = some ⟨ocf16, odf16, .func (PySem.W.fnOf "is_wish" "Line.is_wish" (defArgs s_Line_is_wish) (defBody s_Line_is_wish) (defScope s_Line_is_wish) .none kVf16 dcf16 pmf16 anf16 cdf16 ctf16), slf16⟩)
    (zc_Line_is_wish : PySem.W.codeIn K cdf16 "Line.is_wish" = true)
    (zk_Line_is_wish : PySem.W.keepIn K (.ref f16) = true)
    (zl_Both___init__ : K.lookup f17 = some ⟨ocf17, odf17, .func (PySem.W.fnOf "__init__" "Both.__init__" (defArgs s_Both___init__) (defBody s_Both___init__) (defScope s_Both___init__) .none kVf17 dcf17 pmf17 anf17 cdf17 ctf17), slf17⟩)
    (zc_Both___init__ : PySem.W.codeIn K cdf17 "Both.__init__" = true)
    (zk_Both___init__ : PySem.W.keepIn K (.ref f17) = true)
    (zl_Shelf___init__ : K.lookup f18 = some ⟨ocf18, odf18, .func (PySem.W.fnOf "__init__" "Shelf.__init__" (defArgs s_Shelf___init__) (defBody s_Shelf___init__) (defScope s_Shelf___init__) .none kVf18 dcf18 pmf18 anf18 cdf18 ctf18), slf18⟩)
    (zc_Shelf___init__ : PySem.W.codeIn K cdf18 "Shelf.__init__" = true)
    (zk_Shelf___init__ : PySem.W.keepIn K (.ref f18) = true)
    (zl_Shelf_is_wish : K.lookup f19 = some ⟨ocf19, odf19, .func (PySem.W.fnOf "is_wish" "Shelf.is_wish" (defArgs s_Shelf_is_wish) (defBody s_Shelf_is_wish) (defScope s_Shelf_is_wish) .none kVf19 dcf19 pmf19 anf19 cdf19 ctf19), slf19⟩)
    (zc_Shelf_is_wish : PySem.W.codeIn K cdf19 "Shelf.is_wish" = true)
    (zk_Shelf_is_wish : PySem.W.keepIn K (.ref f19) = true)
    (zl_Front___init__ : K.lookup f20 = some ⟨ocf20, odf20, .func (PySem.W.fnOf "__init__" "Front.__init__" (defArgs s_Front___init__) (defBody s_Front___init__) (defScope s_Front___init__) .none kVf20 dcf20 pmf20 anf20 cdf20 ctf20), slf20⟩)
    (zc_Front___init__ : PySem.W.codeIn K cdf20 "Front.__init__" = true)
    (zk_Front___init__ : PySem.W.keepIn K (.ref f20) = true)
    (zl_Store___init__ : K.lookup f21 = some ⟨ocf21, odf21, .func (PySem.W.fnOf "__init__" "Store.__init__" (defArgs s_Store___init__) (defBody s_Store___init__) (defScope s_Store___init__) .none kVf21 dcf21 pmf21 anf21 cdf21 ctf21), slf21⟩)
    (zc_Store___init__ : PySem.W.codeIn K cdf21 "Store.__init__" = true)
    (zk_Store___init__ : PySem.W.keepIn K (.ref f21) = true)
    (zl_Store_is_wish : K.lookup f22 = some ⟨ocf22, odf22, .func (PySem.W.fnOf "is_wish" "Store.is_wish" (defArgs s_Store_is_wish) (defBody s_Store_is_wish) (defScope s_Store_is_wish) .none kVf22 dcf22 pmf22 anf22 cdf22 ctf22), slf22⟩)
    (zc_Store_is_wish : PySem.W.codeIn K cdf22 "Store.is_wish" = true)
    (zk_Store_is_wish : PySem.W.keepIn K (.ref f22) = true)
    (zl_Keeper___init__ : K.lookup f23 = some ⟨ocf23, odf23, .func (PySem.W.fnOf "__init__" "Keeper.__init__" (defArgs s_Keeper___init__) (defBody s_Keeper___init__) (defScope s_Keeper___init__) .none kVf23 dcf23 pmf23 anf23 cdf23 ctf23), slf23⟩)
    (zc_Keeper___init__ : PySem.W.codeIn K cdf23 "Keeper.__init__" = true)
    (zk_Keeper___init__ : PySem.W.keepIn K (.ref f23) = true)
    (zl_Ways___init__ : K.lookup f24 = some ⟨ocf24, odf24, .func (PySem.W.fnOf "__init__" "Ways.__init__" (defArgs s_Ways___init__) (defBody s_Ways___init__) (defScope s_Ways___init__) .none kVf24 dcf24 pmf24 anf24 cdf24 ctf24), slf24⟩)
    (zc_Ways___init__ : PySem.W.codeIn K cdf24 "Ways.__init__" = true)
    (zk_Ways___init__ : PySem.W.keepIn K (.ref f24) = true)
    (zl_Ways_is_wish : K.lookup f25 = some ⟨ocf25, odf25, .func (PySem.W.fnOf "is_wish" "Ways.is_wish" (defArgs s_Ways_is_wish) (defBody s_Ways_is_wish) (defScope s_Ways_is_wish) .none kVf25 dcf25 pmf25 anf25 cdf25 ctf25), slf25⟩)
    (zc_Ways_is_wish : PySem.W.codeIn K cdf25 "Ways.is_wish" = true)
    (zk_Ways_is_wish : PySem.W.keepIn K (.ref f25) = true)
    (zl_Changer___init__ : K.lookup f26 = some ⟨ocf26, odf26, .func (PySem.W.fnOf "__init__" "Changer.__init__" (defArgs s_Changer___init__) (defBody s_Changer___init__) (defScope s_Changer___init__) (.ref yTf26) kVf26 dcf26 pmf26 anf26 cdf26 ctf26), slf26⟩)
    (zyt_Changer___init__ : K.lookup yTf26 = some ⟨yocf26, yodf26, .seq #[.int 0 ytkf26] ynf26, yslf26⟩)
    (zc_Changer___init__ : PySem.W.codeIn K cdf26 "Changer.__init__" = true)
    (zk_Changer___init__ : PySem.W.keepIn K (.ref f26) = true)
    (zl_sum_read : K.lookup f27 = some ⟨ocf27, odf27, .func (PySem.W.fnOf "sum_read" "sum_read" (defArgs s_sum_read) (defBody s_sum_read) (defScope s_sum_read) .none kVf27 dcf27 pmf27 anf27 cdf27 ctf27), slf27⟩)
    (zc_sum_read : PySem.W.codeIn K cdf27 "sum_read" = true)
    (zk_sum_read : PySem.W.keepIn K (.ref f27) = true)
    (zl_number_read : K.lookup f28 = some ⟨ocf28, odf28, .func (PySem.W.fnOf "number_read" "number_read" (defArgs s_number_read) (defBody s_number_read) (defScope s_number_read) .none kVf28 dcf28 pmf28 anf28 cdf28 ctf28), slf28⟩)
    (zc_number_read : PySem.W.codeIn K cdf28 "number_read" = true)
    (zk_number_read : PySem.W.keepIn K (.ref f28) = true)
    (zl_rule_of : K.lookup f29 = some ⟨ocf29, odf29, .func (PySem.W.fnOf "rule_of" "rule_of" (defArgs s_rule_of) (defBody s_rule_of) (defScope s_rule_of) .none kVf29 dcf29 pmf29 anf29 cdf29 ctf29), slf29⟩)
    (zc_rule_of : PySem.W.codeIn K cdf29 "rule_of" = true)
    (zk_rule_of : PySem.W.keepIn K (.ref f29) = true)
    (zl_world_start : K.lookup f30 = some ⟨ocf30, odf30, .func (PySem.W.fnOf "world_start" "world_start" (defArgs s_world_start) (defBody s_world_start) (defScope s_world_start) .none kVf30 dcf30 pmf30 anf30 cdf30 ctf30), slf30⟩)
    (zc_world_start : PySem.W.codeIn K cdf30 "world_start" = true)
    (zk_world_start : PySem.W.keepIn K (.ref f30) = true)
    (zl_many_fit : K.lookup f31 = some ⟨ocf31, odf31, .func (PySem.W.fnOf "many_fit" "many_fit" (defArgs s_many_fit) (defBody s_many_fit) (defScope s_many_fit) .none kVf31 dcf31 pmf31 anf31 cdf31 ctf31), slf31⟩)
    (zc_many_fit : PySem.W.codeIn K cdf31 "many_fit" = true)
    (zk_many_fit : PySem.W.keepIn K (.ref f31) = true)
    (zl_start_read : K.lookup f32 = some ⟨ocf32, odf32, .func (PySem.W.fnOf "start_read" "start_read" (defArgs s_start_read) (defBody s_start_read) (defScope s_start_read) .none kVf32 dcf32 pmf32 anf32 cdf32 ctf32), slf32⟩)
    (zc_start_read : PySem.W.codeIn K cdf32 "start_read" = true)
    (zk_start_read : PySem.W.keepIn K (.ref f32) = true)
    (zl_wish_read : K.lookup f33 = some ⟨ocf33, odf33, .func (PySem.W.fnOf "wish_read" "wish_read" (defArgs s_wish_read) (defBody s_wish_read) (defScope s_wish_read) .none kVf33 dcf33 pmf33 anf33 cdf33 ctf33), slf33⟩)
    (zc_wish_read : PySem.W.codeIn K cdf33 "wish_read" = true)
    (zk_wish_read : PySem.W.keepIn K (.ref f33) = true)
    (zl_read_game : K.lookup f34 = some ⟨ocf34, odf34, .func (PySem.W.fnOf "read_game" "read_game" (defArgs s_read_game) (defBody s_read_game) (defScope s_read_game) .none kVf34 dcf34 pmf34 anf34 cdf34 ctf34), slf34⟩)
    (zc_read_game : PySem.W.codeIn K cdf34 "read_game" = true)
    (zk_read_game : PySem.W.keepIn K (.ref f34) = true)
    (zl__law_cell : K.lookup f35 = some ⟨ocf35, odf35, .func (PySem.W.fnOf "_law_cell" "_law_cell" (defArgs s__law_cell) (defBody s__law_cell) (defScope s__law_cell) .none kVf35 dcf35 pmf35 anf35 cdf35 ctf35), slf35⟩)
    (zc__law_cell : PySem.W.codeIn K cdf35 "_law_cell" = true)
    (zk__law_cell : PySem.W.keepIn K (.ref f35) = true)
    (zl__law_mixed : K.lookup f36 = some ⟨ocf36, odf36, .func (PySem.W.fnOf "_law_mixed" "_law_mixed" (defArgs s__law_mixed) (defBody s__law_mixed) (defScope s__law_mixed) .none kVf36 dcf36 pmf36 anf36 cdf36 ctf36), slf36⟩)
    (zc__law_mixed : PySem.W.codeIn K cdf36 "_law_mixed" = true)
    (zk__law_mixed : PySem.W.keepIn K (.ref f36) = true)
    (zl__law_whole : K.lookup f37 = some ⟨ocf37, odf37, .func (PySem.W.fnOf "_law_whole" "_law_whole" (defArgs s__law_whole) (defBody s__law_whole) (defScope s__law_whole) .none kVf37 dcf37 pmf37 anf37 cdf37 ctf37), slf37⟩)
    (zc__law_whole : PySem.W.codeIn K cdf37 "_law_whole" = true)
    (zk__law_whole : PySem.W.keepIn K (.ref f37) = true)
    (zl__law_same : K.lookup f38 = some ⟨ocf38, odf38, .func (PySem.W.fnOf "_law_same" "_law_same" (defArgs s__law_same) (defBody s__law_same) (defScope s__law_same) .none kVf38 dcf38 pmf38 anf38 cdf38 ctf38), slf38⟩)
    (zc__law_same : PySem.W.codeIn K cdf38 "_law_same" = true)
    (zk__law_same : PySem.W.keepIn K (.ref f38) = true)
    (zl__law_all_same : K.lookup f39 = some ⟨ocf39, odf39, .func (PySem.W.fnOf "_law_all_same" "_law_all_same" (defArgs s__law_all_same) (defBody s__law_all_same) (defScope s__law_all_same) .none kVf39 dcf39 pmf39 anf39 cdf39 ctf39), slf39⟩)
    (zc__law_all_same : PySem.W.codeIn K cdf39 "_law_all_same" = true)
    (zk__law_all_same : PySem.W.keepIn K (.ref f39) = true)
    (zl__law_amount : K.lookup f40 = some ⟨ocf40, odf40, .func (PySem.W.fnOf "_law_amount" "_law_amount" (defArgs s__law_amount) (defBody s__law_amount) (defScope s__law_amount) .none kVf40 dcf40 pmf40 anf40 cdf40 ctf40), slf40⟩)
    (zc__law_amount : PySem.W.codeIn K cdf40 "_law_amount" = true)
    (zk__law_amount : PySem.W.keepIn K (.ref f40) = true)
    (zl__law_place : K.lookup f41 = some ⟨ocf41, odf41, .func (PySem.W.fnOf "_law_place" "_law_place" (defArgs s__law_place) (defBody s__law_place) (defScope s__law_place) .none kVf41 dcf41 pmf41 anf41 cdf41 ctf41), slf41⟩)
    (zc__law_place : PySem.W.codeIn K cdf41 "_law_place" = true)
    (zk__law_place : PySem.W.keepIn K (.ref f41) = true)
    (zl__law_names : K.lookup f42 = some ⟨ocf42, odf42, .func (PySem.W.fnOf "_law_names" "_law_names" (defArgs s__law_names) (defBody s__law_names) (defScope s__law_names) .none kVf42 dcf42 pmf42 anf42 cdf42 ctf42), slf42⟩)
    (zc__law_names : PySem.W.codeIn K cdf42 "_law_names" = true)
    (zk__law_names : PySem.W.keepIn K (.ref f42) = true)
    (zl__law_start : K.lookup f43 = some ⟨ocf43, odf43, .func (PySem.W.fnOf "_law_start" "_law_start" (defArgs s__law_start) (defBody s__law_start) (defScope s__law_start) .none kVf43 dcf43 pmf43 anf43 cdf43 ctf43), slf43⟩)
    (zc__law_start : PySem.W.codeIn K cdf43 "_law_start" = true)
    (zk__law_start : PySem.W.keepIn K (.ref f43) = true)
    (zl__law_wish : K.lookup f44 = some ⟨ocf44, odf44, .func (PySem.W.fnOf "_law_wish" "_law_wish" (defArgs s__law_wish) (defBody s__law_wish) (defScope s__law_wish) .none kVf44 dcf44 pmf44 anf44 cdf44 ctf44), slf44⟩)
    (zc__law_wish : PySem.W.codeIn K cdf44 "_law_wish" = true)
    (zk__law_wish : PySem.W.keepIn K (.ref f44) = true)
    (zl__law_words : K.lookup f45 = some ⟨ocf45, odf45, .func (PySem.W.fnOf "_law_words" "_law_words" (defArgs s__law_words) (defBody s__law_words) (defScope s__law_words) .none kVf45 dcf45 pmf45 anf45 cdf45 ctf45), slf45⟩)
    (zc__law_words : PySem.W.codeIn K cdf45 "_law_words" = true)
    (zk__law_words : PySem.W.keepIn K (.ref f45) = true)
    (zl__law_lines : K.lookup f46 = some ⟨ocf46, odf46, .func (PySem.W.fnOf "_law_lines" "_law_lines" (defArgs s__law_lines) (defBody s__law_lines) (defScope s__law_lines) .none kVf46 dcf46 pmf46 anf46 cdf46 ctf46), slf46⟩)
    (zc__law_lines : PySem.W.codeIn K cdf46 "_law_lines" = true)
    (zk__law_lines : PySem.W.keepIn K (.ref f46) = true)
    (zl__law_text : K.lookup f47 = some ⟨ocf47, odf47, .func (PySem.W.fnOf "_law_text" "_law_text" (defArgs s__law_text) (defBody s__law_text) (defScope s__law_text) .none kVf47 dcf47 pmf47 anf47 cdf47 ctf47), slf47⟩)
    (zc__law_text : PySem.W.codeIn K cdf47 "_law_text" = true)
    (zk__law_text : PySem.W.keepIn K (.ref f47) = true)
    (zl_law : K.lookup f48 = some ⟨ocf48, odf48, .func (PySem.W.fnOf "law" "law" (defArgs s_law) (defBody s_law) (defScope s_law) .none kVf48 dcf48 pmf48 anf48 cdf48 ctf48), slf48⟩)
    (zc_law : PySem.W.codeIn K cdf48 "law" = true)
    (zk_law : PySem.W.keepIn K (.ref f48) = true)
    (zxl_LateError : K.lookup C12 = some (excClassObj nmC12 qC12 C12 NC12 bsC12 [.type "ValueError", .type "Exception", .type "BaseException", .type "object"] true snC12 suC12 abC12 coC12 ddC12 kaC12 kbC12 kcC12 kdC12 keC12 "ValueError.__new__"))
    (zxs_LateError : PySem.W.findIn K (.ref C12) "__setattr__" = some (some (.builtin "object.__setattr__")))
    (zxga_LateError : PySem.W.findIn K (.ref C12) "__getattribute__" = some (some (.builtin "BaseException.__getattribute__")))
    (zxgg_LateError : PySem.W.findIn K (.ref C12) "__getattr__" = some none)
    (zxr_LateError : PySem.W.findIn K (.ref C12) "row" = some none)
    (zxk_LateError : PySem.W.keepIn K (.ref C12) = true)
    (zxe_LateError : PySem.W.subIn K (.ref C12) (.type "BaseException") = some true)
    (zxv_LateError : PySem.W.subIn K (.ref C12) (.type "ValueError") = some true)
    (zxty_LateError : PySem.W.typeIn K (.ref C12) = some (.type "type"))
    (zxh_LateError : PySem.W.hasDictIn K C12 = true)
    (zxc_LateError : PySem.W.isClsIn K C12 = true)
    (zxcl_LateError : PySem.W.findIn K (.ref C12) "__class__" = some (some (.builtin "object.__class__")))
    (zxm_LateError : PySem.W.mroIn K C12 (.type "object") = some true)
    (zxu_LateError_LateError : PySem.W.subIn K (.ref C12) (.ref C12) = some true)
    (zxu_LateError_NoState : PySem.W.subIn K (.ref C12) (.ref C13) = some false)
    (zxu_LateError_NoText : PySem.W.subIn K (.ref C12) (.ref C14) = some false)
    (zxl_NoState : K.lookup C13 = some (excClassObj nmC13 qC13 C13 NC13 bsC13 [.ref C12, .type "ValueError", .type "Exception", .type "BaseException", .type "object"] true snC13 suC13 abC13 coC13 ddC13 kaC13 kbC13 kcC13 kdC13 keC13 "ValueError.__new__"))
    (zxs_NoState : PySem.W.findIn K (.ref C13) "__setattr__" = some (some (.builtin "object.__setattr__")))
    (zxga_NoState : PySem.W.findIn K (.ref C13) "__getattribute__" = some (some (.builtin "BaseException.__getattribute__")))
    (zxgg_NoState : PySem.W.findIn K (.ref C13) "__getattr__" = some none)
    (zxr_NoState : PySem.W.findIn K (.ref C13) "row" = some none)
    (zxk_NoState : PySem.W.keepIn K (.ref C13) = true)
    (zxe_NoState : PySem.W.subIn K (.ref C13) (.type "BaseException") = some true)
    (zxv_NoState : PySem.W.subIn K (.ref C13) (.type "ValueError") = some true)
    (zxty_NoState : PySem.W.typeIn K (.ref C13) = some (.type "type"))
    (zxh_NoState : PySem.W.hasDictIn K C13 = true)
    (zxc_NoState : PySem.W.isClsIn K C13 = true)
    (zxcl_NoState : PySem.W.findIn K (.ref C13) "__class__" = some (some (.builtin "object.__class__")))
    (zxm_NoState : PySem.W.mroIn K C13 (.type "object") = some true)
    (zxu_NoState_LateError : PySem.W.subIn K (.ref C13) (.ref C12) = some true)
    (zxu_NoState_NoState : PySem.W.subIn K (.ref C13) (.ref C13) = some true)
    (zxu_NoState_NoText : PySem.W.subIn K (.ref C13) (.ref C14) = some false)
    (zxl_NoText : K.lookup C14 = some (excClassObj nmC14 qC14 C14 NC14 bsC14 [.ref C12, .type "ValueError", .type "Exception", .type "BaseException", .type "object"] true snC14 suC14 abC14 coC14 ddC14 kaC14 kbC14 kcC14 kdC14 keC14 "ValueError.__new__"))
    (zxs_NoText : PySem.W.findIn K (.ref C14) "__setattr__" = some (some (.builtin "object.__setattr__")))
    (zxga_NoText : PySem.W.findIn K (.ref C14) "__getattribute__" = some (some (.builtin "BaseException.__getattribute__")))
    (zxgg_NoText : PySem.W.findIn K (.ref C14) "__getattr__" = some none)
    (zxr_NoText : PySem.W.findIn K (.ref C14) "row" = some none)
    (zxk_NoText : PySem.W.keepIn K (.ref C14) = true)
    (zxe_NoText : PySem.W.subIn K (.ref C14) (.type "BaseException") = some true)
    (zxv_NoText : PySem.W.subIn K (.ref C14) (.type "ValueError") = some true)
    (zxty_NoText : PySem.W.typeIn K (.ref C14) = some (.type "type"))
    (zxh_NoText : PySem.W.hasDictIn K C14 = true)
    (zxc_NoText : PySem.W.isClsIn K C14 = true)
    (zxcl_NoText : PySem.W.findIn K (.ref C14) "__class__" = some (some (.builtin "object.__class__")))
    (zxm_NoText : PySem.W.mroIn K C14 (.type "object") = some true)
    (zxu_NoText_LateError : PySem.W.subIn K (.ref C14) (.ref C12) = some true)
    (zxu_NoText_NoState : PySem.W.subIn K (.ref C14) (.ref C13) = some false)
    (zxu_NoText_NoText : PySem.W.subIn K (.ref C14) (.ref C14) = some true)
    (zxtI : PySem.W.typeIn K (.ref f0) = some (.type "function"))
    (zxvV : PySem.W.findCls K (.type "ValueError") (.type "type") "__init__" = some (.val (.builtin "ValueError.__init__")))
    (zxgn : PySem.W.specialIn K (.builtin "object.__class__") "__get__" = some (some (.builtin "getset_descriptor.__get__")))
    (zxgt : PySem.W.takesIn K (.builtin "object.__class__") = some true)
    (zdr_Bound___init__ : PySem.W.readsIn K C15 (.type "type") = true)
    (zdg_Bound___init__ : PySem.W.specialIn K (.ref C15) "__getattribute__" = some (some (.builtin "type.__getattribute__")))
    (zpg_Bags : PySem.W.plainGet K C0 Str.empty = true)
    (zhd_Bags : PySem.W.hasDictIn K C0 = true)
    (zpo_Bags : PySem.W.plainOver K C0 = true)
    (zsa_Bags : PySem.W.findIn K (.ref C0) "__setattr__" = some (some (.builtin "object.__setattr__")))
    (zmk_Bags : PySem.W.makesIn K C0 = true)
    (zkc_Bags : PySem.W.keepIn K (.ref C0) = true)
    (zpg_Hire : PySem.W.plainGet K C1 Str.empty = true)
    (zhd_Hire : PySem.W.hasDictIn K C1 = true)
    (zpo_Hire : PySem.W.plainOver K C1 = true)
    (zsa_Hire : PySem.W.findIn K (.ref C1) "__setattr__" = some (some (.builtin "object.__setattr__")))
    (zmk_Hire : PySem.W.makesIn K C1 = true)
    (zkc_Hire : PySem.W.keepIn K (.ref C1) = true)
    (zpg_Line : PySem.W.plainGet K C2 Str.empty = true)
    (zhd_Line : PySem.W.hasDictIn K C2 = true)
    (zpo_Line : PySem.W.plainOver K C2 = true)
    (zsa_Line : PySem.W.findIn K (.ref C2) "__setattr__" = some (some (.builtin "object.__setattr__")))
    (zmk_Line : PySem.W.makesIn K C2 = true)
    (zkc_Line : PySem.W.keepIn K (.ref C2) = true)
    (zpg_Shelf : PySem.W.plainGet K C3 Str.empty = true)
    (zhd_Shelf : PySem.W.hasDictIn K C3 = true)
    (zpo_Shelf : PySem.W.plainOver K C3 = true)
    (zsa_Shelf : PySem.W.findIn K (.ref C3) "__setattr__" = some (some (.builtin "object.__setattr__")))
    (zmk_Shelf : PySem.W.makesIn K C3 = true)
    (zkc_Shelf : PySem.W.keepIn K (.ref C3) = true)
    (zpg_Store : PySem.W.plainGet K C4 Str.empty = true)
    (zhd_Store : PySem.W.hasDictIn K C4 = true)
    (zpo_Store : PySem.W.plainOver K C4 = true)
    (zsa_Store : PySem.W.findIn K (.ref C4) "__setattr__" = some (some (.builtin "object.__setattr__")))
    (zmk_Store : PySem.W.makesIn K C4 = true)
    (zkc_Store : PySem.W.keepIn K (.ref C4) = true)
    (zpg_Ways : PySem.W.plainGet K C5 Str.empty = true)
    (zhd_Ways : PySem.W.hasDictIn K C5 = true)
    (zpo_Ways : PySem.W.plainOver K C5 = true)
    (zsa_Ways : PySem.W.findIn K (.ref C5) "__setattr__" = some (some (.builtin "object.__setattr__")))
    (zmk_Ways : PySem.W.makesIn K C5 = true)
    (zkc_Ways : PySem.W.keepIn K (.ref C5) = true)
    (zpg_Filler : PySem.W.plainGet K C6 Str.empty = true)
    (zhd_Filler : PySem.W.hasDictIn K C6 = true)
    (zpo_Filler : PySem.W.plainOver K C6 = true)
    (zsa_Filler : PySem.W.findIn K (.ref C6) "__setattr__" = some (some (.builtin "object.__setattr__")))
    (zmk_Filler : PySem.W.makesIn K C6 = true)
    (zkc_Filler : PySem.W.keepIn K (.ref C6) = true)
    (zpg_Both : PySem.W.plainGet K C7 Str.empty = true)
    (zhd_Both : PySem.W.hasDictIn K C7 = true)
    (zpo_Both : PySem.W.plainOver K C7 = true)
    (zsa_Both : PySem.W.findIn K (.ref C7) "__setattr__" = some (some (.builtin "object.__setattr__")))
    (zmk_Both : PySem.W.makesIn K C7 = true)
    (zkc_Both : PySem.W.keepIn K (.ref C7) = true)
    (zpg_Front : PySem.W.plainGet K C8 Str.empty = true)
    (zhd_Front : PySem.W.hasDictIn K C8 = true)
    (zpo_Front : PySem.W.plainOver K C8 = true)
    (zsa_Front : PySem.W.findIn K (.ref C8) "__setattr__" = some (some (.builtin "object.__setattr__")))
    (zmk_Front : PySem.W.makesIn K C8 = true)
    (zkc_Front : PySem.W.keepIn K (.ref C8) = true)
    (zpg_Buyer : PySem.W.plainGet K C9 Str.empty = true)
    (zhd_Buyer : PySem.W.hasDictIn K C9 = true)
    (zpo_Buyer : PySem.W.plainOver K C9 = true)
    (zsa_Buyer : PySem.W.findIn K (.ref C9) "__setattr__" = some (some (.builtin "object.__setattr__")))
    (zmk_Buyer : PySem.W.makesIn K C9 = true)
    (zkc_Buyer : PySem.W.keepIn K (.ref C9) = true)
    (zpg_Changer : PySem.W.plainGet K C10 Str.empty = true)
    (zhd_Changer : PySem.W.hasDictIn K C10 = true)
    (zpo_Changer : PySem.W.plainOver K C10 = true)
    (zsa_Changer : PySem.W.findIn K (.ref C10) "__setattr__" = some (some (.builtin "object.__setattr__")))
    (zmk_Changer : PySem.W.makesIn K C10 = true)
    (zkc_Changer : PySem.W.keepIn K (.ref C10) = true)
    (zpg_Keeper : PySem.W.plainGet K C11 Str.empty = true)
    (zhd_Keeper : PySem.W.hasDictIn K C11 = true)
    (zpo_Keeper : PySem.W.plainOver K C11 = true)
    (zsa_Keeper : PySem.W.findIn K (.ref C11) "__setattr__" = some (some (.builtin "object.__setattr__")))
    (zmk_Keeper : PySem.W.makesIn K C11 = true)
    (zkc_Keeper : PySem.W.keepIn K (.ref C11) = true)
    (zn_Bags_room : PySem.W.findIn K (.ref C0) "room" = some none)
    (zn_Hire_whole : PySem.W.findIn K (.ref C1) "whole" = some none)
    (zn_Line_many : PySem.W.findIn K (.ref C2) "many" = some none)
    (zn_Shelf_things : PySem.W.findIn K (.ref C3) "things" = some none)
    (zn_Store_many : PySem.W.findIn K (.ref C4) "many" = some none)
    (zn_Ways_many : PySem.W.findIn K (.ref C5) "many" = some none)
    (zn_Ways_toll : PySem.W.findIn K (.ref C5) "toll" = some none)
    (zn_Filler_world : PySem.W.findIn K (.ref C6) "world" = some none)
    (zn_Filler_now : PySem.W.findIn K (.ref C6) "now" = some none)
    (zn_Filler_total : PySem.W.findIn K (.ref C6) "total" = some none)
    (zn_Filler_room : PySem.W.findIn K (.ref C6) "room" = some none)
    (zn_Filler_opened : PySem.W.findIn K (.ref C6) "opened" = some none)
    (zn_Both_world : PySem.W.findIn K (.ref C7) "world" = some none)
    (zn_Both_now : PySem.W.findIn K (.ref C7) "now" = some none)
    (zn_Both_total : PySem.W.findIn K (.ref C7) "total" = some none)
    (zn_Front_world : PySem.W.findIn K (.ref C8) "world" = some none)
    (zn_Front_now : PySem.W.findIn K (.ref C8) "now" = some none)
    (zn_Front_total : PySem.W.findIn K (.ref C8) "total" = some none)
    (zn_Buyer_world : PySem.W.findIn K (.ref C9) "world" = some none)
    (zn_Buyer_now : PySem.W.findIn K (.ref C9) "now" = some none)
    (zn_Buyer_total : PySem.W.findIn K (.ref C9) "total" = some none)
    (zn_Buyer_whole : PySem.W.findIn K (.ref C9) "whole" = some none)
    (zn_Buyer_hired : PySem.W.findIn K (.ref C9) "hired" = some none)
    (zn_Changer_world : PySem.W.findIn K (.ref C10) "world" = some none)
    (zn_Changer_now : PySem.W.findIn K (.ref C10) "now" = some none)
    (zn_Changer_total : PySem.W.findIn K (.ref C10) "total" = some none)
    (zn_Changer_toll : PySem.W.findIn K (.ref C10) "toll" = some none)
    (zn_Changer_known : PySem.W.findIn K (.ref C10) "known" = some none)
    (zn_Keeper_world : PySem.W.findIn K (.ref C11) "world" = some none)
    (zn_Keeper_now : PySem.W.findIn K (.ref C11) "now" = some none)
    (zn_Keeper_total : PySem.W.findIn K (.ref C11) "total" = some none)
    (zn_Keeper_kept : PySem.W.findIn K (.ref C11) "kept" = some none)
    : ∃ fd : FuncData, (∀ (s : Shared) (u : Value), BindsTo s fd ⟨[u], []⟩ [("_law_script", u)]) ∧ ∀ (P : Program) (w : World) (base : Heap), K.In base → base.Ns mainGlobals mg → FnOk P w K mg base (L2.CX P w) 14 fa fd ["_law_script"] (spF K (caOf K) 1 F_law) := by
  have e := hfa.symm.trans (PySem.W.mg_of X G za_law)
  cases e
  obtain rfl := caOf_eq (c := .bags) za_Bags
  obtain rfl := caOf_eq (c := .hire) za_Hire
  obtain rfl := caOf_eq (c := .line) za_Line
  obtain rfl := caOf_eq (c := .shelf) za_Shelf
  obtain rfl := caOf_eq (c := .store) za_Store
  obtain rfl := caOf_eq (c := .ways) za_Ways
  obtain rfl := caOf_eq (c := .filler) za_Filler
  obtain rfl := caOf_eq (c := .both) za_Both
  obtain rfl := caOf_eq (c := .front) za_Front
  obtain rfl := caOf_eq (c := .buyer) za_Buyer
  obtain rfl := caOf_eq (c := .changer) za_Changer
  obtain rfl := caOf_eq (c := .keeper) za_Keeper
  obtain rfl := caOf_eq (c := .lateError) za_LateError
  obtain rfl := caOf_eq (c := .noState) za_NoState
  obtain rfl := caOf_eq (c := .noText) za_NoText
  obtain rfl := caOf_eq (c := .bound) za_Bound
  have hX_LateError___init__ : FunD K "__init__" "LateError.__init__" (defArgs s_LateError___init__) (defBody s_LateError___init__) (defScope s_LateError___init__) [.non] [] f0 _ := ⟨⟨_, _, _, _, _, _, _, _, _, _, rfl, zl_LateError___init__, zc_LateError___init__, .inr ⟨by simp, xT, _, [.none], xn, rfl, zxt, rfl, .cons rfl .nil⟩, .inl rfl⟩, zk_LateError___init__⟩
  have hF_LateError___init__ : FTX K "__init__" "LateError.__init__" s_LateError___init__ f0 := ftx_mk hX_LateError___init__ (fun _ _ _ _ _ _ _ us its hu hi => match us, its, hu, hi with | [_], [_], _, _ => ⟨_, rfl, rfl⟩) (fun _ _ _ _ _ _ _ us its hu hi => match us, its, hu, hi with | [_, _], [_], _, _ => ⟨_, rfl, rfl⟩)
  have hF_is_between := fun_mk (st := s_is_between) zl_is_between zc_is_between zk_is_between
  have hB_is_between := hF_is_between.binds (ps := ["thing", "low", "high"]) fun _ _ _ _ _ _ us hl => match us, hl with | [_, _, _], _ => rfl
  have hF_is_amount := fun_mk (st := s_is_amount) zl_is_amount zc_is_amount zk_is_amount
  have hB_is_amount := hF_is_amount.binds (ps := ["thing"]) fun _ _ _ _ _ _ us hl => match us, hl with | [_], _ => rfl
  have hF_is_name := fun_mk (st := s_is_name) zl_is_name zc_is_name zk_is_name
  have hB_is_name := hF_is_name.binds (ps := ["thing"]) fun _ _ _ _ _ _ us hl => match us, hl with | [_], _ => rfl
  have hF_are_names := fun_mk (st := s_are_names) zl_are_names zc_are_names zk_are_names
  have hB_are_names := hF_are_names.binds (ps := ["thing"]) fun _ _ _ _ _ _ us hl => match us, hl with | [_], _ => rfl
  have hF_Rule___init__ := fun_mk (st := s_Rule___init__) zl_Rule___init__ zc_Rule___init__ zk_Rule___init__
  have hB_Rule___init__ := hF_Rule___init__.binds (ps := ["self", "world", "start"]) fun _ _ _ _ _ _ us hl => match us, hl with | [_, _, _], _ => rfl
  have hF_Bags___init__ := fun_mk (st := s_Bags___init__) zl_Bags___init__ zc_Bags___init__ zk_Bags___init__
  have hB_Bags___init__ := hF_Bags___init__.binds (ps := ["self", "room"]) fun _ _ _ _ _ _ us hl => match us, hl with | [_, _], _ => rfl
  have hF_Bags_is_wish := fun_mk (st := s_Bags_is_wish) zl_Bags_is_wish zc_Bags_is_wish zk_Bags_is_wish
  have hB_Bags_is_wish := hF_Bags_is_wish.binds (ps := ["self", "thing"]) fun _ _ _ _ _ _ us hl => match us, hl with | [_, _], _ => rfl
  have hF_Filler___init__ := fun_mk (st := s_Filler___init__) zl_Filler___init__ zc_Filler___init__ zk_Filler___init__
  have hB_Filler___init__ := hF_Filler___init__.binds (ps := ["self", "room"]) fun _ _ _ _ _ _ us hl => match us, hl with | [_, _], _ => rfl
  have hF_Hire___init__ := fun_mk (st := s_Hire___init__) zl_Hire___init__ zc_Hire___init__ zk_Hire___init__
  have hB_Hire___init__ := hF_Hire___init__.binds (ps := ["self", "whole"]) fun _ _ _ _ _ _ us hl => match us, hl with | [_, _], _ => rfl
  have hF_Hire_is_wish := fun_mk (st := s_Hire_is_wish) zl_Hire_is_wish zc_Hire_is_wish zk_Hire_is_wish
  have hB_Hire_is_wish := hF_Hire_is_wish.binds (ps := ["self", "thing"]) fun _ _ _ _ _ _ us hl => match us, hl with | [_, _], _ => rfl
  have hF_Buyer___init__ := fun_mk (st := s_Buyer___init__) zl_Buyer___init__ zc_Buyer___init__ zk_Buyer___init__
  have hB_Buyer___init__ := hF_Buyer___init__.binds (ps := ["self", "whole"]) fun _ _ _ _ _ _ us hl => match us, hl with | [_, _], _ => rfl
  have hF_is_place := fun_mk (st := s_is_place) zl_is_place zc_is_place zk_is_place
  have hB_is_place := hF_is_place.binds (ps := ["thing"]) fun _ _ _ _ _ _ us hl => match us, hl with | [_], _ => rfl
  have hF_are_places := fun_mk (st := s_are_places) zl_are_places zc_are_places zk_are_places
  have hB_are_places := hF_are_places.binds (ps := ["thing", "many"]) fun _ _ _ _ _ _ us hl => match us, hl with | [_, _], _ => rfl
  have hF_line_of := fun_mk (st := s_line_of) zl_line_of zc_line_of zk_line_of
  have hB_line_of := hF_line_of.binds (ps := ["start"]) fun _ _ _ _ _ _ us hl => match us, hl with | [_], _ => rfl
  have hF_Line___init__ := fun_mk (st := s_Line___init__) zl_Line___init__ zc_Line___init__ zk_Line___init__
  have hB_Line___init__ := hF_Line___init__.binds (ps := ["self", "many"]) fun _ _ _ _ _ _ us hl => match us, hl with | [_, _], _ => rfl
  have hF_Line_is_wish := fun_mk (st := s_Line_is_wish) zl_Line_is_wish zc_Line_is_wish zk_Line_is_wish
  have hB_Line_is_wish := hF_Line_is_wish.binds (ps := ["self", "thing"]) fun _ _ _ _ _ _ us hl => match us, hl with | [_, _], _ => rfl
  have hF_Both___init__ := fun_mk (st := s_Both___init__) zl_Both___init__ zc_Both___init__ zk_Both___init__
  have hB_Both___init__ := hF_Both___init__.binds (ps := ["self", "start"]) fun _ _ _ _ _ _ us hl => match us, hl with | [_, _], _ => rfl
  have hF_Shelf___init__ := fun_mk (st := s_Shelf___init__) zl_Shelf___init__ zc_Shelf___init__ zk_Shelf___init__
  have hB_Shelf___init__ := hF_Shelf___init__.binds (ps := ["self", "things"]) fun _ _ _ _ _ _ us hl => match us, hl with | [_, _], _ => rfl
  have hF_Shelf_is_wish := fun_mk (st := s_Shelf_is_wish) zl_Shelf_is_wish zc_Shelf_is_wish zk_Shelf_is_wish
  have hB_Shelf_is_wish := hF_Shelf_is_wish.binds (ps := ["self", "thing"]) fun _ _ _ _ _ _ us hl => match us, hl with | [_, _], _ => rfl
  have hF_Front___init__ := fun_mk (st := s_Front___init__) zl_Front___init__ zc_Front___init__ zk_Front___init__
  have hB_Front___init__ := hF_Front___init__.binds (ps := ["self", "start"]) fun _ _ _ _ _ _ us hl => match us, hl with | [_, _], _ => rfl
  have hF_Store___init__ := fun_mk (st := s_Store___init__) zl_Store___init__ zc_Store___init__ zk_Store___init__
  have hB_Store___init__ := hF_Store___init__.binds (ps := ["self", "many"]) fun _ _ _ _ _ _ us hl => match us, hl with | [_, _], _ => rfl
  have hF_Store_is_wish := fun_mk (st := s_Store_is_wish) zl_Store_is_wish zc_Store_is_wish zk_Store_is_wish
  have hB_Store_is_wish := hF_Store_is_wish.binds (ps := ["self", "thing"]) fun _ _ _ _ _ _ us hl => match us, hl with | [_, _], _ => rfl
  have hF_Keeper___init__ := fun_mk (st := s_Keeper___init__) zl_Keeper___init__ zc_Keeper___init__ zk_Keeper___init__
  have hB_Keeper___init__ := hF_Keeper___init__.binds (ps := ["self", "pages"]) fun _ _ _ _ _ _ us hl => match us, hl with | [_, _], _ => rfl
  have hF_Ways___init__ := fun_mk (st := s_Ways___init__) zl_Ways___init__ zc_Ways___init__ zk_Ways___init__
  have hB_Ways___init__ := hF_Ways___init__.binds (ps := ["self", "many", "toll"]) fun _ _ _ _ _ _ us hl => match us, hl with | [_, _, _], _ => rfl
  have hF_Ways_is_wish := fun_mk (st := s_Ways_is_wish) zl_Ways_is_wish zc_Ways_is_wish zk_Ways_is_wish
  have hB_Ways_is_wish := hF_Ways_is_wish.binds (ps := ["self", "thing"]) fun _ _ _ _ _ _ us hl => match us, hl with | [_, _], _ => rfl
  have hX_Changer___init__ : FunD K "__init__" "Changer.__init__" (defArgs s_Changer___init__) (defBody s_Changer___init__) (defScope s_Changer___init__) [.int 0] [] f26 _ := ⟨⟨_, _, _, _, _, _, _, _, _, _, rfl, zl_Changer___init__, zc_Changer___init__, .inr ⟨by simp, yTf26, _, [.int 0 ytkf26], ynf26, rfl, zyt_Changer___init__, rfl, .cons ⟨_, rfl⟩ .nil⟩, .inl rfl⟩, zk_Changer___init__⟩
  have hF_Changer___init__ : FTd K "__init__" "Changer.__init__" s_Changer___init__ f26 ["self", "many", "toll", "start"] [.int 0] := ftd_mk hX_Changer___init__ (by simp) (fun _ _ _ _ _ _ _ us its hu hi => match us, its, hu, hi with | [_, _, _, _], [_], _, _ => ⟨_, rfl, rfl⟩)
  have hF_sum_read := fun_mk (st := s_sum_read) zl_sum_read zc_sum_read zk_sum_read
  have hB_sum_read := hF_sum_read.binds (ps := ["word"]) fun _ _ _ _ _ _ us hl => match us, hl with | [_], _ => rfl
  have hF_number_read := fun_mk (st := s_number_read) zl_number_read zc_number_read zk_number_read
  have hB_number_read := hF_number_read.binds (ps := ["word"]) fun _ _ _ _ _ _ us hl => match us, hl with | [_], _ => rfl
  have hF_rule_of := fun_mk (st := s_rule_of) zl_rule_of zc_rule_of zk_rule_of
  have hB_rule_of := hF_rule_of.binds (ps := ["word", "start"]) fun _ _ _ _ _ _ us hl => match us, hl with | [_, _], _ => rfl
  have hF_world_start := fun_mk (st := s_world_start) zl_world_start zc_world_start zk_world_start
  have hB_world_start := hF_world_start.binds (ps := ["word", "start"]) fun _ _ _ _ _ _ us hl => match us, hl with | [_, _], _ => rfl
  have hF_many_fit := fun_mk (st := s_many_fit) zl_many_fit zc_many_fit zk_many_fit
  have hB_many_fit := hF_many_fit.binds (ps := ["word", "many"]) fun _ _ _ _ _ _ us hl => match us, hl with | [_, _], _ => rfl
  have hF_start_read := fun_mk (st := s_start_read) zl_start_read zc_start_read zk_start_read
  have hB_start_read := hF_start_read.binds (ps := ["words"]) fun _ _ _ _ _ _ us hl => match us, hl with | [_], _ => rfl
  have hF_wish_read := fun_mk (st := s_wish_read) zl_wish_read zc_wish_read zk_wish_read
  have hB_wish_read := hF_wish_read.binds (ps := ["words", "word", "world"]) fun _ _ _ _ _ _ us hl => match us, hl with | [_, _, _], _ => rfl
  have hF_read_game := fun_mk (st := s_read_game) zl_read_game zc_read_game zk_read_game
  have hB_read_game := hF_read_game.binds (ps := ["text"]) fun _ _ _ _ _ _ us hl => match us, hl with | [_], _ => rfl
  have hF__law_cell := fun_mk (st := s__law_cell) zl__law_cell zc__law_cell zk__law_cell
  have hB__law_cell := hF__law_cell.binds (ps := ["_law_script", "_law_k"]) fun _ _ _ _ _ _ us hl => match us, hl with | [_, _], _ => rfl
  have hF__law_mixed := fun_mk (st := s__law_mixed) zl__law_mixed zc__law_mixed zk__law_mixed
  have hB__law_mixed := hF__law_mixed.binds (ps := ["_law_cell_here", "_law_k"]) fun _ _ _ _ _ _ us hl => match us, hl with | [_, _], _ => rfl
  have hF__law_whole := fun_mk (st := s__law_whole) zl__law_whole zc__law_whole zk__law_whole
  have hB__law_whole := hF__law_whole.binds (ps := ["_law_found"]) fun _ _ _ _ _ _ us hl => match us, hl with | [_], _ => rfl
  have hF__law_same := fun_mk (st := s__law_same) zl__law_same zc__law_same zk__law_same
  have hB__law_same := hF__law_same.binds (ps := ["_law_found", "_law_due"]) fun _ _ _ _ _ _ us hl => match us, hl with | [_, _], _ => rfl
  have hF__law_all_same := fun_mk (st := s__law_all_same) zl__law_all_same zc__law_all_same zk__law_all_same
  have hB__law_all_same := hF__law_all_same.binds (ps := ["_law_found", "_law_due"]) fun _ _ _ _ _ _ us hl => match us, hl with | [_, _], _ => rfl
  have hF__law_amount := fun_mk (st := s__law_amount) zl__law_amount zc__law_amount zk__law_amount
  have hB__law_amount := hF__law_amount.binds (ps := ["_law_cell_here", "_law_k"]) fun _ _ _ _ _ _ us hl => match us, hl with | [_, _], _ => rfl
  have hF__law_place := fun_mk (st := s__law_place) zl__law_place zc__law_place zk__law_place
  have hB__law_place := hF__law_place.binds (ps := ["_law_cell_here", "_law_k"]) fun _ _ _ _ _ _ us hl => match us, hl with | [_, _], _ => rfl
  have hF__law_names := fun_mk (st := s__law_names) zl__law_names zc__law_names zk__law_names
  have hB__law_names := hF__law_names.binds (ps := ["_law_number", "_law_many"]) fun _ _ _ _ _ _ us hl => match us, hl with | [_, _], _ => rfl
  have hF__law_start := fun_mk (st := s__law_start) zl__law_start zc__law_start zk__law_start
  have hB__law_start := hF__law_start.binds (ps := ["_law_script"]) fun _ _ _ _ _ _ us hl => match us, hl with | [_], _ => rfl
  have hF__law_wish := fun_mk (st := s__law_wish) zl__law_wish zc__law_wish zk__law_wish
  have hB__law_wish := hF__law_wish.binds (ps := ["_law_word", "_law_start_here", "_law_cell_here", "_law_k"]) fun _ _ _ _ _ _ us hl => match us, hl with | [_, _, _, _], _ => rfl
  have hF__law_words := fun_mk (st := s__law_words) zl__law_words zc__law_words zk__law_words
  have hB__law_words := hF__law_words.binds (ps := ["_law_thing"]) fun _ _ _ _ _ _ us hl => match us, hl with | [_], _ => rfl
  have hF__law_lines := fun_mk (st := s__law_lines) zl__law_lines zc__law_lines zk__law_lines
  have hB__law_lines := hF__law_lines.binds (ps := ["_law_word", "_law_start_here", "_law_wishes"]) fun _ _ _ _ _ _ us hl => match us, hl with | [_, _, _], _ => rfl
  have hF__law_text := fun_mk (st := s__law_text) zl__law_text zc__law_text zk__law_text
  have hB__law_text := hF__law_text.binds (ps := ["_law_script", "_law_lines_here"]) fun _ _ _ _ _ _ us hl => match us, hl with | [_, _], _ => rfl
  have hF_law := fun_mk (st := s_law) zl_law zc_law zk_law
  have hB_law := hF_law.binds (ps := ["_law_script"]) fun _ _ _ _ _ _ us hl => match us, hl with | [_], _ => rfl
  have hXA : XA K mg (caOf K) f0 exs := {
    one := fun c hc => by
      cases c <;> first | cases hc; done | skip
      · exact ⟨PySem.W.mg_of X G za_LateError, ⟨⟨_, _, _, _, _, _, _, _, _, _, _, _, _, _, _, zxl_LateError, by rfl⟩, zxs_LateError, zxe_LateError, zxty_LateError, zxk_LateError⟩, zxi_LateError, zxr_LateError, ⟨zxga_LateError, zxgg_LateError, zxe_LateError, zxh_LateError⟩, zxc_LateError, zxcl_LateError, zxm_LateError, kit_ve zxv_LateError⟩
      · exact ⟨PySem.W.mg_of X G za_NoState, ⟨⟨_, _, _, _, _, _, _, _, _, _, _, _, _, _, _, zxl_NoState, by rfl⟩, zxs_NoState, zxe_NoState, zxty_NoState, zxk_NoState⟩, zxi_NoState, zxr_NoState, ⟨zxga_NoState, zxgg_NoState, zxe_NoState, zxh_NoState⟩, zxc_NoState, zxcl_NoState, zxm_NoState, kit_ve zxv_NoState⟩
      · exact ⟨PySem.W.mg_of X G za_NoText, ⟨⟨_, _, _, _, _, _, _, _, _, _, _, _, _, _, _, zxl_NoText, by rfl⟩, zxs_NoText, zxe_NoText, zxty_NoText, zxk_NoText⟩, zxi_NoText, zxr_NoText, ⟨zxga_NoText, zxgg_NoText, zxe_NoText, zxh_NoText⟩, zxc_NoText, zxcl_NoText, zxm_NoText, kit_ve zxv_NoText⟩
    sub := fun c C hc hC => by
      cases c <;> first | cases hc; done | (cases C <;> first | cases hC; done | assumption)
    tI := zxtI
    gn := zxgn
    gt := zxgt
    vV := zxvV
    bV := PySem.W.mg_none_of X G zb_ValueError }
  have T : Tx K mg ⟨f0, f1, f2, f3, f4, f5, f6, f7, f8, f9, f10, f11, f12, f13, f14, f15, f16, f17, f18, f19, f20, f21, f22, f23, f24, f25, f26, f27, f28, f29, f30, f31, f32, f33, f34, f35, f36, f37, f38, f39, f40, f41, f42, f43, f44, f45, f46, f47, fa⟩ :=
    ⟨PySem.W.mg_none_of X G zb_ValueError,
     PySem.W.mg_none_of X G zb_isinstance,
     PySem.W.mg_none_of X G zb_bool,
     PySem.W.mg_none_of X G zb_int,
     PySem.W.mg_none_of X G zb_str,
     PySem.W.mg_none_of X G zb_len,
     PySem.W.mg_none_of X G zb_tuple,
     PySem.W.mg_none_of X G zb_set,
     PySem.W.mg_none_of X G zb_list,
     PySem.W.mg_none_of X G zb_sorted,
     PySem.W.mg_none_of X G zb_range,
     PySem.W.mg_none_of X G zb_all,
     PySem.W.mg_none_of X G zb_enumerate,
     PySem.W.mg_none_of X G zb_zip,
     PySem.W.mg_none_of X G zb_max,
     PySem.W.mg_of X G za_is_between,
     ⟨_, ⟨_, rfl⟩, PySem.W.mg_of X G zg_GREATEST⟩,
     ⟨_, ⟨_, rfl⟩, PySem.W.mg_of X G zg_LETTERS⟩,
     PySem.W.mg_of X G za_is_name,
     PySem.W.mg_of X G za_is_amount,
     PySem.W.mg_of X G za_is_place,
     PySem.W.mg_of X G za_are_places,
     PySem.W.mg_of X G za_line_of,
     PySem.W.mg_of X G za_are_names,
     ⟨_, ⟨_, rfl⟩, PySem.W.mg_of X G zg_MOST_FIGURES⟩,
     ⟨_, ⟨_, rfl⟩, PySem.W.mg_of X G zg_FIGURES⟩,
     PySem.W.mg_of X G za_sum_read,
     PySem.W.mg_of X G za_rule_of,
     PySem.W.mg_of X G za_number_read,
     PySem.W.mg_of X G za_many_fit,
     PySem.W.mg_of X G za_wish_read,
     PySem.W.mg_of X G za_start_read,
     ⟨_, ⟨_, rfl⟩, PySem.W.mg_of X G zg_MOST_ASKS⟩,
     PySem.W.mg_of X G za_world_start,
     PySem.W.mg_of X G za__law_whole,
     PySem.W.mg_of X G za__law_all_same,
     PySem.W.mg_of X G za__law_same,
     PySem.W.mg_of X G za__law_mixed,
     PySem.W.mg_of X G za__law_amount,
     PySem.W.mg_of X G za__law_cell,
     PySem.W.mg_of X G za__law_names,
     PySem.W.mg_of X G za__law_place,
     PySem.W.mg_of X G za__law_words,
     PySem.W.mg_of X G za__law_start,
     PySem.W.mg_of X G za__law_text,
     PySem.W.mg_of X G za_read_game,
     PySem.W.mg_of X G za__law_wish,
     PySem.W.mg_of X G za__law_lines,
     hF_LateError___init__,
     ⟨_, hF_is_between, hB_is_between⟩,
     ⟨_, hF_is_amount, hB_is_amount⟩,
     ⟨_, hF_is_name, hB_is_name⟩,
     ⟨_, hF_are_names, hB_are_names⟩,
     ⟨_, hF_Rule___init__, hB_Rule___init__⟩,
     ⟨_, hF_Bags___init__, hB_Bags___init__⟩,
     ⟨_, hF_Bags_is_wish, hB_Bags_is_wish⟩,
     ⟨_, hF_Filler___init__, hB_Filler___init__⟩,
     ⟨_, hF_Hire___init__, hB_Hire___init__⟩,
     ⟨_, hF_Hire_is_wish, hB_Hire_is_wish⟩,
     ⟨_, hF_Buyer___init__, hB_Buyer___init__⟩,
     ⟨_, hF_is_place, hB_is_place⟩,
     ⟨_, hF_are_places, hB_are_places⟩,
     ⟨_, hF_line_of, hB_line_of⟩,
     ⟨_, hF_Line___init__, hB_Line___init__⟩,
     ⟨_, hF_Line_is_wish, hB_Line_is_wish⟩,
     ⟨_, hF_Both___init__, hB_Both___init__⟩,
     ⟨_, hF_Shelf___init__, hB_Shelf___init__⟩,
     ⟨_, hF_Shelf_is_wish, hB_Shelf_is_wish⟩,
     ⟨_, hF_Front___init__, hB_Front___init__⟩,
     ⟨_, hF_Store___init__, hB_Store___init__⟩,
     ⟨_, hF_Store_is_wish, hB_Store_is_wish⟩,
     ⟨_, hF_Keeper___init__, hB_Keeper___init__⟩,
     ⟨_, hF_Ways___init__, hB_Ways___init__⟩,
     ⟨_, hF_Ways_is_wish, hB_Ways_is_wish⟩,
     hF_Changer___init__,
     ⟨_, hF_sum_read, hB_sum_read⟩,
     ⟨_, hF_number_read, hB_number_read⟩,
     ⟨_, hF_rule_of, hB_rule_of⟩,
     ⟨_, hF_world_start, hB_world_start⟩,
     ⟨_, hF_many_fit, hB_many_fit⟩,
     ⟨_, hF_start_read, hB_start_read⟩,
     ⟨_, hF_wish_read, hB_wish_read⟩,
     ⟨_, hF_read_game, hB_read_game⟩,
     ⟨_, hF__law_cell, hB__law_cell⟩,
     ⟨_, hF__law_mixed, hB__law_mixed⟩,
     ⟨_, hF__law_whole, hB__law_whole⟩,
     ⟨_, hF__law_same, hB__law_same⟩,
     ⟨_, hF__law_all_same, hB__law_all_same⟩,
     ⟨_, hF__law_amount, hB__law_amount⟩,
     ⟨_, hF__law_place, hB__law_place⟩,
     ⟨_, hF__law_names, hB__law_names⟩,
     ⟨_, hF__law_start, hB__law_start⟩,
     ⟨_, hF__law_wish, hB__law_wish⟩,
     ⟨_, hF__law_words, hB__law_words⟩,
     ⟨_, hF__law_lines, hB__law_lines⟩,
     ⟨_, hF__law_text, hB__law_text⟩,
     ⟨_, hF_law, hB_law⟩,
     ⟨⟨zmk_Bags, zi_Bags, zif_Bags, zkc_Bags⟩, PySem.W.mg_of X G za_Bags⟩,
     ⟨⟨zmk_Hire, zi_Hire, zif_Hire, zkc_Hire⟩, PySem.W.mg_of X G za_Hire⟩,
     ⟨⟨zmk_Line, zi_Line, zif_Line, zkc_Line⟩, PySem.W.mg_of X G za_Line⟩,
     ⟨⟨zmk_Shelf, zi_Shelf, zif_Shelf, zkc_Shelf⟩, PySem.W.mg_of X G za_Shelf⟩,
     ⟨⟨zmk_Store, zi_Store, zif_Store, zkc_Store⟩, PySem.W.mg_of X G za_Store⟩,
     ⟨⟨zmk_Ways, zi_Ways, zif_Ways, zkc_Ways⟩, PySem.W.mg_of X G za_Ways⟩,
     ⟨⟨zmk_Filler, zi_Filler, zif_Filler, zkc_Filler⟩, PySem.W.mg_of X G za_Filler⟩,
     ⟨⟨zmk_Both, zi_Both, zif_Both, zkc_Both⟩, PySem.W.mg_of X G za_Both⟩,
     ⟨⟨zmk_Front, zi_Front, zif_Front, zkc_Front⟩, PySem.W.mg_of X G za_Front⟩,
     ⟨⟨zmk_Buyer, zi_Buyer, zif_Buyer, zkc_Buyer⟩, PySem.W.mg_of X G za_Buyer⟩,
     ⟨⟨zmk_Changer, zi_Changer, zif_Changer, zkc_Changer⟩, PySem.W.mg_of X G za_Changer⟩,
     ⟨⟨zmk_Keeper, zi_Keeper, zif_Keeper, zkc_Keeper⟩, PySem.W.mg_of X G za_Keeper⟩,
     ⟨zpg_Bags, zhd_Bags, zpo_Bags, zsa_Bags⟩,
     ⟨zpg_Hire, zhd_Hire, zpo_Hire, zsa_Hire⟩,
     ⟨zpg_Line, zhd_Line, zpo_Line, zsa_Line⟩,
     ⟨zpg_Shelf, zhd_Shelf, zpo_Shelf, zsa_Shelf⟩,
     ⟨zpg_Store, zhd_Store, zpo_Store, zsa_Store⟩,
     ⟨zpg_Ways, zhd_Ways, zpo_Ways, zsa_Ways⟩,
     ⟨zpg_Filler, zhd_Filler, zpo_Filler, zsa_Filler⟩,
     ⟨zpg_Both, zhd_Both, zpo_Both, zsa_Both⟩,
     ⟨zpg_Front, zhd_Front, zpo_Front, zsa_Front⟩,
     ⟨zpg_Buyer, zhd_Buyer, zpo_Buyer, zsa_Buyer⟩,
     ⟨zpg_Changer, zhd_Changer, zpo_Changer, zsa_Changer⟩,
     ⟨zpg_Keeper, zhd_Keeper, zpo_Keeper, zsa_Keeper⟩,
     zn_Bags_room,
     zn_Hire_whole,
     zn_Line_many,
     zn_Shelf_things,
     zn_Store_many,
     zn_Ways_many,
     zn_Ways_toll,
     zn_Filler_world,
     zn_Filler_now,
     zn_Filler_total,
     zn_Filler_room,
     zn_Filler_opened,
     zn_Both_world,
     zn_Both_now,
     zn_Both_total,
     zn_Front_world,
     zn_Front_now,
     zn_Front_total,
     zn_Buyer_world,
     zn_Buyer_now,
     zn_Buyer_total,
     zn_Buyer_whole,
     zn_Buyer_hired,
     zn_Changer_world,
     zn_Changer_now,
     zn_Changer_total,
     zn_Changer_toll,
     zn_Changer_known,
     zn_Keeper_world,
     zn_Keeper_now,
     zn_Keeper_total,
     zn_Keeper_kept,
     hXA,
     ⟨PySem.W.mg_of X G za_Bound, ⟨zdr_Bound___init__, zdg_Bound___init__⟩, zda_Bound___init__⟩,
     ⟨zm_Bags_is_wish, zmf_Bags_is_wish, zk_Bags_is_wish⟩,
     ⟨zm_Hire_is_wish, zmf_Hire_is_wish, zk_Hire_is_wish⟩,
     ⟨zm_Line_is_wish, zmf_Line_is_wish, zk_Line_is_wish⟩,
     ⟨zm_Shelf_is_wish, zmf_Shelf_is_wish, zk_Shelf_is_wish⟩,
     ⟨zm_Store_is_wish, zmf_Store_is_wish, zk_Store_is_wish⟩,
     ⟨zm_Ways_is_wish, zmf_Ways_is_wish, zk_Ways_is_wish⟩⟩
  exact ⟨PySem.W.fnOf "law" "law" (defArgs s_law) (defBody s_law) (defScope s_law) .none kVf48 dcf48 pmf48 anf48 cdf48 ctf48, fun s v => .of_eq rfl, fun P w base _ _ => k_law T hF_law⟩
end Pf
namespace Pf
open Lk
open PySem (Str)
def okD : D → Bool
  | .ref _ => false
  | .rol _ => false
  | .pr _ => false
  | _ => true
def cellI (ns : List Int) (k : Int) : Int := ns.getD k.toNat 0
def rawI (c k : Int) : Int := (c % 2147483647 * 48271 + 7919 * k * k + 104729) % 2147483647
def mixI (c k : Int) : Int := rawI c k * rawI c k % 2147483629
theorem raw_b (c k : Int) : 0 ≤ rawI c k ∧ rawI c k < 2147483647 := ⟨Int.emod_nonneg _ (by decide), Int.emod_lt_of_pos _ (by decide)⟩
theorem mix_b (c k : Int) : 0 ≤ mixI c k ∧ mixI c k < 2147483629 := ⟨Int.emod_nonneg _ (by decide), Int.emod_lt_of_pos _ (by decide)⟩
theorem r_mixed (c k : Int) (h0 : 0 ≤ k) (hk : k < 1000000) (hp : List Ob) : F__law_mixed [.int c, .int k] hp = .ok (.v (.int (mixI c k))) hp := by
  have hb := raw_b c k
  have hk' : Bits 20 k := by unfold Bits; omega
  have h1 : mulOk (c % 2147483647) 48271 = true := mulOk_b (by omega) (by omega) (by omega) (by omega)
  have h2 : mulOk 7919 k = true := mulOk_b (by omega) (by omega) (by omega) (by omega)
  have h3 : mulOk (7919 * k) k = true := mulOk_b (by omega) (by omega) (by omega) (by omega)
  have h4 : mulOk (rawI c k) (rawI c k) = true := mulOk_b (by omega) (by omega) (by omega) (by omega)
  unfold rawI at h4
  simp [mkFn,iIfS,iSeq,iOr,iAnd,iNot,iIf,iIsT,iVar,thenS,Rs.bind,Lk.hold,rdv,rdvs,isTy,isB,iRet,iChain,gLe,gLt,gGt,gGe,gCmp,retv,iNext,iC,op2,gAdd_i,gAdd_t,gAdd_l,gAdd_s,mulOk_b,dec_of,gSub,gMod,gDiv,iSet,iOwn,Lk.arg,Lk.args,Lk.pargs,Lk.settle,setv,iDrop,iTup,iLst,iB,rdvL,rdvLs,gLen,gList,gTuple,gMax,iCall,backR,ofRV,iMeth,lookM,iNew,iFld,iSetF,getF,putFl,gEq,gNe,gIs,notL,gIx,iNeg,iMut,mutTail,getL,putL,gApp,iDct,iHeap,noRef,noRefs,isFlat,tgN,tgT,tgs,iSl,pNo,pSome,gCut,iTgt,gPow,gMul,Lk.qE,iRaise,isSub,isKeyD,iSlS,iSetK,isTup,op2k, F__law_mixed, m__law_mixed, h1, h2, h3, h4, mixI, rawI]
theorem r_cell (ns : List Int) (k : Int) (h0 : 0 ≤ k) (hp : List Ob) : F__law_cell [.rol ns, .int k] hp = .ok (.v (.int (cellI ns k))) hp := by
  obtain ⟨n, rfl⟩ := Int.eq_ofNat_of_zero_le h0
  unfold cellI
  by_cases h : n < ns.length
  · have e : L2.atI ns (n : Int) = some (ns.getD n 0) := by
      unfold L2.atI L2.ixN
      simp [h]
    simp [mkFn,iIfS,iSeq,iOr,iAnd,iNot,iIf,iIsT,iVar,thenS,Rs.bind,Lk.hold,rdv,rdvs,isTy,isB,iRet,iChain,gLe,gLt,gGt,gGe,gCmp,retv,iNext,iC,op2,gAdd_i,gAdd_t,gAdd_l,gAdd_s,mulOk_b,dec_of,gSub,gMod,gDiv,iSet,iOwn,Lk.arg,Lk.args,Lk.pargs,Lk.settle,setv,iDrop,iTup,iLst,iB,rdvL,rdvLs,gLen,gList,gTuple,gMax,iCall,backR,ofRV,iMeth,lookM,iNew,iFld,iSetF,getF,putFl,gEq,gNe,gIs,notL,gIx,iNeg,iMut,mutTail,getL,putL,gApp,iDct,iHeap,noRef,noRefs,isFlat,tgN,tgT,tgs,iSl,pNo,pSome,gCut,iTgt,gPow,gMul,Lk.qE,iRaise,isSub,isKeyD,iSlS,iSetK,isTup,op2k, F__law_cell, m__law_cell, h, e]
  · simp [mkFn,iIfS,iSeq,iOr,iAnd,iNot,iIf,iIsT,iVar,thenS,Rs.bind,Lk.hold,rdv,rdvs,isTy,isB,iRet,iChain,gLe,gLt,gGt,gGe,gCmp,retv,iNext,iC,op2,gAdd_i,gAdd_t,gAdd_l,gAdd_s,mulOk_b,dec_of,gSub,gMod,gDiv,iSet,iOwn,Lk.arg,Lk.args,Lk.pargs,Lk.settle,setv,iDrop,iTup,iLst,iB,rdvL,rdvLs,gLen,gList,gTuple,gMax,iCall,backR,ofRV,iMeth,lookM,iNew,iFld,iSetF,getF,putFl,gEq,gNe,gIs,notL,gIx,iNeg,iMut,mutTail,getL,putL,gApp,iDct,iHeap,noRef,noRefs,isFlat,tgN,tgT,tgs,iSl,pNo,pSome,gCut,iTgt,gPow,gMul,Lk.qE,iRaise,isSub,isKeyD,iSlS,iSetK,isTup,op2k, F__law_cell, m__law_cell, h]
theorem bits_cell {ns : List Int} (hb : ∀ z ∈ ns, PySem.Builtin.Int.intBits z ≤ 1048576) (k : Int) : Bits 1048577 (cellI ns k) := by
  unfold cellI
  by_cases hk : k.toNat < ns.length
  · rw [List.getD_eq_getElem?_getD, List.getElem?_eq_getElem hk]
    exact bits_int (hb _ (List.getElem_mem hk))
  · rw [List.getD_eq_getElem?_getD, List.getElem?_eq_none (by omega)]
    show Bits 1048577 0
    exact Bits.mono (j := 1) (by unfold Bits; decide) (by decide)
def betw : D → Int → Int → Bool
  | .int i, lo, hi => decide (lo ≤ i) && decide (i ≤ hi)
  | _, _, _ => false
theorem betw_i {i lo hi : Int} (h1 : lo ≤ i) (h2 : i ≤ hi) : betw (.int i) lo hi = true := by simp [betw, h1, h2]
theorem r_is_between (d : D) (lo hi : Int) (hp : List Ob) (h : okD d = true) : F_is_between [d, .int lo, .int hi] hp = .ok (.v (.bl (betw d lo hi))) hp := by
  cases d with
  | int i =>
    by_cases h1 : lo ≤ i
    · by_cases h2 : i ≤ hi
      · simp [mkFn,iIfS,iSeq,iOr,iAnd,iNot,iIf,iIsT,iVar,thenS,Rs.bind,Lk.hold,rdv,rdvs,isTy,isB,iRet,iChain,gLe,gLt,gGt,gGe,gCmp,retv,iNext,iC,op2,gAdd_i,gAdd_t,gAdd_l,gAdd_s,mulOk_b,dec_of,gSub,gMod,gDiv,iSet,iOwn,Lk.arg,Lk.args,Lk.pargs,Lk.settle,setv,iDrop,iTup,iLst,iB,rdvL,rdvLs,gLen,gList,gTuple,gMax,iCall,backR,ofRV,iMeth,lookM,iNew,iFld,iSetF,getF,putFl,gEq,gNe,gIs,notL,gIx,iNeg,iMut,mutTail,getL,putL,gApp,iDct,iHeap,noRef,noRefs,isFlat,tgN,tgT,tgs,iSl,pNo,pSome,gCut,iTgt,gPow,gMul,Lk.qE,iRaise,isSub,isKeyD,iSlS,iSetK,isTup,op2k, F_is_between, m_is_between, betw, h1, h2]
      · simp [mkFn,iIfS,iSeq,iOr,iAnd,iNot,iIf,iIsT,iVar,thenS,Rs.bind,Lk.hold,rdv,rdvs,isTy,isB,iRet,iChain,gLe,gLt,gGt,gGe,gCmp,retv,iNext,iC,op2,gAdd_i,gAdd_t,gAdd_l,gAdd_s,mulOk_b,dec_of,gSub,gMod,gDiv,iSet,iOwn,Lk.arg,Lk.args,Lk.pargs,Lk.settle,setv,iDrop,iTup,iLst,iB,rdvL,rdvLs,gLen,gList,gTuple,gMax,iCall,backR,ofRV,iMeth,lookM,iNew,iFld,iSetF,getF,putFl,gEq,gNe,gIs,notL,gIx,iNeg,iMut,mutTail,getL,putL,gApp,iDct,iHeap,noRef,noRefs,isFlat,tgN,tgT,tgs,iSl,pNo,pSome,gCut,iTgt,gPow,gMul,Lk.qE,iRaise,isSub,isKeyD,iSlS,iSetK,isTup,op2k, F_is_between, m_is_between, betw, h1, h2]
    · simp [mkFn,iIfS,iSeq,iOr,iAnd,iNot,iIf,iIsT,iVar,thenS,Rs.bind,Lk.hold,rdv,rdvs,isTy,isB,iRet,iChain,gLe,gLt,gGt,gGe,gCmp,retv,iNext,iC,op2,gAdd_i,gAdd_t,gAdd_l,gAdd_s,mulOk_b,dec_of,gSub,gMod,gDiv,iSet,iOwn,Lk.arg,Lk.args,Lk.pargs,Lk.settle,setv,iDrop,iTup,iLst,iB,rdvL,rdvLs,gLen,gList,gTuple,gMax,iCall,backR,ofRV,iMeth,lookM,iNew,iFld,iSetF,getF,putFl,gEq,gNe,gIs,notL,gIx,iNeg,iMut,mutTail,getL,putL,gApp,iDct,iHeap,noRef,noRefs,isFlat,tgN,tgT,tgs,iSl,pNo,pSome,gCut,iTgt,gPow,gMul,Lk.qE,iRaise,isSub,isKeyD,iSlS,iSetK,isTup,op2k, F_is_between, m_is_between, betw, h1]
  | ref n => cases h
  | rol n => cases h
  | pr n => cases h
  | _ => simp [mkFn,iIfS,iSeq,iOr,iAnd,iNot,iIf,iIsT,iVar,thenS,Rs.bind,Lk.hold,rdv,rdvs,isTy,isB,iRet,iChain,gLe,gLt,gGt,gGe,gCmp,retv,iNext,iC,op2,gAdd_i,gAdd_t,gAdd_l,gAdd_s,mulOk_b,dec_of,gSub,gMod,gDiv,iSet,iOwn,Lk.arg,Lk.args,Lk.pargs,Lk.settle,setv,iDrop,iTup,iLst,iB,rdvL,rdvLs,gLen,gList,gTuple,gMax,iCall,backR,ofRV,iMeth,lookM,iNew,iFld,iSetF,getF,putFl,gEq,gNe,gIs,notL,gIx,iNeg,iMut,mutTail,getL,putL,gApp,iDct,iHeap,noRef,noRefs,isFlat,tgN,tgT,tgs,iSl,pNo,pSome,gCut,iTgt,gPow,gMul,Lk.qE,iRaise,isSub,isKeyD,iSlS,iSetK,isTup,op2k, F_is_between, m_is_between, betw]
theorem r_is_amount (d : D) (hp : List Ob) (h : okD d = true) : F_is_amount [d] hp = .ok (.v (.bl (betw d 0 1000000000000000000))) hp := by
  simp [mkFn,iIfS,iSeq,iOr,iAnd,iNot,iIf,iIsT,iVar,thenS,Rs.bind,Lk.hold,rdv,rdvs,isTy,isB,iRet,iChain,gLe,gLt,gGt,gGe,gCmp,retv,iNext,iC,op2,gAdd_i,gAdd_t,gAdd_l,gAdd_s,mulOk_b,dec_of,gSub,gMod,gDiv,iSet,iOwn,Lk.arg,Lk.args,Lk.pargs,Lk.settle,setv,iDrop,iTup,iLst,iB,rdvL,rdvLs,gLen,gList,gTuple,gMax,iCall,backR,ofRV,iMeth,lookM,iNew,iFld,iSetF,getF,putFl,gEq,gNe,gIs,notL,gIx,iNeg,iMut,mutTail,getL,putL,gApp,iDct,iHeap,noRef,noRefs,isFlat,tgN,tgT,tgs,iSl,pNo,pSome,gCut,iTgt,gPow,gMul,Lk.qE,iRaise,isSub,isKeyD,iSlS,iSetK,isTup,op2k, F_is_amount, m_is_amount, r_is_between, h]
open PySem (Str)
open PySem PySem.W in
theorem leP_str (a b : Str) : leP (.str a) (.str b) = decide (a.cps.toList ≤ b.cps.toList) := by
  have h := congrFun (congrFun (dataLe_str (β := Str) id) a) b
  have e : leP (.str a) (.str b) = dataLe false (fun b : Str => PyData.str (id b)) a b := by
    unfold leP dataLe
    simp [toP, sortLe]
  rw [e, h]
  rfl
def leS (a b : Str) : Bool := decide (a.cps.toList ≤ b.cps.toList)
def sortS (ns : List Str) : List Str := ns.mergeSort leS
theorem sortD_str (ns : List Str) : sortD (ns.map D.str) = (sortS ns).map D.str := by
  unfold sortD sortS
  rw [List.map_mergeSort]
  intro a _ b _
  exact (leP_str a b).symm
theorem sortOk_str (ns : List Str) (h : ns.length ≤ 1000000) : sortOk (ns.map D.str) = true := by
  unfold sortOk
  simp only [Bool.and_eq_true, List.all_eq_true, Bool.or_eq_true, decide_eq_true_eq, List.mem_map, forall_exists_index, and_imp, forall_apply_eq_imp_iff₂, List.length_map]
  refine ⟨⟨⟨⟨fun a _ => rfl, fun a _ b _ => ?_⟩, .inr fun a _ => rfl⟩, fun a _ => ?_⟩, h⟩
  · simp [toP, PySem.W.alike]
  · simp [toP, PySem.PyData.depth]
theorem sort_strsT (ns : List Str) (h : ns.length ≤ 1000000) : gSorted [.tup (ns.map D.str)] = some (.fr ((sortS ns).map D.str)) := by
  show (if sortOk (ns.map D.str) = true then some (RX.fr (sortD (ns.map D.str))) else none) = _
  rw [if_pos (sortOk_str ns h), sortD_str]
theorem weqF_str (n : Nat) (i j : Str) : weqF n (.str i) (.str j) = some (decide (i = j)) := by cases n <;> rfl
theorem gInS_l (w : Str) (st : List Str) : gIn (.str w) (.lst (st.map D.str)) = some (.w (.bl (decide (w ∈ st)))) := by
  have h1 : (st.map D.str).any (fun x => weqF 20 x (.str w) == some true) = decide (w ∈ st) := by
    induction st with
    | nil => simp
    | cons a st ih =>
      rw [List.map_cons, List.any_cons, ih, weqF_str]
      by_cases h : a = w
      · simp [h]
      · have h' : ¬ w = a := fun q => h q.symm
        simp [h, h']
  have h2 : (st.map D.str).all (fun x => (weqF 20 x (.str w)).isSome) = true := List.all_eq_true.mpr fun x hx => by
    obtain ⟨v, _, rfl⟩ := List.mem_map.mp hx
    rw [weqF_str]; rfl
  show (if notL (.str w) = true ∧ _ then some (RX.w (.bl _)) else none) = _
  rw [if_pos ⟨rfl, h2⟩, h1]
theorem gInS_t (w : Str) (st : List Str) : gIn (.str w) (.tup (st.map D.str)) = some (.w (.bl (decide (w ∈ st)))) := gInS_l w st
abbrev tS (st : List Str) : D := .tup (st.map D.str)
abbrev abc : Str := "abcdefghijklmnopqrstuvwxyz"
theorem abc_list : abc.cps.toList = (List.range 26).map (· + 97) := by decide +kernel
theorem abc_len : abc.length = 26 := by decide +kernel
def ltr (i : Int) : Nat := 97 + i.toNat
theorem abc_at (i : Int) (h0 : 0 ≤ i) (h1 : i < 26) : L2.atI abc.cps.toList i = some (ltr i) := by
  obtain ⟨n, rfl⟩ := Int.eq_ofNat_of_zero_le h0
  have hn : n < 26 := by omega
  rw [atI_nat, abc_list, List.getElem?_map, List.getElem?_range hn]
  simp [ltr, Nat.add_comm]
def nameOk (x : Str) : Prop := (1 ≤ x.length ∧ x.length ≤ 8) ∧ ∀ c ∈ x.cps.toList, 97 ≤ c ∧ c ≤ 122
theorem sign_in (c : Nat) (h : 97 ≤ c ∧ c ≤ 122) : gNiS (.str ⟨#[c]⟩) (.str abc) = some (.w (.bl false)) := by
  have m : c ∈ abc.cps.toList := by
    rw [abc_list]
    exact List.mem_map.mpr ⟨c - 97, List.mem_range.mpr (by omega), by omega⟩
  show (signN ⟨#[c]⟩).map (fun k => RX.w (.bl (!decide (k ∈ abc.cps.toList)))) = _
  show some (RX.w (.bl (!decide (c ∈ abc.cps.toList)))) = _
  rw [decide_eq_true m]
  rfl
theorem r_name (x : Str) (h : nameOk x) (hp : List Ob) : F_is_name [.str x] hp = .ok (.v (.bl true)) hp := by
  obtain ⟨⟨h1, h2⟩, h3⟩ := h
  have hq : qE (iVar 0) ⟨[.v (.str x), .no], hp⟩ = .ok (strD x, .val) ⟨[.v (.str x), .no], hp⟩ := by simp [mkFn,iIfS,iSeq,iOr,iAnd,iNot,iIf,iIsT,iVar,thenS,Rs.bind,Lk.hold,rdv,rdvs,isTy,isB,iRet,iChain,gLe,gLt,gGt,gGe,gCmp,retv,iNext,iC,op2,gAdd_i,gAdd_t,gAdd_l,gAdd_s,mulOk_b,dec_of,gSub,gMod,gDiv,iSet,iOwn,Lk.arg,Lk.args,Lk.pargs,Lk.settle,setv,iDrop,iTup,iLst,iB,rdvL,rdvLs,gLen,gList,gTuple,gMax,iCall,backR,ofRV,iMeth,lookM,iNew,iFld,iSetF,getF,putFl,gEq,gNe,gIs,notL,gIx,iNeg,iMut,mutTail,getL,putL,gApp,iDct,iHeap,noRef,noRefs,isFlat,tgN,tgT,tgs,iSl,pNo,pSome,gCut,iTgt,gPow,gMul,Lk.qE,iRaise,isSub,isKeyD,iSlS,iSetK,isTup,op2k]
  have i1 : (1 : Int) ≤ (x.length : Int) := by omega
  have i2 : (x.length : Int) ≤ 8 := by omega
  have i3 : x.length ≤ 1000000 := by omega
  have i4 : 0 < x.length := by omega
  unfold F_is_name; refine ws_fnE rfl ?_; unfold m_is_name; simp only [List.map_cons, List.map_nil, List.cons_append, List.nil_append, List.replicate]
  (repeat' ((try with_reducible apply ws_seq); first | (with_reducible first | apply ws_if_and | apply ws_if_or | apply ws_if_not | apply ws_ret_and | apply ws_ret_or | apply ws_ret_if | apply ws_set_and | apply ws_set_or | apply ws_set_if) | ((first | (with_reducible apply ws_next) | ((with_reducible first | refine ws_if fun rZ hZ => ?_ | refine ws_at fun rZ hZ => ?_); simp (disch := first | (simp; done) | assumption | omega | rfl | (simp; omega)) [mkFn,iIfS,iSeq,iOr,iAnd,iNot,iIf,iIsT,iVar,thenS,Rs.bind,Lk.hold,rdv,rdvs,isTy,isB,iRet,iChain,gLe,gLt,gGt,gGe,gCmp,retv,iNext,iC,op2,gAdd_i,gAdd_t,gAdd_l,gAdd_s,mulOk_b,dec_of,gSub,gMod,gDiv,iSet,iOwn,Lk.arg,Lk.args,Lk.pargs,Lk.settle,setv,iDrop,iTup,iLst,iB,rdvL,rdvLs,gLen,gList,gTuple,gMax,iCall,backR,ofRV,iMeth,lookM,iNew,iFld,iSetF,getF,putFl,gEq,gNe,gIs,notL,gIx,iNeg,iMut,mutTail,getL,putL,gApp,iDct,iHeap,noRef,noRefs,isFlat,tgN,tgT,tgs,iSl,pNo,pSome,gCut,iTgt,gPow,gMul,Lk.qE,iRaise,isSub,isKeyD,iSlS,iSetK,isTup,op2k, h1, h2, i1, i2, i3, i4] at hZ; subst hZ)); first | (with_reducible first | apply c_T | apply c_F | refine c_D (fun hz => ?_) (fun hz => ?_) | refine c_N (fun hz => ?_) (fun hz => ?_) | refine c_B (fun hz => ?_) (fun hz => ?_) | apply c_X) | (repeat1' (with_reducible first | apply q_nx | apply q_ret | apply q_exc | apply q_brk | apply q_cnt | apply l_nx | apply l_cnt | apply l_brk | apply l_ret | apply l_exc | apply f_nx | apply f_ret | apply f_exc)))))
  with_reducible refine ws_seq ?_
  refine ws_forN (strD x) _ hq (fun _ s => ∃ a, s = ⟨[.v (.str x), a], hp⟩) ⟨_, rfl⟩ ?_ ?_
  · rintro i d s1 hd ⟨a, rfl⟩
    obtain ⟨c, hc, rfl⟩ := List.mem_map.mp (List.mem_of_getElem? hd)
    have si := sign_in c (h3 c hc)
    unfold b_is_name_1
    simp only [Lk.setv, List.set]
    (repeat' ((try with_reducible apply ws_seq); first | (with_reducible first | apply ws_if_and | apply ws_if_or | apply ws_if_not | apply ws_ret_and | apply ws_ret_or | apply ws_ret_if | apply ws_set_and | apply ws_set_or | apply ws_set_if) | ((first | (with_reducible apply ws_next) | ((with_reducible first | refine ws_if fun rZ hZ => ?_ | refine ws_at fun rZ hZ => ?_); simp (disch := first | (simp; done) | assumption | omega | rfl | (simp; omega)) [mkFn,iIfS,iSeq,iOr,iAnd,iNot,iIf,iIsT,iVar,thenS,Rs.bind,Lk.hold,rdv,rdvs,isTy,isB,iRet,iChain,gLe,gLt,gGt,gGe,gCmp,retv,iNext,iC,op2,gAdd_i,gAdd_t,gAdd_l,gAdd_s,mulOk_b,dec_of,gSub,gMod,gDiv,iSet,iOwn,Lk.arg,Lk.args,Lk.pargs,Lk.settle,setv,iDrop,iTup,iLst,iB,rdvL,rdvLs,gLen,gList,gTuple,gMax,iCall,backR,ofRV,iMeth,lookM,iNew,iFld,iSetF,getF,putFl,gEq,gNe,gIs,notL,gIx,iNeg,iMut,mutTail,getL,putL,gApp,iDct,iHeap,noRef,noRefs,isFlat,tgN,tgT,tgs,iSl,pNo,pSome,gCut,iTgt,gPow,gMul,Lk.qE,iRaise,isSub,isKeyD,iSlS,iSetK,isTup,op2k, si] at hZ; subst hZ)); first | (with_reducible first | apply c_T | apply c_F | refine c_D (fun hz => ?_) (fun hz => ?_) | refine c_N (fun hz => ?_) (fun hz => ?_) | refine c_B (fun hz => ?_) (fun hz => ?_) | apply c_X) | (repeat1' (with_reducible first | apply q_nx | apply q_ret | apply q_exc | apply q_brk | apply q_cnt | apply l_nx | apply l_cnt | apply l_brk | apply l_ret | apply l_exc | apply f_nx | apply f_ret | apply f_exc)))))
    exact ⟨_, rfl⟩
  · rintro s1 ⟨a, rfl⟩
    (repeat1' (with_reducible first | apply q_nx | apply q_ret | apply q_exc | apply q_brk | apply q_cnt | apply l_nx | apply l_cnt | apply l_brk | apply l_ret | apply l_exc | apply f_nx | apply f_ret | apply f_exc))
    (repeat' ((try with_reducible apply ws_seq); first | (with_reducible first | apply ws_if_and | apply ws_if_or | apply ws_if_not | apply ws_ret_and | apply ws_ret_or | apply ws_ret_if | apply ws_set_and | apply ws_set_or | apply ws_set_if) | ((first | (with_reducible apply ws_next) | ((with_reducible first | refine ws_if fun rZ hZ => ?_ | refine ws_at fun rZ hZ => ?_); simp (disch := first | (simp; done) | assumption | omega | rfl | (simp; omega)) [mkFn,iIfS,iSeq,iOr,iAnd,iNot,iIf,iIsT,iVar,thenS,Rs.bind,Lk.hold,rdv,rdvs,isTy,isB,iRet,iChain,gLe,gLt,gGt,gGe,gCmp,retv,iNext,iC,op2,gAdd_i,gAdd_t,gAdd_l,gAdd_s,mulOk_b,dec_of,gSub,gMod,gDiv,iSet,iOwn,Lk.arg,Lk.args,Lk.pargs,Lk.settle,setv,iDrop,iTup,iLst,iB,rdvL,rdvLs,gLen,gList,gTuple,gMax,iCall,backR,ofRV,iMeth,lookM,iNew,iFld,iSetF,getF,putFl,gEq,gNe,gIs,notL,gIx,iNeg,iMut,mutTail,getL,putL,gApp,iDct,iHeap,noRef,noRefs,isFlat,tgN,tgT,tgs,iSl,pNo,pSome,gCut,iTgt,gPow,gMul,Lk.qE,iRaise,isSub,isKeyD,iSlS,iSetK,isTup,op2k] at hZ; subst hZ)); first | (with_reducible first | apply c_T | apply c_F | refine c_D (fun hz => ?_) (fun hz => ?_) | refine c_N (fun hz => ?_) (fun hz => ?_) | refine c_B (fun hz => ?_) (fun hz => ?_) | apply c_X) | (repeat1' (with_reducible first | apply q_nx | apply q_ret | apply q_exc | apply q_brk | apply q_cnt | apply l_nx | apply l_cnt | apply l_brk | apply l_ret | apply l_exc | apply f_nx | apply f_ret | apply f_exc)))))
    (all_goals first | with_reducible rfl | (simp [*]; done) | (exfalso; omega) | skip)
theorem r_names (ns : List Str) (h : ∀ x ∈ ns, nameOk x) (hl : 1 ≤ ns.length ∧ ns.length ≤ 8) (hp : List Ob) : F_are_names [tS ns] hp = .ok (.v (.bl (decide ns.Nodup))) hp := by
  have gu := gUnl_strs ns (by omega)
  have l1 : (ns.map D.str).length = ns.length := List.length_map _
  have iff := DS.unl_iff ns
  have hs := fun x hx => r_name x (h x hx) hp
  have hq : qE (iVar 0) ⟨[.v (.tup (ns.map D.str)), .no], hp⟩ = .ok (ns.map D.str, .val) ⟨[.v (.tup (ns.map D.str)), .no], hp⟩ := by
    generalize ns.map D.str = S
    simp [mkFn,iIfS,iSeq,iOr,iAnd,iNot,iIf,iIsT,iVar,thenS,Rs.bind,Lk.hold,rdv,rdvs,isTy,isB,iRet,iChain,gLe,gLt,gGt,gGe,gCmp,retv,iNext,iC,op2,gAdd_i,gAdd_t,gAdd_l,gAdd_s,mulOk_b,dec_of,gSub,gMod,gDiv,iSet,iOwn,Lk.arg,Lk.args,Lk.pargs,Lk.settle,setv,iDrop,iTup,iLst,iB,rdvL,rdvLs,gLen,gList,gTuple,gMax,iCall,backR,ofRV,iMeth,lookM,iNew,iFld,iSetF,getF,putFl,gEq,gNe,gIs,notL,gIx,iNeg,iMut,mutTail,getL,putL,gApp,iDct,iHeap,noRef,noRefs,isFlat,tgN,tgT,tgs,iSl,pNo,pSome,gCut,iTgt,gPow,gMul,Lk.qE,iRaise,isSub,isKeyD,iSlS,iSetK,isTup,op2k]
  have e : decide (((DS.unl ns).length : Int) = (ns.length : Int)) = decide ns.Nodup := by
    by_cases z : ns.Nodup
    · rw [decide_eq_true z, decide_eq_true (by rw [iff.mpr z])]
    · rw [decide_eq_false z, decide_eq_false fun q => z (iff.mp (by omega))]
  unfold tS
  have i1 : (1 : Int) ≤ (ns.length : Int) := by omega
  have i2 : (ns.length : Int) ≤ 8 := by omega
  have i3 : 0 < ns.length := by omega
  have i4 : ¬ ns = [] := fun q => by rw [q] at i3; simp at i3
  unfold F_are_names; refine ws_fnE rfl ?_; unfold m_are_names; simp only [List.map_cons, List.map_nil, List.cons_append, List.nil_append, List.replicate]
  (repeat' ((try with_reducible apply ws_seq); first | (with_reducible first | apply ws_if_and | apply ws_if_or | apply ws_if_not | apply ws_ret_and | apply ws_ret_or | apply ws_ret_if | apply ws_set_and | apply ws_set_or | apply ws_set_if) | ((first | (with_reducible apply ws_next) | ((with_reducible first | refine ws_if fun rZ hZ => ?_ | refine ws_at fun rZ hZ => ?_); simp (disch := first | (simp; done) | assumption | omega | rfl | (simp; omega)) [mkFn,iIfS,iSeq,iOr,iAnd,iNot,iIf,iIsT,iVar,thenS,Rs.bind,Lk.hold,rdv,rdvs,isTy,isB,iRet,iChain,gLe,gLt,gGt,gGe,gCmp,retv,iNext,iC,op2,gAdd_i,gAdd_t,gAdd_l,gAdd_s,mulOk_b,dec_of,gSub,gMod,gDiv,iSet,iOwn,Lk.arg,Lk.args,Lk.pargs,Lk.settle,setv,iDrop,iTup,iLst,iB,rdvL,rdvLs,gLen,gList,gTuple,gMax,iCall,backR,ofRV,iMeth,lookM,iNew,iFld,iSetF,getF,putFl,gEq,gNe,gIs,notL,gIx,iNeg,iMut,mutTail,getL,putL,gApp,iDct,iHeap,noRef,noRefs,isFlat,tgN,tgT,tgs,iSl,pNo,pSome,gCut,iTgt,gPow,gMul,Lk.qE,iRaise,isSub,isKeyD,iSlS,iSetK,isTup,op2k, l1, hl.1, hl.2, i1, i2, i3, i4] at hZ; subst hZ)); first | (with_reducible first | apply c_T | apply c_F | refine c_D (fun hz => ?_) (fun hz => ?_) | refine c_N (fun hz => ?_) (fun hz => ?_) | refine c_B (fun hz => ?_) (fun hz => ?_) | apply c_X) | (repeat1' (with_reducible first | apply q_nx | apply q_ret | apply q_exc | apply q_brk | apply q_cnt | apply l_nx | apply l_cnt | apply l_brk | apply l_ret | apply l_exc | apply f_nx | apply f_ret | apply f_exc)))))
  with_reducible refine ws_seq ?_
  refine ws_forN (ns.map D.str) _ hq (fun _ s => ∃ a, s = ⟨[.v (.tup (ns.map D.str)), a], hp⟩) ⟨_, rfl⟩ ?_ ?_
  · rintro i d s1 hd ⟨a, rfl⟩
    obtain ⟨x, hx, rfl⟩ := List.mem_map.mp (List.mem_of_getElem? hd)
    have si := hs x hx
    generalize ns.map D.str = S at *
    unfold b_are_names_1
    simp only [Lk.setv, List.set]
    (repeat' ((try with_reducible apply ws_seq); first | (with_reducible first | apply ws_if_and | apply ws_if_or | apply ws_if_not | apply ws_ret_and | apply ws_ret_or | apply ws_ret_if | apply ws_set_and | apply ws_set_or | apply ws_set_if) | ((first | (with_reducible apply ws_next) | ((with_reducible first | refine ws_if fun rZ hZ => ?_ | refine ws_at fun rZ hZ => ?_); simp (disch := first | (simp; done) | assumption | omega | rfl | (simp; omega)) [mkFn,iIfS,iSeq,iOr,iAnd,iNot,iIf,iIsT,iVar,thenS,Rs.bind,Lk.hold,rdv,rdvs,isTy,isB,iRet,iChain,gLe,gLt,gGt,gGe,gCmp,retv,iNext,iC,op2,gAdd_i,gAdd_t,gAdd_l,gAdd_s,mulOk_b,dec_of,gSub,gMod,gDiv,iSet,iOwn,Lk.arg,Lk.args,Lk.pargs,Lk.settle,setv,iDrop,iTup,iLst,iB,rdvL,rdvLs,gLen,gList,gTuple,gMax,iCall,backR,ofRV,iMeth,lookM,iNew,iFld,iSetF,getF,putFl,gEq,gNe,gIs,notL,gIx,iNeg,iMut,mutTail,getL,putL,gApp,iDct,iHeap,noRef,noRefs,isFlat,tgN,tgT,tgs,iSl,pNo,pSome,gCut,iTgt,gPow,gMul,Lk.qE,iRaise,isSub,isKeyD,iSlS,iSetK,isTup,op2k, si] at hZ; subst hZ)); first | (with_reducible first | apply c_T | apply c_F | refine c_D (fun hz => ?_) (fun hz => ?_) | refine c_N (fun hz => ?_) (fun hz => ?_) | refine c_B (fun hz => ?_) (fun hz => ?_) | apply c_X) | (repeat1' (with_reducible first | apply q_nx | apply q_ret | apply q_exc | apply q_brk | apply q_cnt | apply l_nx | apply l_cnt | apply l_brk | apply l_ret | apply l_exc | apply f_nx | apply f_ret | apply f_exc)))))
    exact ⟨_, rfl⟩
  · rintro s1 ⟨a, rfl⟩
    rw [← e]
    generalize (DS.unl ns).length = u at *
    generalize ns.length = len at *
    generalize ns.map D.str = S at *
    (repeat1' (with_reducible first | apply q_nx | apply q_ret | apply q_exc | apply q_brk | apply q_cnt | apply l_nx | apply l_cnt | apply l_brk | apply l_ret | apply l_exc | apply f_nx | apply f_ret | apply f_exc))
    (repeat' ((try with_reducible apply ws_seq); first | (with_reducible first | apply ws_if_and | apply ws_if_or | apply ws_if_not | apply ws_ret_and | apply ws_ret_or | apply ws_ret_if | apply ws_set_and | apply ws_set_or | apply ws_set_if) | ((first | (with_reducible apply ws_next) | ((with_reducible first | refine ws_if fun rZ hZ => ?_ | refine ws_at fun rZ hZ => ?_); simp (disch := first | (simp; done) | assumption | omega | rfl | (simp; omega)) [mkFn,iIfS,iSeq,iOr,iAnd,iNot,iIf,iIsT,iVar,thenS,Rs.bind,Lk.hold,rdv,rdvs,isTy,isB,iRet,iChain,gLe,gLt,gGt,gGe,gCmp,retv,iNext,iC,op2,gAdd_i,gAdd_t,gAdd_l,gAdd_s,mulOk_b,dec_of,gSub,gMod,gDiv,iSet,iOwn,Lk.arg,Lk.args,Lk.pargs,Lk.settle,setv,iDrop,iTup,iLst,iB,rdvL,rdvLs,gLen,gList,gTuple,gMax,iCall,backR,ofRV,iMeth,lookM,iNew,iFld,iSetF,getF,putFl,gEq,gNe,gIs,notL,gIx,iNeg,iMut,mutTail,getL,putL,gApp,iDct,iHeap,noRef,noRefs,isFlat,tgN,tgT,tgs,iSl,pNo,pSome,gCut,iTgt,gPow,gMul,Lk.qE,iRaise,isSub,isKeyD,iSlS,iSetK,isTup,op2k, gu, l1] at hZ; subst hZ)); first | (with_reducible first | apply c_T | apply c_F | refine c_D (fun hz => ?_) (fun hz => ?_) | refine c_N (fun hz => ?_) (fun hz => ?_) | refine c_B (fun hz => ?_) (fun hz => ?_) | apply c_X) | (repeat1' (with_reducible first | apply q_nx | apply q_ret | apply q_exc | apply q_brk | apply q_cnt | apply l_nx | apply l_cnt | apply l_brk | apply l_ret | apply l_exc | apply f_nx | apply f_ret | apply f_exc)))))
    (all_goals first | with_reducible rfl | (simp [*]; done) | (exfalso; omega) | skip)
theorem r_names_ok (ns : List Str) (h : ∀ x ∈ ns, nameOk x) (hl : 1 ≤ ns.length ∧ ns.length ≤ 8) (nd : ns.Nodup) (hp : List Ob) : F_are_names [tS ns] hp = .ok (.v (.bl true)) hp := by
  have := r_names ns h hl hp
  rw [decide_eq_true nd] at this
  exact this
theorem ltr_ok {i : Int} (h : 0 ≤ i ∧ i < 26) : 97 ≤ ltr i ∧ ltr i ≤ 122 := by unfold ltr; omega
theorem ltr_inj {i j : Int} (h : 0 ≤ i) (h' : 0 ≤ j) (e : ltr i = ltr j) : i = j := by unfold ltr at e; omega
def RowK (L : List Str) : Prop := (1 ≤ L.length ∧ L.length ≤ 8) ∧ L.Nodup ∧ ∀ x ∈ L, nameOk x
theorem ws_forS {q : Sq} {tg : Tgt} {body : I} {s : Sx} {Q : SR → Prop} {src : Src} (xs : List D) (s0 : Sx) (hq : q s = .ok (xs, src) s0) (Inv : Nat → Sx → Prop) (h0 : Inv 0 s0) (ha : ∀ i s1, Inv i s1 → okAt src xs s1 = true)
    (hs : ∀ (i : Nat) (x : D) (s1 : Sx), xs[i]? = some x → Inv i s1 → ∃ s2, tg x s1 = some s2 ∧ WS body s2 (loopQ (Inv (i + 1)) Q))
    (he : ∀ s1, Inv xs.length s1 → Q (.nx s1)) : WS (iFor q tg body) s Q := by
  rw [WS_eq]
  rw [for_ok hq rfl]
  have key : ∀ (ys : List D) (k : Nat) (s1 : Sx), (∀ i, ys[i]? = xs[k + i]?) → k + ys.length = xs.length → Inv k s1 → Q (loop tg body src xs ys s1) := by
    intro ys
    induction ys with
    | nil =>
      intro k s1 _ hl hi
      have e : loop tg body src xs [] s1 = .nx s1 := by
        unfold loop
        rw [ha k s1 hi]
      rw [e]
      have : k = xs.length := by simpa using hl
      subst this
      exact he s1 hi
    | cons y ys ih =>
      intro k s1 hy hl hi
      have h0 : xs[k]? = some y := by
        have := hy 0
        simpa using this.symm
      obtain ⟨s2, e1, h2⟩ := hs k y s1 h0 hi
      have nxt : ∀ s3, Inv (k + 1) s3 → Q (loop tg body src xs ys s3) := fun s3 h3 => ih (k + 1) s3 (fun i => by
        have := hy (i + 1)
        rw [List.getElem?_cons_succ] at this
        rw [this]
        congr 1; omega) (by rw [List.length_cons] at hl; omega) h3
      unfold loop
      rw [ha k s1 hi]
      dsimp only
      rw [e1]
      dsimp only
      rw [WS_eq] at h2
      cases e2 : body s2 <;> simp only [e2] at h2 ⊢ <;> first | exact nxt _ h2 | exact h2
  exact key xs 0 s0 (fun i => by rw [Nat.zero_add]) (by simp) h0
def nS (i : Int) : Str := Str.ofString (toString i)
theorem nS_nat (n : Nat) : (nS (n : Nat)).cps.toList = TL.numL n := TL.tl_num n
theorem nS_neg (n : Nat) : (nS (-((n : Int) + 1))).cps.toList = 45 :: TL.numL (n + 1) := by
  have h : (Str.ofString (Nat.repr (n + 1))).cps.toList = TL.numL (n + 1) := TL.tl_num (n + 1)
  have e : nS (-((n : Int) + 1)) = Str.ofString ("-" ++ Nat.repr (n + 1)) := by rw [← Int.negSucc_eq]; rfl
  rw [Str.ofString_eq_toList] at h
  rw [e, Str.ofString_eq_toList, ← h]
  simp [String.toList_append]
theorem numL_dig {n c : Nat} (h : c ∈ TL.numL n) : 48 ≤ c ∧ c ≤ 57 := TL.numL_digits n c h
theorem numL_hd : ∀ n : Nat, 0 < n → ∀ c r, TL.numL n = c :: r → c ≠ 48 := by
  intro n
  induction n using Nat.strongRecOn with
  | _ n ih =>
    intro h0 c r e
    by_cases h : n < 10
    · rw [TL.numL_lt h] at e
      cases e
      omega
    · rw [TL.numL_step (by omega)] at e
      cases e2 : TL.numL (n / 10) with
      | nil => exact absurd e2 (TL.numL_ne _)
      | cons d q =>
        rw [e2] at e
        cases e
        exact ih (n / 10) (by omega) (by omega) _ _ e2
theorem slen (x : Str) : x.length = x.cps.toList.length := by simp [Str.length]
theorem nS_len (n : Nat) (h : n < 10000000000000000000) : 0 < (nS (n : Nat)).length ∧ (nS (n : Nat)).length ≤ 19 := by
  rw [slen, nS_nat]
  have a := TL.numL_len (n := n) (k := 19) (by decide) h
  have b := List.length_pos_iff.mpr (TL.numL_ne n)
  exact ⟨b, a⟩
theorem nS_lenI (i : Int) (h : -10000000000000000000 < i ∧ i < 10000000000000000000) : (nS i).length ≤ 20 := by
  rcases Int.lt_or_le i 0 with z | z
  · obtain ⟨n, rfl⟩ : ∃ n : Nat, i = -((n : Int) + 1) := ⟨(-i - 1).toNat, by omega⟩
    rw [slen, nS_neg, List.length_cons]
    have := TL.numL_len (n := n + 1) (k := 19) (by decide) (by omega)
    omega
  · obtain ⟨n, rfl⟩ := Int.eq_ofNat_of_zero_le z
    have := (nS_len n (by omega)).2
    omega
def Part (x : Str) : Prop := (0 < x.length ∧ x.length ≤ 20) ∧ ∀ c ∈ x.cps.toList, 45 ≤ c ∧ c ≤ 122
theorem nS_part (i : Int) (h : -10000000000000000000 < i ∧ i < 10000000000000000000) : Part (nS i) := by
  have l := nS_lenI i h
  rcases Int.lt_or_le i 0 with z | z
  · obtain ⟨n, rfl⟩ : ∃ n : Nat, i = -((n : Int) + 1) := ⟨(-i - 1).toNat, by omega⟩
    refine ⟨⟨by rw [slen, nS_neg, List.length_cons]; omega, l⟩, fun c hc => ?_⟩
    rw [nS_neg] at hc
    rcases List.mem_cons.mp hc with rfl | hc
    · omega
    · have := numL_dig hc; omega
  · obtain ⟨n, rfl⟩ := Int.eq_ofNat_of_zero_le z
    refine ⟨⟨(nS_len n (by omega)).1, l⟩, fun c hc => ?_⟩
    rw [nS_nat] at hc
    have := numL_dig hc
    omega
theorem sw_eq (x : Str) : PySem.Txt.startswith x "-" = decide (x.cps.toList.head? = some 45) := by
  have e : ("-" : Str).cps.toList = [45] := by decide +kernel
  have l : ("-" : Str).length = 1 := by decide +kernel
  show (decide (0 + ("-" : Str).length ≤ x.length) && PySem.Builtin.Str.subAt x "-" 0) = _
  rw [PySem.StrLaws.subAt_eq, l, e, slen]
  cases x.cps.toList with
  | nil => rfl
  | cons c r =>
    by_cases z : c = 45
    · simp [z]
    · simp [z]
theorem cut1 (z : Str) (h : 1 ≤ z.length) : (L2.cutS z (some 1) none).cps.toList = z.cps.toList.drop 1 := by
  show (((z.cps.toList.drop (HT.sIx z.length 0 (some ((1 : Nat) : Int)))).take (HT.sIx z.length z.length none - HT.sIx z.length 0 (some ((1 : Nat) : Int)))).toArray).toList = _
  rw [HT.sIx_none, HT.sIx_nat, Nat.min_eq_left h]
  rw [List.take_of_length_le (by rw [List.length_drop, slen]; exact Nat.le_refl _)]
theorem fig_in (c : Nat) (h : 48 ≤ c ∧ c ≤ 57) : gNiS (.str ⟨#[c]⟩) (.str "0123456789") = some (.w (.bl false)) := by
  have l : ("0123456789" : Str).cps.toList = (List.range 10).map (· + 48) := by decide +kernel
  have m : c ∈ ("0123456789" : Str).cps.toList := by
    rw [l]
    exact List.mem_map.mpr ⟨c - 48, List.mem_range.mpr (by omega), by omega⟩
  show some (RX.w (.bl (!decide (c ∈ ("0123456789" : Str).cps.toList)))) = _
  rw [decide_eq_true m]
  rfl
theorem sw_ne {x y : Str} (h : x.cps.toList ≠ y.cps.toList) : weq (.str x) (.str y) = some false := by
  have : weq (.str x) (.str y) = some (decide (x = y)) := rfl
  rw [this, decide_eq_false fun e => h (by rw [e])]
theorem r_sum (n : Nat) (h : n < 10000000000000000000) (hp : List Ob) : F_sum_read [.str (nS (n : Nat))] hp = .ok (.v (.int (n : Nat))) hp := by
  obtain ⟨l0, l1⟩ := nS_len n h
  have e := nS_nat n
  have it : PySem.intText? (nS (n : Nat)) = some ((n : Nat) : Int) := TL.int_num (Nat.le_trans (TL.numL_len (k := 19) (by decide) h) (by decide))
  have w0 : weq (.str (nS (n : Nat))) (.str "") = some false := sw_ne (by rw [e]; exact TL.numL_ne n)
  have dig : ∀ c ∈ (nS (n : Nat)).cps.toList, 48 ≤ c ∧ c ≤ 57 := fun c hc => numL_dig (by rw [← e]; exact hc)
  obtain ⟨c, r, ec⟩ : ∃ c r, (nS (n : Nat)).cps.toList = c :: r := by
    cases q : (nS (n : Nat)).cps.toList with
    | nil => rw [e] at q; exact absurd q (TL.numL_ne n)
    | cons c r => exact ⟨c, r, rfl⟩
  have a0 : L2.atI (nS (n : Nat)).cps.toList 0 = some c := by rw [ec]; exact (atI_nat _ 0).trans rfl
  have zz : ("0" : Str) = ⟨#[48]⟩ := by decide +kernel
  have q0 : c = 48 → (⟨#[48]⟩ : Str) = "0" := fun _ => zz.symm
  have q1 : c ≠ 48 → ¬ (⟨#[c]⟩ : Str) = "0" := fun q e => by
    rw [zz] at e
    have e : (⟨#[c]⟩ : Str).cps.toList = (⟨#[48]⟩ : Str).cps.toList := by rw [e]
    have e : [c] = [48] := e
    exact q (by injection e)
  have hz : c = 48 → ¬ 1 < (nS (n : Nat)).length := fun q => by
    have : n = 0 := by
      rcases Nat.eq_zero_or_pos n with z | z
      · exact z
      · exact absurd q (numL_hd n z c r (by rw [← e]; exact ec))
    subst this
    rw [slen, e]
    decide
  have i1 : ¬ 19 < (nS (n : Nat)).length := by omega
  have i1' : ¬ (19 : Int) < ((nS (n : Nat)).length : Int) := by omega
  have hz' : c = 48 → ¬ (1 : Int) < ((nS (n : Nat)).length : Int) := fun q => by have := hz q; omega
  have i2 : (nS (n : Nat)).length ≤ 1000000 := by omega
  have i3 : (nS (n : Nat)).length ≤ 640 := by omega
  have hq : qE (iVar 0) ⟨[.v (.str (nS (n : Nat))), .no], hp⟩ = .ok (strD (nS (n : Nat)), .val) ⟨[.v (.str (nS (n : Nat))), .no], hp⟩ := by
    generalize nS (n : Nat) = x at *
    simp [mkFn,iIfS,iSeq,iOr,iAnd,iNot,iIf,iIsT,iVar,thenS,Rs.bind,Lk.hold,rdv,rdvs,isTy,isB,iRet,iChain,gLe,gLt,gGt,gGe,gCmp,retv,iNext,iC,op2,gAdd_i,gAdd_t,gAdd_l,gAdd_s,mulOk_b,dec_of,gSub,gMod,gDiv,iSet,iOwn,Lk.arg,Lk.args,Lk.pargs,Lk.settle,setv,iDrop,iTup,iLst,iB,rdvL,rdvLs,gLen,gList,gTuple,gMax,iCall,backR,ofRV,iMeth,lookM,iNew,iFld,iSetF,getF,putFl,gEq,gNe,gIs,notL,gIx,iNeg,iMut,mutTail,getL,putL,gApp,iDct,iHeap,noRef,noRefs,isFlat,tgN,tgT,tgs,iSl,pNo,pSome,gCut,iTgt,gPow,gMul,Lk.qE,iRaise,isSub,isKeyD,iSlS,iSetK,isTup,op2k]
  clear e
  generalize nS (n : Nat) = x at *
  have loop : WS (iSeq (iFor (qE (iVar 0)) (tgN 1) b_sum_read_1) (iRet (iB gIntS [(iVar 0)]))) ⟨[.v (.str x), .no], hp⟩ (endF fun r => r = .ok (.v (.int (n : Nat))) hp) := by
    with_reducible refine ws_seq ?_
    refine ws_forN (strD x) _ hq (fun _ s => ∃ a, s = ⟨[.v (.str x), a], hp⟩) ⟨_, rfl⟩ ?_ ?_
    · rintro i d s1 hd ⟨a, rfl⟩
      obtain ⟨c, hc, rfl⟩ := List.mem_map.mp (List.mem_of_getElem? hd)
      have si := fig_in c (dig c hc)
      unfold b_sum_read_1
      simp only [Lk.setv, List.set]
      (repeat' ((try with_reducible apply ws_seq); first | (with_reducible first | apply ws_if_and | apply ws_if_or | apply ws_if_not | apply ws_ret_and | apply ws_ret_or | apply ws_ret_if | apply ws_set_and | apply ws_set_or | apply ws_set_if) | ((first | (with_reducible apply ws_next) | ((with_reducible first | refine ws_if fun rZ hZ => ?_ | refine ws_at fun rZ hZ => ?_); simp (disch := first | (simp; done) | assumption | omega | rfl | (simp; omega)) [mkFn,iIfS,iSeq,iOr,iAnd,iNot,iIf,iIsT,iVar,thenS,Rs.bind,Lk.hold,rdv,rdvs,isTy,isB,iRet,iChain,gLe,gLt,gGt,gGe,gCmp,retv,iNext,iC,op2,gAdd_i,gAdd_t,gAdd_l,gAdd_s,mulOk_b,dec_of,gSub,gMod,gDiv,iSet,iOwn,Lk.arg,Lk.args,Lk.pargs,Lk.settle,setv,iDrop,iTup,iLst,iB,rdvL,rdvLs,gLen,gList,gTuple,gMax,iCall,backR,ofRV,iMeth,lookM,iNew,iFld,iSetF,getF,putFl,gEq,gNe,gIs,notL,gIx,iNeg,iMut,mutTail,getL,putL,gApp,iDct,iHeap,noRef,noRefs,isFlat,tgN,tgT,tgs,iSl,pNo,pSome,gCut,iTgt,gPow,gMul,Lk.qE,iRaise,isSub,isKeyD,iSlS,iSetK,isTup,op2k, si] at hZ; subst hZ)); first | (with_reducible first | apply c_T | apply c_F | refine c_D (fun hz => ?_) (fun hz => ?_) | refine c_N (fun hz => ?_) (fun hz => ?_) | refine c_B (fun hz => ?_) (fun hz => ?_) | apply c_X) | (repeat1' (with_reducible first | apply q_nx | apply q_ret | apply q_exc | apply q_brk | apply q_cnt | apply l_nx | apply l_cnt | apply l_brk | apply l_ret | apply l_exc | apply f_nx | apply f_ret | apply f_exc)))))
      exact ⟨_, rfl⟩
    · rintro s1 ⟨a, rfl⟩
      (repeat1' (with_reducible first | apply q_nx | apply q_ret | apply q_exc | apply q_brk | apply q_cnt | apply l_nx | apply l_cnt | apply l_brk | apply l_ret | apply l_exc | apply f_nx | apply f_ret | apply f_exc))
      (repeat' ((try with_reducible apply ws_seq); first | (with_reducible first | apply ws_if_and | apply ws_if_or | apply ws_if_not | apply ws_ret_and | apply ws_ret_or | apply ws_ret_if | apply ws_set_and | apply ws_set_or | apply ws_set_if) | ((first | (with_reducible apply ws_next) | ((with_reducible first | refine ws_if fun rZ hZ => ?_ | refine ws_at fun rZ hZ => ?_); simp (disch := first | (simp; done) | assumption | omega | rfl | (simp; omega)) [mkFn,iIfS,iSeq,iOr,iAnd,iNot,iIf,iIsT,iVar,thenS,Rs.bind,Lk.hold,rdv,rdvs,isTy,isB,iRet,iChain,gLe,gLt,gGt,gGe,gCmp,retv,iNext,iC,op2,gAdd_i,gAdd_t,gAdd_l,gAdd_s,mulOk_b,dec_of,gSub,gMod,gDiv,iSet,iOwn,Lk.arg,Lk.args,Lk.pargs,Lk.settle,setv,iDrop,iTup,iLst,iB,rdvL,rdvLs,gLen,gList,gTuple,gMax,iCall,backR,ofRV,iMeth,lookM,iNew,iFld,iSetF,getF,putFl,gEq,gNe,gIs,notL,gIx,iNeg,iMut,mutTail,getL,putL,gApp,iDct,iHeap,noRef,noRefs,isFlat,tgN,tgT,tgs,iSl,pNo,pSome,gCut,iTgt,gPow,gMul,Lk.qE,iRaise,isSub,isKeyD,iSlS,iSetK,isTup,op2k, Lk.gIntS, it, i3] at hZ; subst hZ)); first | (with_reducible first | apply c_T | apply c_F | refine c_D (fun hz => ?_) (fun hz => ?_) | refine c_N (fun hz => ?_) (fun hz => ?_) | refine c_B (fun hz => ?_) (fun hz => ?_) | apply c_X) | (repeat1' (with_reducible first | apply q_nx | apply q_ret | apply q_exc | apply q_brk | apply q_cnt | apply l_nx | apply l_cnt | apply l_brk | apply l_ret | apply l_exc | apply f_nx | apply f_ret | apply f_exc)))))
      (all_goals first | with_reducible rfl | (simp [*]; done) | (exfalso; omega) | skip)
  unfold F_sum_read; refine ws_fnE rfl ?_; unfold m_sum_read; simp only [List.map_cons, List.map_nil, List.cons_append, List.nil_append, List.replicate]
  by_cases q : c = 48
  · have q' := hz q
    have q2 := hz' q
    have q3 := q0 q
    (repeat' ((try with_reducible apply ws_seq); first | (with_reducible first | apply ws_if_and | apply ws_if_or | apply ws_if_not | apply ws_ret_and | apply ws_ret_or | apply ws_ret_if | apply ws_set_and | apply ws_set_or | apply ws_set_if) | ((first | (with_reducible apply ws_next) | ((with_reducible first | refine ws_if fun rZ hZ => ?_ | refine ws_at fun rZ hZ => ?_); simp (disch := first | (simp; done) | assumption | omega | rfl | (simp; omega)) [mkFn,iIfS,iSeq,iOr,iAnd,iNot,iIf,iIsT,iVar,thenS,Rs.bind,Lk.hold,rdv,rdvs,isTy,isB,iRet,iChain,gLe,gLt,gGt,gGe,gCmp,retv,iNext,iC,op2,gAdd_i,gAdd_t,gAdd_l,gAdd_s,mulOk_b,dec_of,gSub,gMod,gDiv,iSet,iOwn,Lk.arg,Lk.args,Lk.pargs,Lk.settle,setv,iDrop,iTup,iLst,iB,rdvL,rdvLs,gLen,gList,gTuple,gMax,iCall,backR,ofRV,iMeth,lookM,iNew,iFld,iSetF,getF,putFl,gEq,gNe,gIs,notL,gIx,iNeg,iMut,mutTail,getL,putL,gApp,iDct,iHeap,noRef,noRefs,isFlat,tgN,tgT,tgs,iSl,pNo,pSome,gCut,iTgt,gPow,gMul,Lk.qE,iRaise,isSub,isKeyD,iSlS,iSetK,isTup,op2k, w0, mixed, i1, i1', i2, a0, q3, q, q', q2] at hZ; subst hZ)); first | (with_reducible first | apply c_T | apply c_F | refine c_D (fun hz => ?_) (fun hz => ?_) | refine c_N (fun hz => ?_) (fun hz => ?_) | refine c_B (fun hz => ?_) (fun hz => ?_) | apply c_X) | (repeat1' (with_reducible first | apply q_nx | apply q_ret | apply q_exc | apply q_brk | apply q_cnt | apply l_nx | apply l_cnt | apply l_brk | apply l_ret | apply l_exc | apply f_nx | apply f_ret | apply f_exc)))))
    exact loop
  · have q3 := q1 q
    (repeat' ((try with_reducible apply ws_seq); first | (with_reducible first | apply ws_if_and | apply ws_if_or | apply ws_if_not | apply ws_ret_and | apply ws_ret_or | apply ws_ret_if | apply ws_set_and | apply ws_set_or | apply ws_set_if) | ((first | (with_reducible apply ws_next) | ((with_reducible first | refine ws_if fun rZ hZ => ?_ | refine ws_at fun rZ hZ => ?_); simp (disch := first | (simp; done) | assumption | omega | rfl | (simp; omega)) [mkFn,iIfS,iSeq,iOr,iAnd,iNot,iIf,iIsT,iVar,thenS,Rs.bind,Lk.hold,rdv,rdvs,isTy,isB,iRet,iChain,gLe,gLt,gGt,gGe,gCmp,retv,iNext,iC,op2,gAdd_i,gAdd_t,gAdd_l,gAdd_s,mulOk_b,dec_of,gSub,gMod,gDiv,iSet,iOwn,Lk.arg,Lk.args,Lk.pargs,Lk.settle,setv,iDrop,iTup,iLst,iB,rdvL,rdvLs,gLen,gList,gTuple,gMax,iCall,backR,ofRV,iMeth,lookM,iNew,iFld,iSetF,getF,putFl,gEq,gNe,gIs,notL,gIx,iNeg,iMut,mutTail,getL,putL,gApp,iDct,iHeap,noRef,noRefs,isFlat,tgN,tgT,tgs,iSl,pNo,pSome,gCut,iTgt,gPow,gMul,Lk.qE,iRaise,isSub,isKeyD,iSlS,iSetK,isTup,op2k, w0, mixed, i1, i1', i2, a0, q3, q] at hZ; subst hZ)); first | (with_reducible first | apply c_T | apply c_F | refine c_D (fun hz => ?_) (fun hz => ?_) | refine c_N (fun hz => ?_) (fun hz => ?_) | refine c_B (fun hz => ?_) (fun hz => ?_) | apply c_X) | (repeat1' (with_reducible first | apply q_nx | apply q_ret | apply q_exc | apply q_brk | apply q_cnt | apply l_nx | apply l_cnt | apply l_brk | apply l_ret | apply l_exc | apply f_nx | apply f_ret | apply f_exc)))))
    exact loop
theorem r_number (i : Int) (h : -10000000000000000000 < i ∧ i < 10000000000000000000) (hp : List Ob) : F_number_read [.str (nS i)] hp = .ok (.v (.int i)) hp := by
  rcases Int.lt_or_le i 0 with z | z
  · obtain ⟨n, rfl⟩ : ∃ n : Nat, i = -((n : Int) + 1) := ⟨(-i - 1).toNat, by omega⟩
    have sw : PySem.Txt.startswith (nS (-((n : Int) + 1))) "-" = true := by rw [sw_eq, nS_neg]; rfl
    have l := nS_lenI _ h
    have lp : 1 ≤ (nS (-((n : Int) + 1))).length := by rw [slen, nS_neg, List.length_cons]; omega
    have cu : L2.cutS (nS (-((n : Int) + 1))) (some 1) none = nS ((n + 1 : Nat) : Int) := TL.ext_tl (by
      show (L2.cutS (nS (-((n : Int) + 1))) (some 1) none).cps.toList = (nS ((n + 1 : Nat) : Int)).cps.toList
      rw [cut1 _ lp, nS_neg, nS_nat]; rfl)
    have k2 : gCutS (.str (nS (-((n : Int) + 1)))) (some 1) none = some (.w (.str (nS ((n + 1 : Nat) : Int)))) := by
      show (if (nS (-((n : Int) + 1))).length ≤ 1000000 then _ else _) = _
      rw [if_pos (by omega), cu]
    have rs := r_sum (n + 1) (by omega) hp
    have g : gSw (.str (nS (-((n : Int) + 1)))) (.str "-") = some (.w (.bl true)) := by rw [← sw]; rfl
    have n0 : ¬ (((n + 1 : Nat) : Int)) = 0 := by omega
    have fin : -((n + 1 : Nat) : Int) = -((n : Int) + 1) := by omega
    generalize nS ((n + 1 : Nat) : Int) = y at *
    generalize nS (-((n : Int) + 1)) = x at *
    rw [← fin]
    generalize ((n + 1 : Nat) : Int) = k at *
    unfold F_number_read; refine ws_fnE rfl ?_; unfold m_number_read; simp only [List.map_cons, List.map_nil, List.cons_append, List.nil_append, List.replicate]
    (repeat' ((try with_reducible apply ws_seq); first | (with_reducible first | apply ws_if_and | apply ws_if_or | apply ws_if_not | apply ws_ret_and | apply ws_ret_or | apply ws_ret_if | apply ws_set_and | apply ws_set_or | apply ws_set_if) | ((first | (with_reducible apply ws_next) | ((with_reducible first | refine ws_if fun rZ hZ => ?_ | refine ws_at fun rZ hZ => ?_); simp (disch := first | (simp; done) | assumption | omega | rfl | (simp; omega)) [mkFn,iIfS,iSeq,iOr,iAnd,iNot,iIf,iIsT,iVar,thenS,Rs.bind,Lk.hold,rdv,rdvs,isTy,isB,iRet,iChain,gLe,gLt,gGt,gGe,gCmp,retv,iNext,iC,op2,gAdd_i,gAdd_t,gAdd_l,gAdd_s,mulOk_b,dec_of,gSub,gMod,gDiv,iSet,iOwn,Lk.arg,Lk.args,Lk.pargs,Lk.settle,setv,iDrop,iTup,iLst,iB,rdvL,rdvLs,gLen,gList,gTuple,gMax,iCall,backR,ofRV,iMeth,lookM,iNew,iFld,iSetF,getF,putFl,gEq,gNe,gIs,notL,gIx,iNeg,iMut,mutTail,getL,putL,gApp,iDct,iHeap,noRef,noRefs,isFlat,tgN,tgT,tgs,iSl,pNo,pSome,gCut,iTgt,gPow,gMul,Lk.qE,iRaise,isSub,isKeyD,iSlS,iSetK,isTup,op2k, g, k2, rs, n0, isStr] at hZ; subst hZ)); first | (with_reducible first | apply c_T | apply c_F | refine c_D (fun hz => ?_) (fun hz => ?_) | refine c_N (fun hz => ?_) (fun hz => ?_) | refine c_B (fun hz => ?_) (fun hz => ?_) | apply c_X) | (repeat1' (with_reducible first | apply q_nx | apply q_ret | apply q_exc | apply q_brk | apply q_cnt | apply l_nx | apply l_cnt | apply l_brk | apply l_ret | apply l_exc | apply f_nx | apply f_ret | apply f_exc)))))
    (all_goals first | with_reducible rfl | (simp [*]; done) | (exfalso; omega) | skip)
  · obtain ⟨n, rfl⟩ := Int.eq_ofNat_of_zero_le z
    have sw : PySem.Txt.startswith (nS (n : Nat)) "-" = false := by
      rw [sw_eq, nS_nat]
      refine decide_eq_false fun q => ?_
      cases e : TL.numL n with
      | nil => exact TL.numL_ne n e
      | cons c r =>
        rw [e] at q
        have q : c = 45 := Option.some.inj q
        have := numL_dig (n := n) (c := c) (by rw [e]; exact List.mem_cons_self)
        omega
    have rs := r_sum n (by omega) hp
    have g : gSw (.str (nS (n : Nat))) (.str "-") = some (.w (.bl false)) := by rw [← sw]; rfl
    generalize nS (n : Nat) = x at *
    unfold F_number_read; refine ws_fnE rfl ?_; unfold m_number_read; simp only [List.map_cons, List.map_nil, List.cons_append, List.nil_append, List.replicate]
    (repeat' ((try with_reducible apply ws_seq); first | (with_reducible first | apply ws_if_and | apply ws_if_or | apply ws_if_not | apply ws_ret_and | apply ws_ret_or | apply ws_ret_if | apply ws_set_and | apply ws_set_or | apply ws_set_if) | ((first | (with_reducible apply ws_next) | ((with_reducible first | refine ws_if fun rZ hZ => ?_ | refine ws_at fun rZ hZ => ?_); simp (disch := first | (simp; done) | assumption | omega | rfl | (simp; omega)) [mkFn,iIfS,iSeq,iOr,iAnd,iNot,iIf,iIsT,iVar,thenS,Rs.bind,Lk.hold,rdv,rdvs,isTy,isB,iRet,iChain,gLe,gLt,gGt,gGe,gCmp,retv,iNext,iC,op2,gAdd_i,gAdd_t,gAdd_l,gAdd_s,mulOk_b,dec_of,gSub,gMod,gDiv,iSet,iOwn,Lk.arg,Lk.args,Lk.pargs,Lk.settle,setv,iDrop,iTup,iLst,iB,rdvL,rdvLs,gLen,gList,gTuple,gMax,iCall,backR,ofRV,iMeth,lookM,iNew,iFld,iSetF,getF,putFl,gEq,gNe,gIs,notL,gIx,iNeg,iMut,mutTail,getL,putL,gApp,iDct,iHeap,noRef,noRefs,isFlat,tgN,tgT,tgs,iSl,pNo,pSome,gCut,iTgt,gPow,gMul,Lk.qE,iRaise,isSub,isKeyD,iSlS,iSetK,isTup,op2k, g, rs, isStr] at hZ; subst hZ)); first | (with_reducible first | apply c_T | apply c_F | refine c_D (fun hz => ?_) (fun hz => ?_) | refine c_N (fun hz => ?_) (fun hz => ?_) | refine c_B (fun hz => ?_) (fun hz => ?_) | apply c_X) | (repeat1' (with_reducible first | apply q_nx | apply q_ret | apply q_exc | apply q_brk | apply q_cnt | apply l_nx | apply l_cnt | apply l_brk | apply l_ret | apply l_exc | apply f_nx | apply f_ret | apply f_exc)))))
    (all_goals first | with_reducible rfl | (simp [*]; done) | (exfalso; omega) | skip)
def plainN : Nat → D → Bool
  | n + 1, .tup xs => xs.all (plainN n)
  | n + 1, .lst xs => xs.all (plainN n)
  | _ + 1, .int _ => true
  | _ + 1, .str _ => true
  | _, _ => false
theorem r_whole (d : D) (hp : List Ob) (h : okD d = true) : F__law_whole [d] hp = .ok (.v (.bl (match d with | .int _ => true | _ => false))) hp := by
  cases d with
  | ref n => cases h
  | rol n => cases h
  | pr n => cases h
  | _ => simp [mkFn,iIfS,iSeq,iOr,iAnd,iNot,iIf,iIsT,iVar,thenS,Rs.bind,Lk.hold,rdv,rdvs,isTy,isB,iRet,iChain,gLe,gLt,gGt,gGe,gCmp,retv,iNext,iC,op2,gAdd_i,gAdd_t,gAdd_l,gAdd_s,mulOk_b,dec_of,gSub,gMod,gDiv,iSet,iOwn,Lk.arg,Lk.args,Lk.pargs,Lk.settle,setv,iDrop,iTup,iLst,iB,rdvL,rdvLs,gLen,gList,gTuple,gMax,iCall,backR,ofRV,iMeth,lookM,iNew,iFld,iSetF,getF,putFl,gEq,gNe,gIs,notL,gIx,iNeg,iMut,mutTail,getL,putL,gApp,iDct,iHeap,noRef,noRefs,isFlat,tgN,tgT,tgs,iSl,pNo,pSome,gCut,iTgt,gPow,gMul,Lk.qE,iRaise,isSub,isKeyD,iSlS,iSetK,isTup,op2k, F__law_whole, m__law_whole]
theorem zipD_mem : ∀ {xs : List D} {z : D}, z ∈ zipD xs xs → ∃ x ∈ xs, z = .pr [x, x]
  | [], z, h => by cases h
  | x :: xs, z, h => by
    rcases List.mem_cons.mp h with e | e
    · exact ⟨x, List.mem_cons_self, e⟩
    · obtain ⟨y, h1, h2⟩ := zipD_mem e
      exact ⟨y, List.mem_cons_of_mem _ h1, h2⟩
theorem r_same (n : Nat) : ∀ (d : D) (hp : List Ob), plainN n d = true → F__law_same n [d, d] hp = .ok (.v (.bl true)) hp := by
  induction n with
  | zero => intro d hp h; cases d <;> cases h
  | succ n ih =>
    have all : ∀ (xs : List D) (hp : List Ob), xs.all (plainN n) = true → F__law_all_same n [.lst xs, .lst xs] hp = .ok (.v (.bl true)) hp := by
      intro xs hp h
      obtain ⟨s', e, a, b, rfl⟩ := loop_go (tg := (tgT [(tgN 2), (tgN 3)])) (body := b__law_all_same_1 (F__law_same n)) (all := zipD xs xs)
        (fun _ s => ∃ a b, s = ⟨[.v (.lst xs), .v (.lst xs), a, b], hp⟩) (zipD xs xs) 0 ⟨[.v (.lst xs), .v (.lst xs), .no, .no], hp⟩ ⟨_, _, rfl⟩ (by
          rintro i x s hx ⟨a, b, rfl⟩
          obtain ⟨y, hy, rfl⟩ := zipD_mem (List.mem_of_getElem? hx)
          have hs := ih y hp (List.all_eq_true.mp h y hy)
          refine ⟨⟨[.v (.lst xs), .v (.lst xs), .v y, .v y], hp⟩, ⟨[.v (.lst xs), .v (.lst xs), .v y, .v y], hp⟩, rfl, .inl ?_, ⟨_, _, rfl⟩⟩
          simp [mkFn,iIfS,iSeq,iOr,iAnd,iNot,iIf,iIsT,iVar,thenS,Rs.bind,Lk.hold,rdv,rdvs,isTy,isB,iRet,iChain,gLe,gLt,gGt,gGe,gCmp,retv,iNext,iC,op2,gAdd_i,gAdd_t,gAdd_l,gAdd_s,mulOk_b,dec_of,gSub,gMod,gDiv,iSet,iOwn,Lk.arg,Lk.args,Lk.pargs,Lk.settle,setv,iDrop,iTup,iLst,iB,rdvL,rdvLs,gLen,gList,gTuple,gMax,iCall,backR,ofRV,iMeth,lookM,iNew,iFld,iSetF,getF,putFl,gEq,gNe,gIs,notL,gIx,iNeg,iMut,mutTail,getL,putL,gApp,iDct,iHeap,noRef,noRefs,isFlat,tgN,tgT,tgs,iSl,pNo,pSome,gCut,iTgt,gPow,gMul,Lk.qE,iRaise,isSub,isKeyD,iSlS,iSetK,isTup,op2k, b__law_all_same_1, hs])
      simp [mkFn,iIfS,iSeq,iOr,iAnd,iNot,iIf,iIsT,iVar,thenS,Rs.bind,Lk.hold,rdv,rdvs,isTy,isB,iRet,iChain,gLe,gLt,gGt,gGe,gCmp,retv,iNext,iC,op2,gAdd_i,gAdd_t,gAdd_l,gAdd_s,mulOk_b,dec_of,gSub,gMod,gDiv,iSet,iOwn,Lk.arg,Lk.args,Lk.pargs,Lk.settle,setv,iDrop,iTup,iLst,iB,rdvL,rdvLs,gLen,gList,gTuple,gMax,iCall,backR,ofRV,iMeth,lookM,iNew,iFld,iSetF,getF,putFl,gEq,gNe,gIs,notL,gIx,iNeg,iMut,mutTail,getL,putL,gApp,iDct,iHeap,noRef,noRefs,isFlat,tgN,tgT,tgs,iSl,pNo,pSome,gCut,iTgt,gPow,gMul,Lk.qE,iRaise,isSub,isKeyD,iSlS,iSetK,isTup,op2k, F__law_all_same, G__law_all_same, m__law_all_same, Lk.iFor, Lk.qZipH, Lk.lstAt, Lk.srcZ, e]
    intro d hp h
    cases d with
    | tup xs => simp [mkFn,iIfS,iSeq,iOr,iAnd,iNot,iIf,iIsT,iVar,thenS,Rs.bind,Lk.hold,rdv,rdvs,isTy,isB,iRet,iChain,gLe,gLt,gGt,gGe,gCmp,retv,iNext,iC,op2,gAdd_i,gAdd_t,gAdd_l,gAdd_s,mulOk_b,dec_of,gSub,gMod,gDiv,iSet,iOwn,Lk.arg,Lk.args,Lk.pargs,Lk.settle,setv,iDrop,iTup,iLst,iB,rdvL,rdvLs,gLen,gList,gTuple,gMax,iCall,backR,ofRV,iMeth,lookM,iNew,iFld,iSetF,getF,putFl,gEq,gNe,gIs,notL,gIx,iNeg,iMut,mutTail,getL,putL,gApp,iDct,iHeap,noRef,noRefs,isFlat,tgN,tgT,tgs,iSl,pNo,pSome,gCut,iTgt,gPow,gMul,Lk.qE,iRaise,isSub,isKeyD,iSlS,iSetK,isTup,op2k, F__law_same, m__law_same, all xs hp h, show G__law_all_same (F__law_same n) = F__law_all_same n from rfl]
    | lst xs => simp [mkFn,iIfS,iSeq,iOr,iAnd,iNot,iIf,iIsT,iVar,thenS,Rs.bind,Lk.hold,rdv,rdvs,isTy,isB,iRet,iChain,gLe,gLt,gGt,gGe,gCmp,retv,iNext,iC,op2,gAdd_i,gAdd_t,gAdd_l,gAdd_s,mulOk_b,dec_of,gSub,gMod,gDiv,iSet,iOwn,Lk.arg,Lk.args,Lk.pargs,Lk.settle,setv,iDrop,iTup,iLst,iB,rdvL,rdvLs,gLen,gList,gTuple,gMax,iCall,backR,ofRV,iMeth,lookM,iNew,iFld,iSetF,getF,putFl,gEq,gNe,gIs,notL,gIx,iNeg,iMut,mutTail,getL,putL,gApp,iDct,iHeap,noRef,noRefs,isFlat,tgN,tgT,tgs,iSl,pNo,pSome,gCut,iTgt,gPow,gMul,Lk.qE,iRaise,isSub,isKeyD,iSlS,iSetK,isTup,op2k, F__law_same, m__law_same, all xs hp h, show G__law_all_same (F__law_same n) = F__law_all_same n from rfl]
    | int i =>
      have hw := r_whole (.int i) hp rfl
      simp [mkFn,iIfS,iSeq,iOr,iAnd,iNot,iIf,iIsT,iVar,thenS,Rs.bind,Lk.hold,rdv,rdvs,isTy,isB,iRet,iChain,gLe,gLt,gGt,gGe,gCmp,retv,iNext,iC,op2,gAdd_i,gAdd_t,gAdd_l,gAdd_s,mulOk_b,dec_of,gSub,gMod,gDiv,iSet,iOwn,Lk.arg,Lk.args,Lk.pargs,Lk.settle,setv,iDrop,iTup,iLst,iB,rdvL,rdvLs,gLen,gList,gTuple,gMax,iCall,backR,ofRV,iMeth,lookM,iNew,iFld,iSetF,getF,putFl,gEq,gNe,gIs,notL,gIx,iNeg,iMut,mutTail,getL,putL,gApp,iDct,iHeap,noRef,noRefs,isFlat,tgN,tgT,tgs,iSl,pNo,pSome,gCut,iTgt,gPow,gMul,Lk.qE,iRaise,isSub,isKeyD,iSlS,iSetK,isTup,op2k, F__law_same, m__law_same, hw]
    | ref n => cases h
    | rol n => cases h
    | dct => cases h
    | non => cases h
    | bl b => cases h
    | pr xs => cases h
    | _ => simp [mkFn,iIfS,iSeq,iOr,iAnd,iNot,iIf,iIsT,iVar,thenS,Rs.bind,Lk.hold,rdv,rdvs,isTy,isB,iRet,iChain,gLe,gLt,gGt,gGe,gCmp,retv,iNext,iC,op2,gAdd_i,gAdd_t,gAdd_l,gAdd_s,mulOk_b,dec_of,gSub,gMod,gDiv,iSet,iOwn,Lk.arg,Lk.args,Lk.pargs,Lk.settle,setv,iDrop,iTup,iLst,iB,rdvL,rdvLs,gLen,gList,gTuple,gMax,iCall,backR,ofRV,iMeth,lookM,iNew,iFld,iSetF,getF,putFl,gEq,gNe,gIs,notL,gIx,iNeg,iMut,mutTail,getL,putL,gApp,iDct,iHeap,noRef,noRefs,isFlat,tgN,tgT,tgs,iSl,pNo,pSome,gCut,iTgt,gPow,gMul,Lk.qE,iRaise,isSub,isKeyD,iSlS,iSetK,isTup,op2k, F__law_same, m__law_same]
theorem r_sameR (n : Nat) (a : Nat) (xs : List D) (hp : List Ob) (h : xs.all (plainN n) = true) (ha : hp[a]? = some (.lst xs)) : F__law_same (n + 1) [.ref a, .lst xs] hp = .ok (.v (.bl true)) hp := by
  have al : G__law_all_same (F__law_same n) [.ref a, .lst xs] hp = .ok (.v (.bl true)) hp := by
    have hq : qZipH (iVar 0) (iVar 1) ⟨[.v (.ref a), .v (.lst xs), .no, .no], hp⟩ = .ok (zipD xs xs, .obe a xs) ⟨[.v (.ref a), .v (.lst xs), .no, .no], hp⟩ := by
      simp [mkFn,iIfS,iSeq,iOr,iAnd,iNot,iIf,iIsT,iVar,thenS,Rs.bind,Lk.hold,rdv,rdvs,isTy,isB,iRet,iChain,gLe,gLt,gGt,gGe,gCmp,retv,iNext,iC,op2,gAdd_i,gAdd_t,gAdd_l,gAdd_s,mulOk_b,dec_of,gSub,gMod,gDiv,iSet,iOwn,Lk.arg,Lk.args,Lk.pargs,Lk.settle,setv,iDrop,iTup,iLst,iB,rdvL,rdvLs,gLen,gList,gTuple,gMax,iCall,backR,ofRV,iMeth,lookM,iNew,iFld,iSetF,getF,putFl,gEq,gNe,gIs,notL,gIx,iNeg,iMut,mutTail,getL,putL,gApp,iDct,iHeap,noRef,noRefs,isFlat,tgN,tgT,tgs,iSl,pNo,pSome,gCut,iTgt,gPow,gMul,Lk.qE,iRaise,isSub,isKeyD,iSlS,iSetK,isTup,op2k, Lk.qZipH, Lk.lstAt, Lk.srcZ, ha]
    unfold G__law_all_same
    refine ws_fnE rfl ?_
    unfold m__law_all_same
    simp only [List.map_cons, List.map_nil, List.cons_append, List.nil_append, List.replicate]
    with_reducible refine ws_seq ?_
    refine ws_forS _ _ hq (fun i s => ∃ a1 b1, s = ⟨[.v (.ref a), .v (.lst xs), a1, b1], hp⟩) ⟨_, _, rfl⟩ (fun i s1 ⟨a1, b1, q⟩ => by subst q; unfold Lk.okAt; simp [ha]) ?_ ?_
    · rintro i x s1 hx ⟨a1, b1, rfl⟩
      obtain ⟨y, hy, rfl⟩ := zipD_mem (List.mem_of_getElem? hx)
      have hs := r_same n y hp (List.all_eq_true.mp h y hy)
      refine ⟨⟨[.v (.ref a), .v (.lst xs), .v y, .v y], hp⟩, rfl, ?_⟩
      unfold b__law_all_same_1
      (repeat' ((try with_reducible apply ws_seq); first | (with_reducible first | apply ws_if_and | apply ws_if_or | apply ws_if_not | apply ws_ret_and | apply ws_ret_or | apply ws_ret_if | apply ws_set_and | apply ws_set_or | apply ws_set_if) | ((first | (with_reducible apply ws_next) | ((with_reducible first | refine ws_if fun rZ hZ => ?_ | refine ws_at fun rZ hZ => ?_); simp (disch := first | (simp; done) | assumption | omega | rfl | (simp; omega)) [mkFn,iIfS,iSeq,iOr,iAnd,iNot,iIf,iIsT,iVar,thenS,Rs.bind,Lk.hold,rdv,rdvs,isTy,isB,iRet,iChain,gLe,gLt,gGt,gGe,gCmp,retv,iNext,iC,op2,gAdd_i,gAdd_t,gAdd_l,gAdd_s,mulOk_b,dec_of,gSub,gMod,gDiv,iSet,iOwn,Lk.arg,Lk.args,Lk.pargs,Lk.settle,setv,iDrop,iTup,iLst,iB,rdvL,rdvLs,gLen,gList,gTuple,gMax,iCall,backR,ofRV,iMeth,lookM,iNew,iFld,iSetF,getF,putFl,gEq,gNe,gIs,notL,gIx,iNeg,iMut,mutTail,getL,putL,gApp,iDct,iHeap,noRef,noRefs,isFlat,tgN,tgT,tgs,iSl,pNo,pSome,gCut,iTgt,gPow,gMul,Lk.qE,iRaise,isSub,isKeyD,iSlS,iSetK,isTup,op2k, hs] at hZ; subst hZ)); first | (with_reducible first | apply c_T | apply c_F | refine c_D (fun hz => ?_) (fun hz => ?_) | refine c_N (fun hz => ?_) (fun hz => ?_) | refine c_B (fun hz => ?_) (fun hz => ?_) | apply c_X) | (repeat1' (with_reducible first | apply q_nx | apply q_ret | apply q_exc | apply q_brk | apply q_cnt | apply l_nx | apply l_cnt | apply l_brk | apply l_ret | apply l_exc | apply f_nx | apply f_ret | apply f_exc)))))
      exact ⟨_, _, rfl⟩
    · rintro s1 ⟨a1, b1, rfl⟩
      (repeat1' (with_reducible first | apply q_nx | apply q_ret | apply q_exc | apply q_brk | apply q_cnt | apply l_nx | apply l_cnt | apply l_brk | apply l_ret | apply l_exc | apply f_nx | apply f_ret | apply f_exc))
      (repeat' ((try with_reducible apply ws_seq); first | (with_reducible first | apply ws_if_and | apply ws_if_or | apply ws_if_not | apply ws_ret_and | apply ws_ret_or | apply ws_ret_if | apply ws_set_and | apply ws_set_or | apply ws_set_if) | ((first | (with_reducible apply ws_next) | ((with_reducible first | refine ws_if fun rZ hZ => ?_ | refine ws_at fun rZ hZ => ?_); simp (disch := first | (simp; done) | assumption | omega | rfl | (simp; omega)) [mkFn,iIfS,iSeq,iOr,iAnd,iNot,iIf,iIsT,iVar,thenS,Rs.bind,Lk.hold,rdv,rdvs,isTy,isB,iRet,iChain,gLe,gLt,gGt,gGe,gCmp,retv,iNext,iC,op2,gAdd_i,gAdd_t,gAdd_l,gAdd_s,mulOk_b,dec_of,gSub,gMod,gDiv,iSet,iOwn,Lk.arg,Lk.args,Lk.pargs,Lk.settle,setv,iDrop,iTup,iLst,iB,rdvL,rdvLs,gLen,gList,gTuple,gMax,iCall,backR,ofRV,iMeth,lookM,iNew,iFld,iSetF,getF,putFl,gEq,gNe,gIs,notL,gIx,iNeg,iMut,mutTail,getL,putL,gApp,iDct,iHeap,noRef,noRefs,isFlat,tgN,tgT,tgs,iSl,pNo,pSome,gCut,iTgt,gPow,gMul,Lk.qE,iRaise,isSub,isKeyD,iSlS,iSetK,isTup,op2k] at hZ; subst hZ)); first | (with_reducible first | apply c_T | apply c_F | refine c_D (fun hz => ?_) (fun hz => ?_) | refine c_N (fun hz => ?_) (fun hz => ?_) | refine c_B (fun hz => ?_) (fun hz => ?_) | apply c_X) | (repeat1' (with_reducible first | apply q_nx | apply q_ret | apply q_exc | apply q_brk | apply q_cnt | apply l_nx | apply l_cnt | apply l_brk | apply l_ret | apply l_exc | apply f_nx | apply f_ret | apply f_exc)))))
      (all_goals first | with_reducible rfl | (simp [*]; done) | (exfalso; omega) | skip)
  show mkFn 2 0 (m__law_same (F__law_same n)) [.ref a, .lst xs] hp = _
  refine ws_fnE rfl ?_
  unfold m__law_same
  simp only [List.map_cons, List.map_nil, List.cons_append, List.nil_append, List.replicate]
  (repeat' ((try with_reducible apply ws_seq); first | (with_reducible first | apply ws_if_and | apply ws_if_or | apply ws_if_not | apply ws_ret_and | apply ws_ret_or | apply ws_ret_if | apply ws_set_and | apply ws_set_or | apply ws_set_if) | ((first | (with_reducible apply ws_next) | ((with_reducible first | refine ws_if fun rZ hZ => ?_ | refine ws_at fun rZ hZ => ?_); simp (disch := first | (simp; done) | assumption | omega | rfl | (simp; omega)) [mkFn,iIfS,iSeq,iOr,iAnd,iNot,iIf,iIsT,iVar,thenS,Rs.bind,Lk.hold,rdv,rdvs,isTy,isB,iRet,iChain,gLe,gLt,gGt,gGe,gCmp,retv,iNext,iC,op2,gAdd_i,gAdd_t,gAdd_l,gAdd_s,mulOk_b,dec_of,gSub,gMod,gDiv,iSet,iOwn,Lk.arg,Lk.args,Lk.pargs,Lk.settle,setv,iDrop,iTup,iLst,iB,rdvL,rdvLs,gLen,gList,gTuple,gMax,iCall,backR,ofRV,iMeth,lookM,iNew,iFld,iSetF,getF,putFl,gEq,gNe,gIs,notL,gIx,iNeg,iMut,mutTail,getL,putL,gApp,iDct,iHeap,noRef,noRefs,isFlat,tgN,tgT,tgs,iSl,pNo,pSome,gCut,iTgt,gPow,gMul,Lk.qE,iRaise,isSub,isKeyD,iSlS,iSetK,isTup,op2k, ha, al] at hZ; subst hZ)); first | (with_reducible first | apply c_T | apply c_F | refine c_D (fun hz => ?_) (fun hz => ?_) | refine c_N (fun hz => ?_) (fun hz => ?_) | refine c_B (fun hz => ?_) (fun hz => ?_) | apply c_X) | (repeat1' (with_reducible first | apply q_nx | apply q_ret | apply q_exc | apply q_brk | apply q_cnt | apply l_nx | apply l_cnt | apply l_brk | apply l_ret | apply l_exc | apply f_nx | apply f_ret | apply f_exc)))))
  (all_goals first | with_reducible rfl | (simp [*]; done) | (exfalso; omega) | skip)
theorem join_cons (y x : Str) (ps : List Str) (h : ps ≠ []) : PySem.Txt.join y (x :: ps) = x ++ y ++ PySem.Txt.join y ps := by
  cases ps with
  | nil => exact absurd rfl h
  | cons z r => rw [TL.join_eq, TL.join_eq]; rfl
theorem join_one (y x : Str) : PySem.Txt.join y [x] = x := by rw [TL.join_eq]; rfl
theorem app_len (x y : Str) : (x ++ y).length = x.length + y.length := by
  show (x.cps ++ y.cps).size = _
  rw [Array.size_append]; rfl
theorem join_len (y : Str) : ∀ ps : List Str, (PySem.Txt.join y ps).length ≤ (ps.map (·.length)).sum + ps.length * y.length
  | [] => by rw [TL.join_eq]; exact Nat.zero_le _
  | [x] => by rw [join_one]; simp
  | x :: z :: r => by
    rw [join_cons y x _ (by simp), app_len, app_len]
    have ih := join_len y (z :: r)
    simp only [List.map_cons, List.sum_cons, List.length_cons, Nat.add_mul] at ih ⊢
    omega
theorem join_mem (y : Str) : ∀ ps : List Str, ∀ c ∈ (PySem.Txt.join y ps).cps.toList, c ∈ y.cps.toList ∨ ∃ p ∈ ps, c ∈ p.cps.toList
  | [], c, h => by rw [TL.join_eq] at h; cases h
  | [x], c, h => by rw [join_one] at h; exact .inr ⟨x, List.mem_singleton.mpr rfl, h⟩
  | x :: z :: r, c, h => by
    rw [join_cons y x _ (by simp)] at h
    have h : c ∈ TL.tl (x ++ y ++ PySem.Txt.join y (z :: r)) := h
    rw [TL.tl_append, TL.tl_append] at h
    rcases List.mem_append.mp h with h | h
    · rcases List.mem_append.mp h with h | h
      · exact .inr ⟨x, List.mem_cons_self, h⟩
      · exact .inl h
    · rcases join_mem y (z :: r) c h with h | ⟨p, hp, h⟩
      · exact .inl h
      · exact .inr ⟨p, List.mem_cons_of_mem _ hp, h⟩
theorem sp_cps : TL.tl (" " : Str) = 32 :: [] := by decide +kernel
theorem nl_cps : TL.tl ("\n" : Str) = 10 :: [] := by decide +kernel
theorem sp_len : (" " : Str).length = 1 := by decide +kernel
theorem nl_len : ("\n" : Str).length = 1 := by decide +kernel
theorem emp_len : ("" : Str).length = 0 := by decide +kernel
theorem split_sp (ps : List Str) (hn : ps ≠ []) (h : ∀ p ∈ ps, Part p) (hl : (PySem.Txt.join " " ps).length ≤ 1000000) : gSplit (.str (PySem.Txt.join " " ps)) (.str " ") = some (.fr (ps.map D.str)) := by
  have e := TL.split_join sp_cps (by decide +kernel) hn fun p hp hc => by
    have := (h p hp).2 32 hc
    omega
  have z : ((" " : Str).length == 0) = false := by decide +kernel
  unfold gSplit
  simp only [z, if_pos hl, e]
theorem split_nl (ps : List Str) (hn : ps ≠ []) (h : ∀ p ∈ ps, ∀ c ∈ p.cps.toList, c ≠ 10) (hl : (PySem.Txt.join "\n" ps).length ≤ 1000000) : gSplit (.str (PySem.Txt.join "\n" ps)) (.str "\n") = some (.fr (ps.map D.str)) := by
  have e := TL.split_join nl_cps (by decide +kernel) hn fun p hp hc => h p hp 10 hc rfl
  have z : (("\n" : Str).length == 0) = false := by decide +kernel
  unfold gSplit
  simp only [z, if_pos hl, e]
theorem join_ok (y : Str) (ps : List Str) (h : (ps.map (·.length)).sum + ps.length * y.length ≤ 1000000) : gJoin (.str y) (.lst (ps.map D.str)) = some (.w (.str (PySem.Txt.join y ps))) := by
  unfold gJoin
  simp only [strsD_map, if_pos h]
theorem sum_le (ps : List Str) (k : Nat) (h : ∀ p ∈ ps, p.length ≤ k) : (ps.map (·.length)).sum ≤ ps.length * k := by
  induction ps with
  | nil => simp
  | cons x r ih =>
    have a := ih fun p hp => h p (List.mem_cons_of_mem _ hp)
    have b := h x List.mem_cons_self
    simp only [List.map_cons, List.sum_cons, List.length_cons, Nat.add_mul]
    omega
def Parts (ps : List Str) : Prop := ps ≠ [] ∧ ps.length ≤ 8 ∧ ∀ p ∈ ps, Part p
theorem parts_sum {ps : List Str} (h : Parts ps) : (ps.map (·.length)).sum + ps.length * (" " : Str).length ≤ 168 := by
  have := sum_le ps 20 fun p hp => (h.2.2 p hp).1.2
  have := h.2.1
  rw [sp_len]
  omega
def lineS (hd : Str) (ps : List Str) : Str := PySem.Txt.join " " (hd :: ps)
theorem line_facts {hd : Str} {ps : List Str} (hh : Part hd) (h : Parts ps) : ((lineS hd ps).length ≤ 200 ∧ lineS hd ps ≠ "") ∧ (∀ c ∈ (lineS hd ps).cps.toList, c ≠ 10) ∧ gSplit (.str (lineS hd ps)) (.str " ") = some (.fr ((hd :: ps).map D.str)) ∧
    gAdd (.str (hd ++ " ")) (.str (PySem.Txt.join " " ps)) = some (.w (.str (lineS hd ps))) := by
  have s := parts_sum h
  have l := join_len " " ps
  have e : lineS hd ps = hd ++ " " ++ PySem.Txt.join " " ps := join_cons " " hd ps h.1
  have le : (lineS hd ps).length = hd.length + 1 + (PySem.Txt.join " " ps).length := by rw [e, app_len, app_len, sp_len]
  have hl := hh.1
  have ls : (lineS hd ps).length ≤ 200 := by omega
  have all : ∀ p ∈ hd :: ps, Part p := fun p hp => by
    rcases List.mem_cons.mp hp with rfl | hp
    · exact hh
    · exact h.2.2 p hp
  refine ⟨⟨ls, fun z => ?_⟩, fun c hc z => ?_, split_sp _ (by simp) all (by show (lineS hd ps).length ≤ _; omega), ?_⟩
  · rw [z, emp_len] at le
    omega
  · rcases join_mem " " (hd :: ps) c hc with q | ⟨p, hp, q⟩
    · have q : c ∈ TL.tl (" " : Str) := q
      rw [sp_cps] at q
      have := List.mem_singleton.mp q
      omega
    · have := (all p hp).2 c q
      omega
  · rw [gAdd_s _ _ (by rw [app_len, sp_len]; omega), ← e]
def Wq (w : Str) (b1 b2 b3 b4 b5 b6 : Bool) : Prop := weq (.str w) (.str "line") = some b1 ∧ weq (.str w) (.str "shelf") = some b2 ∧ weq (.str w) (.str "hire") = some b3 ∧ weq (.str w) (.str "ways") = some b4 ∧ weq (.str w) (.str "store") = some b5 ∧ weq (.str w) (.str "bags") = some b6
theorem part_of (w : Str) (h : (0 < w.length ∧ w.length ≤ 20) ∧ (w.cps.toList.all fun c => decide (45 ≤ c ∧ c ≤ 122)) = true) : Part w := ⟨h.1, fun c hc => of_decide_eq_true (List.all_eq_true.mp h.2 c hc)⟩
theorem wq_line : Wq "line" true false false false false false := ⟨rfl, rfl, rfl, rfl, rfl, rfl⟩
theorem wq_shelf : Wq "shelf" false true false false false false := ⟨rfl, rfl, rfl, rfl, rfl, rfl⟩
theorem wq_hire : Wq "hire" false false true false false false := ⟨rfl, rfl, rfl, rfl, rfl, rfl⟩
theorem wq_ways : Wq "ways" false false false true false false := ⟨rfl, rfl, rfl, rfl, rfl, rfl⟩
theorem wq_store : Wq "store" false false false false true false := ⟨rfl, rfl, rfl, rfl, rfl, rfl⟩
theorem wq_bags : Wq "bags" false false false false false true := ⟨rfl, rfl, rfl, rfl, rfl, rfl⟩
theorem p_line : Part "line" := part_of _ (by decide +kernel)
theorem p_shelf : Part "shelf" := part_of _ (by decide +kernel)
theorem p_hire : Part "hire" := part_of _ (by decide +kernel)
theorem p_ways : Part "ways" := part_of _ (by decide +kernel)
theorem p_store : Part "store" := part_of _ (by decide +kernel)
theorem p_bags : Part "bags" := part_of _ (by decide +kernel)
theorem ask_part : Part "ask" := part_of _ (by decide +kernel)
theorem ask_eq : ("ask " : Str) = "ask" ++ " " := by decide +kernel
abbrev tI (st : List Int) : D := .tup (st.map D.int)
theorem cutD_1 (x : D) (r : List D) : cutD (x :: r) (some 1) none = r := by
  have e : HT.sIx (x :: r).length 0 (some 1) = 1 := by
    have := HT.sIx_nat (x :: r).length 0 1
    rw [Nat.min_eq_left (by simp)] at this
    exact this
  unfold cutD
  rw [e, HT.sIx_none]
  simp
theorem gIn_non (ns : List Int) : gIn .non (.tup (ns.map D.int)) = some (.w (.bl false)) := by
  have a : (ns.map D.int).all (fun x => (weqF 20 x .non).isSome) = true := List.all_eq_true.mpr fun x hx => by
    obtain ⟨i, _, rfl⟩ := List.mem_map.mp hx
    rfl
  have b : (ns.map D.int).any (fun x => weqF 20 x .non == some true) = false := by
    rw [List.any_eq_false]
    intro x hx
    obtain ⟨i, _, rfl⟩ := List.mem_map.mp hx
    show ¬ (some false == some true) = true
    decide
  show (if notL .non = true ∧ (ns.map D.int).all (fun x => (weqF 20 x .non).isSome) = true then some (RX.w (.bl ((ns.map D.int).any fun x => weqF 20 x .non == some true))) else none) = _
  rw [if_pos ⟨rfl, a⟩, b]
def Num (i : Int) : Prop := -10000000000000000000 < i ∧ i < 10000000000000000000
noncomputable def numD (hp : List Ob) (d : D) : D := match F_number_read [d] hp with
  | .ok (.v r) _ => r
  | _ => .non
theorem numD_map (hp : List Ob) (ns : List Int) (h : ∀ i ∈ ns, Num i) : ((ns.map nS).map D.str).map (numD hp) = ns.map D.int := by
  rw [List.map_map, List.map_map]
  refine List.map_congr_left fun i hi => ?_
  show numD hp (.str (nS i)) = _
  unfold numD
  rw [r_number i (h i hi) hp]
theorem r_cnum (ns : List Int) (h : ∀ i ∈ ns, Num i) (hl : ns.length ≤ 100) (x a b c : D) (hp : List Ob) : c_start_read_1 ⟨[.v (.lst (x :: (ns.map nS).map D.str)), .v a, .no, .no, .no], hp⟩ = .ok (.fr (ns.map D.int)) ⟨[.v (.lst (x :: (ns.map nS).map D.str)), .v a, .no, .no, .no], hp⟩ := by
  have cu := cutD_1 x ((ns.map nS).map D.str)
  have lm : ((ns.map nS).map D.str).length = ns.length := by rw [List.length_map, List.length_map]
  have mem : ∀ d ∈ (ns.map nS).map D.str, F_number_read [d] hp = .ok (.v (numD hp d)) hp := fun d hd => by
    obtain ⟨y, hy, rfl⟩ := List.mem_map.mp hd
    obtain ⟨i, hi, rfl⟩ := List.mem_map.mp hy
    have e := r_number i (h i hi) hp
    unfold numD
    rw [e]
  rw [← numD_map hp ns h]
  generalize (ns.map nS).map D.str = P at *
  unfold c_start_read_1
  exact lc_listA (i := 4) (s1 := ⟨[.v (.lst (x :: P)), .v a, .no, .no, .no], hp⟩) (numD hp) (by simp [mkFn,iIfS,iSeq,iOr,iAnd,iNot,iIf,iIsT,iVar,thenS,Rs.bind,Lk.hold,rdv,rdvs,isTy,isB,iRet,iChain,gLe,gLt,gGt,gGe,gCmp,retv,iNext,iC,op2,gAdd_i,gAdd_t,gAdd_l,gAdd_s,mulOk_b,dec_of,gSub,gMod,gDiv,iSet,iOwn,Lk.arg,Lk.args,Lk.pargs,Lk.settle,setv,iDrop,iTup,iLst,iB,rdvL,rdvLs,gLen,gList,gTuple,gMax,iCall,backR,ofRV,iMeth,lookM,iNew,iFld,iSetF,getF,putFl,gEq,gNe,gIs,notL,gIx,iNeg,iMut,mutTail,getL,putL,gApp,iDct,iHeap,noRef,noRefs,isFlat,tgN,tgT,tgs,iSl,pNo,pSome,gCut,iTgt,gPow,gMul,Lk.qE,iRaise,isSub,isKeyD,iSlS,iSetK,isTup,op2k, cu]) (by omega) fun d hd => by
    have m := mem d hd
    simp [mkFn,iIfS,iSeq,iOr,iAnd,iNot,iIf,iIsT,iVar,thenS,Rs.bind,Lk.hold,rdv,rdvs,isTy,isB,iRet,iChain,gLe,gLt,gGt,gGe,gCmp,retv,iNext,iC,op2,gAdd_i,gAdd_t,gAdd_l,gAdd_s,mulOk_b,dec_of,gSub,gMod,gDiv,iSet,iOwn,Lk.arg,Lk.args,Lk.pargs,Lk.settle,setv,iDrop,iTup,iLst,iB,rdvL,rdvLs,gLen,gList,gTuple,gMax,iCall,backR,ofRV,iMeth,lookM,iNew,iFld,iSetF,getF,putFl,gEq,gNe,gIs,notL,gIx,iNeg,iMut,mutTail,getL,putL,gApp,iDct,iHeap,noRef,noRefs,isFlat,tgN,tgT,tgs,iSl,pNo,pSome,gCut,iTgt,gPow,gMul,Lk.qE,iRaise,isSub,isKeyD,iSlS,iSetK,isTup,op2k, Lk.Sx.wipe, wipeE, m]
theorem r_cnumW (ns : List Int) (h : ∀ i ∈ ns, Num i) (hl : ns.length ≤ 100) (x a b c : D) (hp : List Ob) : c_wish_read_1 ⟨[.v (.lst (x :: (ns.map nS).map D.str)), .v a, .v b, .v c, .no], hp⟩ = .ok (.fr (ns.map D.int)) ⟨[.v (.lst (x :: (ns.map nS).map D.str)), .v a, .v b, .v c, .no], hp⟩ := by
  have cu := cutD_1 x ((ns.map nS).map D.str)
  have lm : ((ns.map nS).map D.str).length = ns.length := by rw [List.length_map, List.length_map]
  have mem : ∀ d ∈ (ns.map nS).map D.str, F_number_read [d] hp = .ok (.v (numD hp d)) hp := fun d hd => by
    obtain ⟨y, hy, rfl⟩ := List.mem_map.mp hd
    obtain ⟨i, hi, rfl⟩ := List.mem_map.mp hy
    have e := r_number i (h i hi) hp
    unfold numD
    rw [e]
  rw [← numD_map hp ns h]
  generalize (ns.map nS).map D.str = P at *
  unfold c_wish_read_1
  exact lc_listA (i := 4) (s1 := ⟨[.v (.lst (x :: P)), .v a, .v b, .v c, .no], hp⟩) (numD hp) (by simp [mkFn,iIfS,iSeq,iOr,iAnd,iNot,iIf,iIsT,iVar,thenS,Rs.bind,Lk.hold,rdv,rdvs,isTy,isB,iRet,iChain,gLe,gLt,gGt,gGe,gCmp,retv,iNext,iC,op2,gAdd_i,gAdd_t,gAdd_l,gAdd_s,mulOk_b,dec_of,gSub,gMod,gDiv,iSet,iOwn,Lk.arg,Lk.args,Lk.pargs,Lk.settle,setv,iDrop,iTup,iLst,iB,rdvL,rdvLs,gLen,gList,gTuple,gMax,iCall,backR,ofRV,iMeth,lookM,iNew,iFld,iSetF,getF,putFl,gEq,gNe,gIs,notL,gIx,iNeg,iMut,mutTail,getL,putL,gApp,iDct,iHeap,noRef,noRefs,isFlat,tgN,tgT,tgs,iSl,pNo,pSome,gCut,iTgt,gPow,gMul,Lk.qE,iRaise,isSub,isKeyD,iSlS,iSetK,isTup,op2k, cu]) (by omega) fun d hd => by
    have m := mem d hd
    simp [mkFn,iIfS,iSeq,iOr,iAnd,iNot,iIf,iIsT,iVar,thenS,Rs.bind,Lk.hold,rdv,rdvs,isTy,isB,iRet,iChain,gLe,gLt,gGt,gGe,gCmp,retv,iNext,iC,op2,gAdd_i,gAdd_t,gAdd_l,gAdd_s,mulOk_b,dec_of,gSub,gMod,gDiv,iSet,iOwn,Lk.arg,Lk.args,Lk.pargs,Lk.settle,setv,iDrop,iTup,iLst,iB,rdvL,rdvLs,gLen,gList,gTuple,gMax,iCall,backR,ofRV,iMeth,lookM,iNew,iFld,iSetF,getF,putFl,gEq,gNe,gIs,notL,gIx,iNeg,iMut,mutTail,getL,putL,gApp,iDct,iHeap,noRef,noRefs,isFlat,tgN,tgT,tgs,iSl,pNo,pSome,gCut,iTgt,gPow,gMul,Lk.qE,iRaise,isSub,isKeyD,iSlS,iSetK,isTup,op2k, Lk.Sx.wipe, wipeE, m]
def WiOf (c : Cl) (ds : List D) (H : List Ob) (r : FR) : Prop := match c with
  | .bags => F_Bags_is_wish ds H = r
  | .hire => F_Hire_is_wish ds H = r
  | .line => F_Line_is_wish ds H = r
  | .shelf => F_Shelf_is_wish ds H = r
  | .ways => F_Ways_is_wish ds H = r
  | .store => F_Store_is_wish ds H = r
  | _ => False
def Wc (c : Cl) : Prop := c = .bags ∨ c = .hire ∨ c = .line ∨ c = .shelf ∨ c = .ways ∨ c = .store
theorem r_sread (word : Str) (b1 b3 b4 b6 : Bool) (W : Wq word b1 false b3 b4 false b6) (ns : List Int) (hns : ∀ i ∈ ns, Num i) (hl : ns.length ≤ 8) (fit : ∀ H, F_many_fit [.str word, .int (ns.length : Nat)] H = .ok (.v (.bl true)) H) (H R : List Ob)
    (rule : F_rule_of [.str word, tI ns] H = .ok (.v (.ref H.length)) (H ++ R)) : F_start_read [.lst ((word :: ns.map nS).map D.str)] H = .ok (.v (.tup [.str word, tI ns])) (H ++ R) := by
  obtain ⟨q1, q2, q3, q4, q5, q6⟩ := W
  have a0 : L2.atI (D.str word :: (ns.map nS).map D.str) 0 = some (.str word) := (atI_nat _ 0).trans rfl
  have e := r_cnum ns hns (by omega) (.str word) (.str word) .non .non H
  have gn := gIn_non ns
  have fi := fit H
  have lm : (ns.map D.int).length = ns.length := List.length_map _
  have e0 : (word :: ns.map nS).map D.str = D.str word :: (ns.map nS).map D.str := rfl
  rw [e0]
  unfold tI at *
  generalize H ++ R = H2 at *
  generalize hP : (ns.map nS).map D.str = P at *
  generalize hL : D.str word :: P = L at *
  generalize ns.map D.int = S at *
  unfold F_start_read; refine ws_fnE rfl ?_; unfold m_start_read; simp only [List.map_cons, List.map_nil, List.cons_append, List.nil_append, List.replicate]
  (repeat' ((try with_reducible apply ws_seq); first | (with_reducible first | apply ws_if_and | apply ws_if_or | apply ws_if_not | apply ws_ret_and | apply ws_ret_or | apply ws_ret_if | apply ws_set_and | apply ws_set_or | apply ws_set_if) | ((first | (with_reducible apply ws_next) | ((with_reducible first | refine ws_if fun rZ hZ => ?_ | refine ws_at fun rZ hZ => ?_); simp (disch := first | (simp; done) | assumption | omega | rfl | (simp; omega)) [mkFn,iIfS,iSeq,iOr,iAnd,iNot,iIf,iIsT,iVar,thenS,Rs.bind,Lk.hold,rdv,rdvs,isTy,isB,iRet,iChain,gLe,gLt,gGt,gGe,gCmp,retv,iNext,iC,op2,gAdd_i,gAdd_t,gAdd_l,gAdd_s,mulOk_b,dec_of,gSub,gMod,gDiv,iSet,iOwn,Lk.arg,Lk.args,Lk.pargs,Lk.settle,setv,iDrop,iTup,iLst,iB,rdvL,rdvLs,gLen,gList,gTuple,gMax,iCall,backR,ofRV,iMeth,lookM,iNew,iFld,iSetF,getF,putFl,gEq,gNe,gIs,notL,gIx,iNeg,iMut,mutTail,getL,putL,gApp,iDct,iHeap,noRef,noRefs,isFlat,tgN,tgT,tgs,iSl,pNo,pSome,gCut,iTgt,gPow,gMul,Lk.qE,iRaise,isSub,isKeyD,iSlS,iSetK,isTup,op2k, a0, q2, q5, mixed, e, gn, lm, fi, rule, Lk.iTryE, Lk.noX] at hZ; subst hZ)); first | (with_reducible first | apply c_T | apply c_F | refine c_D (fun hz => ?_) (fun hz => ?_) | refine c_N (fun hz => ?_) (fun hz => ?_) | refine c_B (fun hz => ?_) (fun hz => ?_) | apply c_X) | (repeat1' (with_reducible first | apply q_nx | apply q_ret | apply q_exc | apply q_brk | apply q_cnt | apply l_nx | apply l_cnt | apply l_brk | apply l_ret | apply l_exc | apply f_nx | apply f_ret | apply f_exc)))))
  (all_goals first | with_reducible rfl | (simp [*]; done) | (exfalso; omega) | skip)
theorem r_sreadN (word : Str) (b2 b5 : Bool) (W : Wq word false b2 false false b5 false) (hb : b2 = true ∨ b5 = true) (A : List Str) (rA : RowK A) (H : List Ob) : F_start_read [.lst ((word :: A).map D.str)] H = .ok (.v (.tup [.str word, tS A])) H := by
  obtain ⟨q1, q2, q3, q4, q5, q6⟩ := W
  have a0 : L2.atI (D.str word :: A.map D.str) 0 = some (.str word) := (atI_nat _ 0).trans rfl
  have nm := r_names_ok A rA.2.2 rA.1 rA.2.1 H
  have cu := cutD_1 (.str word) (A.map D.str)
  have e0 : (word :: A).map D.str = D.str word :: A.map D.str := rfl
  rw [e0]
  unfold tS at *
  generalize hP : A.map D.str = P at *
  generalize hL : D.str word :: P = L at *
  unfold F_start_read; refine ws_fnE rfl ?_; unfold m_start_read; simp only [List.map_cons, List.map_nil, List.cons_append, List.nil_append, List.replicate]
  rcases hb with rfl | rfl
  · (repeat' ((try with_reducible apply ws_seq); first | (with_reducible first | apply ws_if_and | apply ws_if_or | apply ws_if_not | apply ws_ret_and | apply ws_ret_or | apply ws_ret_if | apply ws_set_and | apply ws_set_or | apply ws_set_if) | ((first | (with_reducible apply ws_next) | ((with_reducible first | refine ws_if fun rZ hZ => ?_ | refine ws_at fun rZ hZ => ?_); simp (disch := first | (simp; done) | assumption | omega | rfl | (simp; omega)) [mkFn,iIfS,iSeq,iOr,iAnd,iNot,iIf,iIsT,iVar,thenS,Rs.bind,Lk.hold,rdv,rdvs,isTy,isB,iRet,iChain,gLe,gLt,gGt,gGe,gCmp,retv,iNext,iC,op2,gAdd_i,gAdd_t,gAdd_l,gAdd_s,mulOk_b,dec_of,gSub,gMod,gDiv,iSet,iOwn,Lk.arg,Lk.args,Lk.pargs,Lk.settle,setv,iDrop,iTup,iLst,iB,rdvL,rdvLs,gLen,gList,gTuple,gMax,iCall,backR,ofRV,iMeth,lookM,iNew,iFld,iSetF,getF,putFl,gEq,gNe,gIs,notL,gIx,iNeg,iMut,mutTail,getL,putL,gApp,iDct,iHeap,noRef,noRefs,isFlat,tgN,tgT,tgs,iSl,pNo,pSome,gCut,iTgt,gPow,gMul,Lk.qE,iRaise,isSub,isKeyD,iSlS,iSetK,isTup,op2k, a0, q2, q5, mixed, cu, nm] at hZ; subst hZ)); first | (with_reducible first | apply c_T | apply c_F | refine c_D (fun hz => ?_) (fun hz => ?_) | refine c_N (fun hz => ?_) (fun hz => ?_) | refine c_B (fun hz => ?_) (fun hz => ?_) | apply c_X) | (repeat1' (with_reducible first | apply q_nx | apply q_ret | apply q_exc | apply q_brk | apply q_cnt | apply l_nx | apply l_cnt | apply l_brk | apply l_ret | apply l_exc | apply f_nx | apply f_ret | apply f_exc)))))
    (all_goals first | with_reducible rfl | (simp [*]; done) | (exfalso; omega) | skip)
  · cases b2
    · (repeat' ((try with_reducible apply ws_seq); first | (with_reducible first | apply ws_if_and | apply ws_if_or | apply ws_if_not | apply ws_ret_and | apply ws_ret_or | apply ws_ret_if | apply ws_set_and | apply ws_set_or | apply ws_set_if) | ((first | (with_reducible apply ws_next) | ((with_reducible first | refine ws_if fun rZ hZ => ?_ | refine ws_at fun rZ hZ => ?_); simp (disch := first | (simp; done) | assumption | omega | rfl | (simp; omega)) [mkFn,iIfS,iSeq,iOr,iAnd,iNot,iIf,iIsT,iVar,thenS,Rs.bind,Lk.hold,rdv,rdvs,isTy,isB,iRet,iChain,gLe,gLt,gGt,gGe,gCmp,retv,iNext,iC,op2,gAdd_i,gAdd_t,gAdd_l,gAdd_s,mulOk_b,dec_of,gSub,gMod,gDiv,iSet,iOwn,Lk.arg,Lk.args,Lk.pargs,Lk.settle,setv,iDrop,iTup,iLst,iB,rdvL,rdvLs,gLen,gList,gTuple,gMax,iCall,backR,ofRV,iMeth,lookM,iNew,iFld,iSetF,getF,putFl,gEq,gNe,gIs,notL,gIx,iNeg,iMut,mutTail,getL,putL,gApp,iDct,iHeap,noRef,noRefs,isFlat,tgN,tgT,tgs,iSl,pNo,pSome,gCut,iTgt,gPow,gMul,Lk.qE,iRaise,isSub,isKeyD,iSlS,iSetK,isTup,op2k, a0, q2, q5, mixed, cu, nm] at hZ; subst hZ)); first | (with_reducible first | apply c_T | apply c_F | refine c_D (fun hz => ?_) (fun hz => ?_) | refine c_N (fun hz => ?_) (fun hz => ?_) | refine c_B (fun hz => ?_) (fun hz => ?_) | apply c_X) | (repeat1' (with_reducible first | apply q_nx | apply q_ret | apply q_exc | apply q_brk | apply q_cnt | apply l_nx | apply l_cnt | apply l_brk | apply l_ret | apply l_exc | apply f_nx | apply f_ret | apply f_exc)))))
      (all_goals first | with_reducible rfl | (simp [*]; done) | (exfalso; omega) | skip)
    · (repeat' ((try with_reducible apply ws_seq); first | (with_reducible first | apply ws_if_and | apply ws_if_or | apply ws_if_not | apply ws_ret_and | apply ws_ret_or | apply ws_ret_if | apply ws_set_and | apply ws_set_or | apply ws_set_if) | ((first | (with_reducible apply ws_next) | ((with_reducible first | refine ws_if fun rZ hZ => ?_ | refine ws_at fun rZ hZ => ?_); simp (disch := first | (simp; done) | assumption | omega | rfl | (simp; omega)) [mkFn,iIfS,iSeq,iOr,iAnd,iNot,iIf,iIsT,iVar,thenS,Rs.bind,Lk.hold,rdv,rdvs,isTy,isB,iRet,iChain,gLe,gLt,gGt,gGe,gCmp,retv,iNext,iC,op2,gAdd_i,gAdd_t,gAdd_l,gAdd_s,mulOk_b,dec_of,gSub,gMod,gDiv,iSet,iOwn,Lk.arg,Lk.args,Lk.pargs,Lk.settle,setv,iDrop,iTup,iLst,iB,rdvL,rdvLs,gLen,gList,gTuple,gMax,iCall,backR,ofRV,iMeth,lookM,iNew,iFld,iSetF,getF,putFl,gEq,gNe,gIs,notL,gIx,iNeg,iMut,mutTail,getL,putL,gApp,iDct,iHeap,noRef,noRefs,isFlat,tgN,tgT,tgs,iSl,pNo,pSome,gCut,iTgt,gPow,gMul,Lk.qE,iRaise,isSub,isKeyD,iSlS,iSetK,isTup,op2k, a0, q2, q5, mixed, cu, nm] at hZ; subst hZ)); first | (with_reducible first | apply c_T | apply c_F | refine c_D (fun hz => ?_) (fun hz => ?_) | refine c_N (fun hz => ?_) (fun hz => ?_) | refine c_B (fun hz => ?_) (fun hz => ?_) | apply c_X) | (repeat1' (with_reducible first | apply q_nx | apply q_ret | apply q_exc | apply q_brk | apply q_cnt | apply l_nx | apply l_cnt | apply l_brk | apply l_ret | apply l_exc | apply f_nx | apply f_ret | apply f_exc)))))
      (all_goals first | with_reducible rfl | (simp [*]; done) | (exfalso; omega) | skip)
theorem ask_ne : weqS (.str "ask") (.str "ask") = some true := rfl
theorem r_wread1 (word : Str) (b1 b3 b6 : Bool) (W : Wq word b1 false b3 false false b6) (wc : Cl) (hc : Wc wc) (i : Int) (hi : Num i) (m : Nat) (fs : List (Fl × D)) (H : List Ob) (em : H[m]? = some (.ins wc fs)) (wi : WiOf wc [.ref m, .int i] H (.ok (.v (.bl true)) H)) : F_wish_read [.lst ([("ask" : Str), nS i].map D.str), .str word, .ref m] H = .ok (.v (.int i)) H := by
  obtain ⟨q1, q2, q3, q4, q5, q6⟩ := W
  have s2 : weqS (.str word) (.str "shelf") = some false := q2
  have s4 : weqS (.str word) (.str "ways") = some false := q4
  have s5 : weqS (.str word) (.str "store") = some false := q5
  have rn := r_number i hi H
  have a0 : L2.atI [D.str "ask", .str (nS i)] 0 = some (.str "ask") := rfl
  have a1 : L2.atI [D.str "ask", .str (nS i)] 1 = some (.str (nS i)) := rfl
  have l2 : [D.str "ask", .str (nS i)].length = 2 := rfl
  have ak := ask_ne
  have e0 : [("ask" : Str), nS i].map D.str = [D.str "ask", .str (nS i)] := rfl
  rw [e0]
  generalize nS i = y at *
  generalize [D.str "ask", .str y] = L at *
  rcases hc with rfl | rfl | rfl | rfl | rfl | rfl
  all_goals
    simp only [WiOf] at wi
    unfold F_wish_read; refine ws_fnE rfl ?_; unfold m_wish_read; simp only [List.map_cons, List.map_nil, List.cons_append, List.nil_append, List.replicate]
    (repeat' ((try with_reducible apply ws_seq); first | (with_reducible first | apply ws_if_and | apply ws_if_or | apply ws_if_not | apply ws_ret_and | apply ws_ret_or | apply ws_ret_if | apply ws_set_and | apply ws_set_or | apply ws_set_if) | ((first | (with_reducible apply ws_next) | ((with_reducible first | refine ws_if fun rZ hZ => ?_ | refine ws_at fun rZ hZ => ?_); simp (disch := first | (simp; done) | assumption | omega | rfl | (simp; omega)) [mkFn,iIfS,iSeq,iOr,iAnd,iNot,iIf,iIsT,iVar,thenS,Rs.bind,Lk.hold,rdv,rdvs,isTy,isB,iRet,iChain,gLe,gLt,gGt,gGe,gCmp,retv,iNext,iC,op2,gAdd_i,gAdd_t,gAdd_l,gAdd_s,mulOk_b,dec_of,gSub,gMod,gDiv,iSet,iOwn,Lk.arg,Lk.args,Lk.pargs,Lk.settle,setv,iDrop,iTup,iLst,iB,rdvL,rdvLs,gLen,gList,gTuple,gMax,iCall,backR,ofRV,iMeth,lookM,iNew,iFld,iSetF,getF,putFl,gEq,gNe,gIs,notL,gIx,iNeg,iMut,mutTail,getL,putL,gApp,iDct,iHeap,noRef,noRefs,isFlat,tgN,tgT,tgs,iSl,pNo,pSome,gCut,iTgt,gPow,gMul,Lk.qE,iRaise,isSub,isKeyD,iSlS,iSetK,isTup,op2k, a0, a1, l2, ak, s2, s4, s5, q4, mixed, rn, em, wi] at hZ; subst hZ)); first | (with_reducible first | apply c_T | apply c_F | refine c_D (fun hz => ?_) (fun hz => ?_) | refine c_N (fun hz => ?_) (fun hz => ?_) | refine c_B (fun hz => ?_) (fun hz => ?_) | apply c_X) | (repeat1' (with_reducible first | apply q_nx | apply q_ret | apply q_exc | apply q_brk | apply q_cnt | apply l_nx | apply l_cnt | apply l_brk | apply l_ret | apply l_exc | apply f_nx | apply f_ret | apply f_exc)))))
    (all_goals first | with_reducible rfl | (simp [*]; done) | (exfalso; omega) | skip)
theorem r_wreadN (word : Str) (b2 b5 : Bool) (W : Wq word false b2 false false b5 false) (hb : b2 = true ∧ b5 = false ∨ b2 = false ∧ b5 = true) (wc : Cl) (hc : Wc wc) (y : Str) (m : Nat) (fs : List (Fl × D)) (H : List Ob) (em : H[m]? = some (.ins wc fs)) (wi : WiOf wc [.ref m, .str y] H (.ok (.v (.bl true)) H)) : F_wish_read [.lst ([("ask" : Str), y].map D.str), .str word, .ref m] H = .ok (.v (.str y)) H := by
  obtain ⟨q1, q2, q3, q4, q5, q6⟩ := W
  have s2 : weqS (.str word) (.str "shelf") = some b2 := q2
  have s4 : weqS (.str word) (.str "ways") = some false := q4
  have s5 : weqS (.str word) (.str "store") = some b5 := q5
  have a0 : L2.atI [D.str "ask", .str y] 0 = some (.str "ask") := rfl
  have a1 : L2.atI [D.str "ask", .str y] 1 = some (.str y) := rfl
  have l2 : [D.str "ask", .str y].length = 2 := rfl
  have ak := ask_ne
  have e0 : [("ask" : Str), y].map D.str = [D.str "ask", .str y] := rfl
  rw [e0]
  generalize [D.str "ask", .str y] = L at *
  rcases hb with ⟨rfl, rfl⟩ | ⟨rfl, rfl⟩
  all_goals
    rcases hc with rfl | rfl | rfl | rfl | rfl | rfl
    all_goals
      simp only [WiOf] at wi
      unfold F_wish_read; refine ws_fnE rfl ?_; unfold m_wish_read; simp only [List.map_cons, List.map_nil, List.cons_append, List.nil_append, List.replicate]
      (repeat' ((try with_reducible apply ws_seq); first | (with_reducible first | apply ws_if_and | apply ws_if_or | apply ws_if_not | apply ws_ret_and | apply ws_ret_or | apply ws_ret_if | apply ws_set_and | apply ws_set_or | apply ws_set_if) | ((first | (with_reducible apply ws_next) | ((with_reducible first | refine ws_if fun rZ hZ => ?_ | refine ws_at fun rZ hZ => ?_); simp (disch := first | (simp; done) | assumption | omega | rfl | (simp; omega)) [mkFn,iIfS,iSeq,iOr,iAnd,iNot,iIf,iIsT,iVar,thenS,Rs.bind,Lk.hold,rdv,rdvs,isTy,isB,iRet,iChain,gLe,gLt,gGt,gGe,gCmp,retv,iNext,iC,op2,gAdd_i,gAdd_t,gAdd_l,gAdd_s,mulOk_b,dec_of,gSub,gMod,gDiv,iSet,iOwn,Lk.arg,Lk.args,Lk.pargs,Lk.settle,setv,iDrop,iTup,iLst,iB,rdvL,rdvLs,gLen,gList,gTuple,gMax,iCall,backR,ofRV,iMeth,lookM,iNew,iFld,iSetF,getF,putFl,gEq,gNe,gIs,notL,gIx,iNeg,iMut,mutTail,getL,putL,gApp,iDct,iHeap,noRef,noRefs,isFlat,tgN,tgT,tgs,iSl,pNo,pSome,gCut,iTgt,gPow,gMul,Lk.qE,iRaise,isSub,isKeyD,iSlS,iSetK,isTup,op2k, a0, a1, l2, ak, s2, s4, s5, q4, mixed, em, wi] at hZ; subst hZ)); first | (with_reducible first | apply c_T | apply c_F | refine c_D (fun hz => ?_) (fun hz => ?_) | refine c_N (fun hz => ?_) (fun hz => ?_) | refine c_B (fun hz => ?_) (fun hz => ?_) | apply c_X) | (repeat1' (with_reducible first | apply q_nx | apply q_ret | apply q_exc | apply q_brk | apply q_cnt | apply l_nx | apply l_cnt | apply l_brk | apply l_ret | apply l_exc | apply f_nx | apply f_ret | apply f_exc)))))
      (all_goals first | with_reducible rfl | (simp [*]; done) | (exfalso; omega) | skip)
theorem r_wreadW (word : Str) (W : Wq word false false false true false false) (C : List Int) (hC : ∀ i ∈ C, Num i) (l8 : 0 < C.length ∧ C.length ≤ 8) (m : Nat) (fs : List (Fl × D)) (H : List Ob) (em : H[m]? = some (.ins .ways fs)) (wi : F_Ways_is_wish [.ref m, tI C] H = .ok (.v (.bl true)) H) : F_wish_read [.lst ((("ask" : Str) :: C.map nS).map D.str), .str word, .ref m] H = .ok (.v (tI C)) H := by
  obtain ⟨q1, q2, q3, q4, q5, q6⟩ := W
  have s4 : weqS (.str word) (.str "ways") = some true := q4
  obtain ⟨c0, cr, ec⟩ : ∃ c r, C = c :: r := by
    cases C with
    | nil => exact absurd l8.1 (by simp)
    | cons c r => exact ⟨c, r, rfl⟩
  have e := r_cnumW C hC (by omega) (.str "ask") (.str word) (.ref m) (.str (nS c0)) H
  have a0 : L2.atI (D.str "ask" :: (C.map nS).map D.str) 0 = some (.str "ask") := (atI_nat _ 0).trans rfl
  have a1 : L2.atI (D.str "ask" :: (C.map nS).map D.str) 1 = some (.str (nS c0)) := by rw [ec]; exact (atI_nat _ 1).trans rfl
  have l2 : (D.str "ask" :: (C.map nS).map D.str).length = C.length + 1 := by simp
  have n2 : ¬ ((C.length : Int) + 1) < 2 := by omega
  have n3 : ¬ C.length + 1 < 2 := by omega
  have ak := ask_ne
  have e0 : (("ask" : Str) :: C.map nS).map D.str = D.str "ask" :: (C.map nS).map D.str := rfl
  rw [e0]
  unfold tI at *
  generalize (C.map nS).map D.str = P at *
  generalize C.map D.int = S at *
  generalize hL : D.str "ask" :: P = L at *
  generalize nS c0 = y at *
  generalize C.length = n at *
  unfold F_wish_read; refine ws_fnE rfl ?_; unfold m_wish_read; simp only [List.map_cons, List.map_nil, List.cons_append, List.nil_append, List.replicate]
  by_cases z : 1 < n
  · have z1 : (2 : Int) < (n : Int) + 1 := by omega
    have z2 : 2 < n + 1 := by omega
    (repeat' ((try with_reducible apply ws_seq); first | (with_reducible first | apply ws_if_and | apply ws_if_or | apply ws_if_not | apply ws_ret_and | apply ws_ret_or | apply ws_ret_if | apply ws_set_and | apply ws_set_or | apply ws_set_if) | ((first | (with_reducible apply ws_next) | ((with_reducible first | refine ws_if fun rZ hZ => ?_ | refine ws_at fun rZ hZ => ?_); simp (disch := first | (simp; done) | assumption | omega | rfl | (simp; omega)) [mkFn,iIfS,iSeq,iOr,iAnd,iNot,iIf,iIsT,iVar,thenS,Rs.bind,Lk.hold,rdv,rdvs,isTy,isB,iRet,iChain,gLe,gLt,gGt,gGe,gCmp,retv,iNext,iC,op2,gAdd_i,gAdd_t,gAdd_l,gAdd_s,mulOk_b,dec_of,gSub,gMod,gDiv,iSet,iOwn,Lk.arg,Lk.args,Lk.pargs,Lk.settle,setv,iDrop,iTup,iLst,iB,rdvL,rdvLs,gLen,gList,gTuple,gMax,iCall,backR,ofRV,iMeth,lookM,iNew,iFld,iSetF,getF,putFl,gEq,gNe,gIs,notL,gIx,iNeg,iMut,mutTail,getL,putL,gApp,iDct,iHeap,noRef,noRefs,isFlat,tgN,tgT,tgs,iSl,pNo,pSome,gCut,iTgt,gPow,gMul,Lk.qE,iRaise,isSub,isKeyD,iSlS,iSetK,isTup,op2k, a0, a1, l2, n2, n3, z1, z2, z, ak, s4, q4, mixed, e, em, wi] at hZ; subst hZ)); first | (with_reducible first | apply c_T | apply c_F | refine c_D (fun hz => ?_) (fun hz => ?_) | refine c_N (fun hz => ?_) (fun hz => ?_) | refine c_B (fun hz => ?_) (fun hz => ?_) | apply c_X) | (repeat1' (with_reducible first | apply q_nx | apply q_ret | apply q_exc | apply q_brk | apply q_cnt | apply l_nx | apply l_cnt | apply l_brk | apply l_ret | apply l_exc | apply f_nx | apply f_ret | apply f_exc)))))
    (all_goals first | with_reducible rfl | (simp [*]; done) | (exfalso; omega) | skip)
  · have z1 : ¬ (2 : Int) < (n : Int) + 1 := by omega
    have z2 : ¬ 2 < n + 1 := by omega
    (repeat' ((try with_reducible apply ws_seq); first | (with_reducible first | apply ws_if_and | apply ws_if_or | apply ws_if_not | apply ws_ret_and | apply ws_ret_or | apply ws_ret_if | apply ws_set_and | apply ws_set_or | apply ws_set_if) | ((first | (with_reducible apply ws_next) | ((with_reducible first | refine ws_if fun rZ hZ => ?_ | refine ws_at fun rZ hZ => ?_); simp (disch := first | (simp; done) | assumption | omega | rfl | (simp; omega)) [mkFn,iIfS,iSeq,iOr,iAnd,iNot,iIf,iIsT,iVar,thenS,Rs.bind,Lk.hold,rdv,rdvs,isTy,isB,iRet,iChain,gLe,gLt,gGt,gGe,gCmp,retv,iNext,iC,op2,gAdd_i,gAdd_t,gAdd_l,gAdd_s,mulOk_b,dec_of,gSub,gMod,gDiv,iSet,iOwn,Lk.arg,Lk.args,Lk.pargs,Lk.settle,setv,iDrop,iTup,iLst,iB,rdvL,rdvLs,gLen,gList,gTuple,gMax,iCall,backR,ofRV,iMeth,lookM,iNew,iFld,iSetF,getF,putFl,gEq,gNe,gIs,notL,gIx,iNeg,iMut,mutTail,getL,putL,gApp,iDct,iHeap,noRef,noRefs,isFlat,tgN,tgT,tgs,iSl,pNo,pSome,gCut,iTgt,gPow,gMul,Lk.qE,iRaise,isSub,isKeyD,iSlS,iSetK,isTup,op2k, a0, a1, l2, n2, n3, z1, z2, z, ak, s4, q4, mixed, e, em, wi] at hZ; subst hZ)); first | (with_reducible first | apply c_T | apply c_F | refine c_D (fun hz => ?_) (fun hz => ?_) | refine c_N (fun hz => ?_) (fun hz => ?_) | refine c_B (fun hz => ?_) (fun hz => ?_) | apply c_X) | (repeat1' (with_reducible first | apply q_nx | apply q_ret | apply q_exc | apply q_brk | apply q_cnt | apply l_nx | apply l_cnt | apply l_brk | apply l_ret | apply l_exc | apply f_nx | apply f_ret | apply f_exc)))))
    (all_goals first | with_reducible rfl | (simp [*]; done) | (exfalso; omega) | skip)
theorem str_num (i : Int) (h : Num i) : gStr [.int i] = some (.w (.str (nS i))) := by
  unfold Num at h
  show (if dec (i.natAbs < 2 ^ 200) = true then some (RX.w (.str (Str.ofString (toString i)))) else none) = _
  rw [if_pos (dec_of (Nat.lt_trans (show i.natAbs < 2 ^ 64 by omega) (by decide)))]
  rfl
theorem w_num (i : Int) (h : Num i) (H : List Ob) : F__law_words [.int i] H = .ok (.v (.str (PySem.Txt.join " " [nS i]))) H := by
  have s := str_num i h
  rw [join_one]
  unfold F__law_words; refine ws_fnE rfl ?_; unfold m__law_words; simp only [List.map_cons, List.map_nil, List.cons_append, List.nil_append, List.replicate]
  (repeat' ((try with_reducible apply ws_seq); first | (with_reducible first | apply ws_if_and | apply ws_if_or | apply ws_if_not | apply ws_ret_and | apply ws_ret_or | apply ws_ret_if | apply ws_set_and | apply ws_set_or | apply ws_set_if) | ((first | (with_reducible apply ws_next) | ((with_reducible first | refine ws_if fun rZ hZ => ?_ | refine ws_at fun rZ hZ => ?_); simp (disch := first | (simp; done) | assumption | omega | rfl | (simp; omega)) [mkFn,iIfS,iSeq,iOr,iAnd,iNot,iIf,iIsT,iVar,thenS,Rs.bind,Lk.hold,rdv,rdvs,isTy,isB,iRet,iChain,gLe,gLt,gGt,gGe,gCmp,retv,iNext,iC,op2,gAdd_i,gAdd_t,gAdd_l,gAdd_s,mulOk_b,dec_of,gSub,gMod,gDiv,iSet,iOwn,Lk.arg,Lk.args,Lk.pargs,Lk.settle,setv,iDrop,iTup,iLst,iB,rdvL,rdvLs,gLen,gList,gTuple,gMax,iCall,backR,ofRV,iMeth,lookM,iNew,iFld,iSetF,getF,putFl,gEq,gNe,gIs,notL,gIx,iNeg,iMut,mutTail,getL,putL,gApp,iDct,iHeap,noRef,noRefs,isFlat,tgN,tgT,tgs,iSl,pNo,pSome,gCut,iTgt,gPow,gMul,Lk.qE,iRaise,isSub,isKeyD,iSlS,iSetK,isTup,op2k, s] at hZ; subst hZ)); first | (with_reducible first | apply c_T | apply c_F | refine c_D (fun hz => ?_) (fun hz => ?_) | refine c_N (fun hz => ?_) (fun hz => ?_) | refine c_B (fun hz => ?_) (fun hz => ?_) | apply c_X) | (repeat1' (with_reducible first | apply q_nx | apply q_ret | apply q_exc | apply q_brk | apply q_cnt | apply l_nx | apply l_cnt | apply l_brk | apply l_ret | apply l_exc | apply f_nx | apply f_ret | apply f_exc)))))
  (all_goals first | with_reducible rfl | (simp [*]; done) | (exfalso; omega) | skip)
theorem w_str (x : Str) (H : List Ob) : F__law_words [.str x] H = .ok (.v (.str (PySem.Txt.join " " [x]))) H := by
  rw [join_one]
  unfold F__law_words; refine ws_fnE rfl ?_; unfold m__law_words; simp only [List.map_cons, List.map_nil, List.cons_append, List.nil_append, List.replicate]
  (repeat' ((try with_reducible apply ws_seq); first | (with_reducible first | apply ws_if_and | apply ws_if_or | apply ws_if_not | apply ws_ret_and | apply ws_ret_or | apply ws_ret_if | apply ws_set_and | apply ws_set_or | apply ws_set_if) | ((first | (with_reducible apply ws_next) | ((with_reducible first | refine ws_if fun rZ hZ => ?_ | refine ws_at fun rZ hZ => ?_); simp (disch := first | (simp; done) | assumption | omega | rfl | (simp; omega)) [mkFn,iIfS,iSeq,iOr,iAnd,iNot,iIf,iIsT,iVar,thenS,Rs.bind,Lk.hold,rdv,rdvs,isTy,isB,iRet,iChain,gLe,gLt,gGt,gGe,gCmp,retv,iNext,iC,op2,gAdd_i,gAdd_t,gAdd_l,gAdd_s,mulOk_b,dec_of,gSub,gMod,gDiv,iSet,iOwn,Lk.arg,Lk.args,Lk.pargs,Lk.settle,setv,iDrop,iTup,iLst,iB,rdvL,rdvLs,gLen,gList,gTuple,gMax,iCall,backR,ofRV,iMeth,lookM,iNew,iFld,iSetF,getF,putFl,gEq,gNe,gIs,notL,gIx,iNeg,iMut,mutTail,getL,putL,gApp,iDct,iHeap,noRef,noRefs,isFlat,tgN,tgT,tgs,iSl,pNo,pSome,gCut,iTgt,gPow,gMul,Lk.qE,iRaise,isSub,isKeyD,iSlS,iSetK,isTup,op2k, Lk.gStr] at hZ; subst hZ)); first | (with_reducible first | apply c_T | apply c_F | refine c_D (fun hz => ?_) (fun hz => ?_) | refine c_N (fun hz => ?_) (fun hz => ?_) | refine c_B (fun hz => ?_) (fun hz => ?_) | apply c_X) | (repeat1' (with_reducible first | apply q_nx | apply q_ret | apply q_exc | apply q_brk | apply q_cnt | apply l_nx | apply l_cnt | apply l_brk | apply l_ret | apply l_exc | apply f_nx | apply f_ret | apply f_exc)))))
  (all_goals first | with_reducible rfl | (simp [*]; done) | (exfalso; omega) | skip)
noncomputable def strD' (d : D) : D := match gStr [d] with
  | some (.w r) => r
  | _ => .non
theorem w_tup (ds : List D) (ps : List Str) (e : ds.map strD' = ps.map D.str) (ok : ∀ d ∈ ds, gStr [d] = some (.w (strD' d)) ∧ ∀ H, der H d = d) (h : Parts ps) (H : List Ob) : F__law_words [.tup ds] H = .ok (.v (.str (PySem.Txt.join " " ps))) H := by
  have s := parts_sum h
  have l : ds.length ≤ 8 := by
    have := congrArg List.length e
    rw [List.length_map, List.length_map] at this
    rw [this]; exact h.2.1
  have j := join_ok " " ps (by omega)
  have e1 : c__law_words_1 ⟨[.v (.tup ds), .no], H⟩ = .ok (.fr (ps.map D.str)) ⟨[.v (.tup ds), .no], H⟩ := by
    rw [← e]
    unfold c__law_words_1
    exact lc_listA (i := 1) (s1 := ⟨[.v (.tup ds), .no], H⟩) strD' (by simp [mkFn,iIfS,iSeq,iOr,iAnd,iNot,iIf,iIsT,iVar,thenS,Rs.bind,Lk.hold,rdv,rdvs,isTy,isB,iRet,iChain,gLe,gLt,gGt,gGe,gCmp,retv,iNext,iC,op2,gAdd_i,gAdd_t,gAdd_l,gAdd_s,mulOk_b,dec_of,gSub,gMod,gDiv,iSet,iOwn,Lk.arg,Lk.args,Lk.pargs,Lk.settle,setv,iDrop,iTup,iLst,iB,rdvL,rdvLs,gLen,gList,gTuple,gMax,iCall,backR,ofRV,iMeth,lookM,iNew,iFld,iSetF,getF,putFl,gEq,gNe,gIs,notL,gIx,iNeg,iMut,mutTail,getL,putL,gApp,iDct,iHeap,noRef,noRefs,isFlat,tgN,tgT,tgs,iSl,pNo,pSome,gCut,iTgt,gPow,gMul,Lk.qE,iRaise,isSub,isKeyD,iSlS,iSetK,isTup,op2k]) (by omega) fun d hd => by
      have m := (ok d hd).1
      have m2 := (ok d hd).2 H
      simp [mkFn,iIfS,iSeq,iOr,iAnd,iNot,iIf,iIsT,iVar,thenS,Rs.bind,Lk.hold,rdv,rdvs,isTy,isB,iRet,iChain,gLe,gLt,gGt,gGe,gCmp,retv,iNext,iC,op2,gAdd_i,gAdd_t,gAdd_l,gAdd_s,mulOk_b,dec_of,gSub,gMod,gDiv,iSet,iOwn,Lk.arg,Lk.args,Lk.pargs,Lk.settle,setv,iDrop,iTup,iLst,iB,rdvL,rdvLs,gLen,gList,gTuple,gMax,iCall,backR,ofRV,iMeth,lookM,iNew,iFld,iSetF,getF,putFl,gEq,gNe,gIs,notL,gIx,iNeg,iMut,mutTail,getL,putL,gApp,iDct,iHeap,noRef,noRefs,isFlat,tgN,tgT,tgs,iSl,pNo,pSome,gCut,iTgt,gPow,gMul,Lk.qE,iRaise,isSub,isKeyD,iSlS,iSetK,isTup,op2k, Lk.Sx.wipe, wipeE, m, m2]
  generalize ps.map D.str = P at *
  unfold F__law_words; refine ws_fnE rfl ?_; unfold m__law_words; simp only [List.map_cons, List.map_nil, List.cons_append, List.nil_append, List.replicate]
  (repeat' ((try with_reducible apply ws_seq); first | (with_reducible first | apply ws_if_and | apply ws_if_or | apply ws_if_not | apply ws_ret_and | apply ws_ret_or | apply ws_ret_if | apply ws_set_and | apply ws_set_or | apply ws_set_if) | ((first | (with_reducible apply ws_next) | ((with_reducible first | refine ws_if fun rZ hZ => ?_ | refine ws_at fun rZ hZ => ?_); simp (disch := first | (simp; done) | assumption | omega | rfl | (simp; omega)) [mkFn,iIfS,iSeq,iOr,iAnd,iNot,iIf,iIsT,iVar,thenS,Rs.bind,Lk.hold,rdv,rdvs,isTy,isB,iRet,iChain,gLe,gLt,gGt,gGe,gCmp,retv,iNext,iC,op2,gAdd_i,gAdd_t,gAdd_l,gAdd_s,mulOk_b,dec_of,gSub,gMod,gDiv,iSet,iOwn,Lk.arg,Lk.args,Lk.pargs,Lk.settle,setv,iDrop,iTup,iLst,iB,rdvL,rdvLs,gLen,gList,gTuple,gMax,iCall,backR,ofRV,iMeth,lookM,iNew,iFld,iSetF,getF,putFl,gEq,gNe,gIs,notL,gIx,iNeg,iMut,mutTail,getL,putL,gApp,iDct,iHeap,noRef,noRefs,isFlat,tgN,tgT,tgs,iSl,pNo,pSome,gCut,iTgt,gPow,gMul,Lk.qE,iRaise,isSub,isKeyD,iSlS,iSetK,isTup,op2k, e1, j, isStr] at hZ; subst hZ)); first | (with_reducible first | apply c_T | apply c_F | refine c_D (fun hz => ?_) (fun hz => ?_) | refine c_N (fun hz => ?_) (fun hz => ?_) | refine c_B (fun hz => ?_) (fun hz => ?_) | apply c_X) | (repeat1' (with_reducible first | apply q_nx | apply q_ret | apply q_exc | apply q_brk | apply q_cnt | apply l_nx | apply l_cnt | apply l_brk | apply l_ret | apply l_exc | apply f_nx | apply f_ret | apply f_exc)))))
  (all_goals first | with_reducible rfl | (simp [*]; done) | (exfalso; omega) | skip)
theorem w_ints (ns : List Int) (hn : ∀ i ∈ ns, Num i) (h : Parts (ns.map nS)) (H : List Ob) : F__law_words [tI ns] H = .ok (.v (.str (PySem.Txt.join " " (ns.map nS)))) H := by
  have s : ∀ i ∈ ns, strD' (.int i) = .str (nS i) := fun i hi => by unfold strD'; rw [str_num i (hn i hi)]
  refine w_tup (ns.map D.int) _ ?_ (fun d hd => ?_) h H
  · rw [List.map_map, List.map_map]
    exact List.map_congr_left s
  · obtain ⟨i, hi, rfl⟩ := List.mem_map.mp hd
    rw [s i hi]
    exact ⟨str_num i (hn i hi), fun _ => rfl⟩
theorem w_strs (A : List Str) (h : Parts A) (H : List Ob) : F__law_words [tS A] H = .ok (.v (.str (PySem.Txt.join " " A))) H := by
  refine w_tup (A.map D.str) _ ?_ (fun d hd => ?_) h H
  · rw [List.map_map]
    exact List.map_congr_left fun x _ => rfl
  · obtain ⟨x, _, rfl⟩ := List.mem_map.mp hd
    exact ⟨rfl, fun _ => rfl⟩
theorem mf_line (word : Str) (W : Wq word true false false false false false) (k : Nat) (H : List Ob) : F_many_fit [.str word, .int (k : Nat)] H = .ok (.v (.bl true)) H := by
  obtain ⟨q1, q2, q3, q4, q5, q6⟩ := W
  unfold F_many_fit; refine ws_fnE rfl ?_; unfold m_many_fit; simp only [List.map_cons, List.map_nil, List.cons_append, List.nil_append, List.replicate]
  (repeat' ((try with_reducible apply ws_seq); first | (with_reducible first | apply ws_if_and | apply ws_if_or | apply ws_if_not | apply ws_ret_and | apply ws_ret_or | apply ws_ret_if | apply ws_set_and | apply ws_set_or | apply ws_set_if) | ((first | (with_reducible apply ws_next) | ((with_reducible first | refine ws_if fun rZ hZ => ?_ | refine ws_at fun rZ hZ => ?_); simp (disch := first | (simp; done) | assumption | omega | rfl | (simp; omega)) [mkFn,iIfS,iSeq,iOr,iAnd,iNot,iIf,iIsT,iVar,thenS,Rs.bind,Lk.hold,rdv,rdvs,isTy,isB,iRet,iChain,gLe,gLt,gGt,gGe,gCmp,retv,iNext,iC,op2,gAdd_i,gAdd_t,gAdd_l,gAdd_s,mulOk_b,dec_of,gSub,gMod,gDiv,iSet,iOwn,Lk.arg,Lk.args,Lk.pargs,Lk.settle,setv,iDrop,iTup,iLst,iB,rdvL,rdvLs,gLen,gList,gTuple,gMax,iCall,backR,ofRV,iMeth,lookM,iNew,iFld,iSetF,getF,putFl,gEq,gNe,gIs,notL,gIx,iNeg,iMut,mutTail,getL,putL,gApp,iDct,iHeap,noRef,noRefs,isFlat,tgN,tgT,tgs,iSl,pNo,pSome,gCut,iTgt,gPow,gMul,Lk.qE,iRaise,isSub,isKeyD,iSlS,iSetK,isTup,op2k, q1, q4, q3, q6, mixed] at hZ; subst hZ)); first | (with_reducible first | apply c_T | apply c_F | refine c_D (fun hz => ?_) (fun hz => ?_) | refine c_N (fun hz => ?_) (fun hz => ?_) | refine c_B (fun hz => ?_) (fun hz => ?_) | apply c_X) | (repeat1' (with_reducible first | apply q_nx | apply q_ret | apply q_exc | apply q_brk | apply q_cnt | apply l_nx | apply l_cnt | apply l_brk | apply l_ret | apply l_exc | apply f_nx | apply f_ret | apply f_exc)))))
  (all_goals first | with_reducible rfl | (simp [*]; done) | (exfalso; omega) | skip)
theorem mf_ways (word : Str) (W : Wq word false false false true false false) (H : List Ob) : F_many_fit [.str word, .int ((3 : Nat) : Int)] H = .ok (.v (.bl true)) H := by
  obtain ⟨q1, q2, q3, q4, q5, q6⟩ := W
  unfold F_many_fit; refine ws_fnE rfl ?_; unfold m_many_fit; simp only [List.map_cons, List.map_nil, List.cons_append, List.nil_append, List.replicate]
  (repeat' ((try with_reducible apply ws_seq); first | (with_reducible first | apply ws_if_and | apply ws_if_or | apply ws_if_not | apply ws_ret_and | apply ws_ret_or | apply ws_ret_if | apply ws_set_and | apply ws_set_or | apply ws_set_if) | ((first | (with_reducible apply ws_next) | ((with_reducible first | refine ws_if fun rZ hZ => ?_ | refine ws_at fun rZ hZ => ?_); simp (disch := first | (simp; done) | assumption | omega | rfl | (simp; omega)) [mkFn,iIfS,iSeq,iOr,iAnd,iNot,iIf,iIsT,iVar,thenS,Rs.bind,Lk.hold,rdv,rdvs,isTy,isB,iRet,iChain,gLe,gLt,gGt,gGe,gCmp,retv,iNext,iC,op2,gAdd_i,gAdd_t,gAdd_l,gAdd_s,mulOk_b,dec_of,gSub,gMod,gDiv,iSet,iOwn,Lk.arg,Lk.args,Lk.pargs,Lk.settle,setv,iDrop,iTup,iLst,iB,rdvL,rdvLs,gLen,gList,gTuple,gMax,iCall,backR,ofRV,iMeth,lookM,iNew,iFld,iSetF,getF,putFl,gEq,gNe,gIs,notL,gIx,iNeg,iMut,mutTail,getL,putL,gApp,iDct,iHeap,noRef,noRefs,isFlat,tgN,tgT,tgs,iSl,pNo,pSome,gCut,iTgt,gPow,gMul,Lk.qE,iRaise,isSub,isKeyD,iSlS,iSetK,isTup,op2k, q1, q4, q3, q6, mixed] at hZ; subst hZ)); first | (with_reducible first | apply c_T | apply c_F | refine c_D (fun hz => ?_) (fun hz => ?_) | refine c_N (fun hz => ?_) (fun hz => ?_) | refine c_B (fun hz => ?_) (fun hz => ?_) | apply c_X) | (repeat1' (with_reducible first | apply q_nx | apply q_ret | apply q_exc | apply q_brk | apply q_cnt | apply l_nx | apply l_cnt | apply l_brk | apply l_ret | apply l_exc | apply f_nx | apply f_ret | apply f_exc)))))
  (all_goals first | with_reducible rfl | (simp [*]; done) | (exfalso; omega) | skip)
theorem mf_hire (word : Str) (W : Wq word false false true false false false) (H : List Ob) : F_many_fit [.str word, .int ((1 : Nat) : Int)] H = .ok (.v (.bl true)) H := by
  obtain ⟨q1, q2, q3, q4, q5, q6⟩ := W
  unfold F_many_fit; refine ws_fnE rfl ?_; unfold m_many_fit; simp only [List.map_cons, List.map_nil, List.cons_append, List.nil_append, List.replicate]
  (repeat' ((try with_reducible apply ws_seq); first | (with_reducible first | apply ws_if_and | apply ws_if_or | apply ws_if_not | apply ws_ret_and | apply ws_ret_or | apply ws_ret_if | apply ws_set_and | apply ws_set_or | apply ws_set_if) | ((first | (with_reducible apply ws_next) | ((with_reducible first | refine ws_if fun rZ hZ => ?_ | refine ws_at fun rZ hZ => ?_); simp (disch := first | (simp; done) | assumption | omega | rfl | (simp; omega)) [mkFn,iIfS,iSeq,iOr,iAnd,iNot,iIf,iIsT,iVar,thenS,Rs.bind,Lk.hold,rdv,rdvs,isTy,isB,iRet,iChain,gLe,gLt,gGt,gGe,gCmp,retv,iNext,iC,op2,gAdd_i,gAdd_t,gAdd_l,gAdd_s,mulOk_b,dec_of,gSub,gMod,gDiv,iSet,iOwn,Lk.arg,Lk.args,Lk.pargs,Lk.settle,setv,iDrop,iTup,iLst,iB,rdvL,rdvLs,gLen,gList,gTuple,gMax,iCall,backR,ofRV,iMeth,lookM,iNew,iFld,iSetF,getF,putFl,gEq,gNe,gIs,notL,gIx,iNeg,iMut,mutTail,getL,putL,gApp,iDct,iHeap,noRef,noRefs,isFlat,tgN,tgT,tgs,iSl,pNo,pSome,gCut,iTgt,gPow,gMul,Lk.qE,iRaise,isSub,isKeyD,iSlS,iSetK,isTup,op2k, q1, q4, q3, q6, mixed] at hZ; subst hZ)); first | (with_reducible first | apply c_T | apply c_F | refine c_D (fun hz => ?_) (fun hz => ?_) | refine c_N (fun hz => ?_) (fun hz => ?_) | refine c_B (fun hz => ?_) (fun hz => ?_) | apply c_X) | (repeat1' (with_reducible first | apply q_nx | apply q_ret | apply q_exc | apply q_brk | apply q_cnt | apply l_nx | apply l_cnt | apply l_brk | apply l_ret | apply l_exc | apply f_nx | apply f_ret | apply f_exc)))))
  (all_goals first | with_reducible rfl | (simp [*]; done) | (exfalso; omega) | skip)
theorem mf_bags (word : Str) (W : Wq word false false false false false true) (H : List Ob) : F_many_fit [.str word, .int ((1 : Nat) : Int)] H = .ok (.v (.bl true)) H := by
  obtain ⟨q1, q2, q3, q4, q5, q6⟩ := W
  unfold F_many_fit; refine ws_fnE rfl ?_; unfold m_many_fit; simp only [List.map_cons, List.map_nil, List.cons_append, List.nil_append, List.replicate]
  (repeat' ((try with_reducible apply ws_seq); first | (with_reducible first | apply ws_if_and | apply ws_if_or | apply ws_if_not | apply ws_ret_and | apply ws_ret_or | apply ws_ret_if | apply ws_set_and | apply ws_set_or | apply ws_set_if) | ((first | (with_reducible apply ws_next) | ((with_reducible first | refine ws_if fun rZ hZ => ?_ | refine ws_at fun rZ hZ => ?_); simp (disch := first | (simp; done) | assumption | omega | rfl | (simp; omega)) [mkFn,iIfS,iSeq,iOr,iAnd,iNot,iIf,iIsT,iVar,thenS,Rs.bind,Lk.hold,rdv,rdvs,isTy,isB,iRet,iChain,gLe,gLt,gGt,gGe,gCmp,retv,iNext,iC,op2,gAdd_i,gAdd_t,gAdd_l,gAdd_s,mulOk_b,dec_of,gSub,gMod,gDiv,iSet,iOwn,Lk.arg,Lk.args,Lk.pargs,Lk.settle,setv,iDrop,iTup,iLst,iB,rdvL,rdvLs,gLen,gList,gTuple,gMax,iCall,backR,ofRV,iMeth,lookM,iNew,iFld,iSetF,getF,putFl,gEq,gNe,gIs,notL,gIx,iNeg,iMut,mutTail,getL,putL,gApp,iDct,iHeap,noRef,noRefs,isFlat,tgN,tgT,tgs,iSl,pNo,pSome,gCut,iTgt,gPow,gMul,Lk.qE,iRaise,isSub,isKeyD,iSlS,iSetK,isTup,op2k, q1, q4, q3, q6, mixed] at hZ; subst hZ)); first | (with_reducible first | apply c_T | apply c_F | refine c_D (fun hz => ?_) (fun hz => ?_) | refine c_N (fun hz => ?_) (fun hz => ?_) | refine c_B (fun hz => ?_) (fun hz => ?_) | apply c_X) | (repeat1' (with_reducible first | apply q_nx | apply q_ret | apply q_exc | apply q_brk | apply q_cnt | apply l_nx | apply l_cnt | apply l_brk | apply l_ret | apply l_exc | apply f_nx | apply f_ret | apply f_exc)))))
  (all_goals first | with_reducible rfl | (simp [*]; done) | (exfalso; omega) | skip)
theorem parts_num (ns : List Int) (h : ∀ i ∈ ns, Num i) (hl : 0 < ns.length ∧ ns.length ≤ 8) : Parts (ns.map nS) := ⟨fun e => by rw [List.map_eq_nil_iff.mp e] at hl; exact absurd hl.1 (by simp), by rw [List.length_map]; exact hl.2, fun p hp => by
  obtain ⟨i, hi, rfl⟩ := List.mem_map.mp hp
  exact nS_part i (h i hi)⟩
theorem part_name {x : Str} (h : nameOk x) : Part x := ⟨by have := h.1; omega, fun c hc => by have := h.2 c hc; omega⟩
theorem parts_row {A : List Str} (h : RowK A) : Parts A := ⟨fun e => by have := h.1; rw [e] at this; simp at this, h.1.2, fun p hp => part_name (h.2.2 p hp)⟩
theorem parts_one {x : Str} (h : Part x) : Parts [x] := ⟨by simp, by simp, fun p hp => by rw [List.mem_singleton.mp hp]; exact h⟩
theorem num_am {i : Int} (h : 0 ≤ i ∧ i ≤ 1000000000000000000) : Num i := by unfold Num; omega
theorem plain_t (xs : List D) (h : ∀ x ∈ xs, (∃ i, x = .int i) ∨ ∃ s, x = .str s) (n : Nat) : plainN (n + 2) (.tup xs) = true := List.all_eq_true.mpr fun x hx => by
  rcases h x hx with ⟨i, rfl⟩ | ⟨s, rfl⟩ <;> rfl
theorem plain_ti (ns : List Int) (n : Nat) : plainN (n + 2) (tI ns) = true := plain_t _ (fun x hx => by
  obtain ⟨i, _, rfl⟩ := List.mem_map.mp hx
  exact .inl ⟨i, rfl⟩) n
theorem plain_ts (A : List Str) (n : Nat) : plainN (n + 2) (tS A) = true := plain_t _ (fun x hx => by
  obtain ⟨i, _, rfl⟩ := List.mem_map.mp hx
  exact .inr ⟨i, rfl⟩) n
def KW (word : Str) (wc : Cl) : Prop := Part word ∧ Wc wc
structure RD (word : Str) (start : D) (sp : List Str) (wob : Ob) (wc : Cl) (N : Nat) (w : Nat → D) (wp : Nat → List Str) : Prop where
  kw : KW word wc
  sparts : Parts sp
  wparts : ∀ i, i < N → Parts (wp i)
  wcl : ∃ fs, wob = .ins wc fs
  sread : ∀ H, ∃ R, F_start_read [.lst ((word :: sp).map D.str)] H = .ok (.v (.tup [.str word, start])) (H ++ R)
  world : ∀ H, ∃ y, F_world_start [.str word, start] H = .ok (.v (.tup [.ref H.length, y])) (H ++ [wob])
  wish : ∀ i H m, i < N → H[m]? = some wob → F_wish_read [.lst ((("ask" : Str) :: wp i).map D.str), .str word, .ref m] H = .ok (.v (w i)) H
  nonon : ∀ i, i < N → (∃ z, w i = .int z) ∨ (∃ z, w i = .str z) ∨ ∃ z, w i = .tup z
  swords : ∀ H, F__law_words [start] H = .ok (.v (.str (PySem.Txt.join " " sp))) H
  wwords : ∀ i H, i < N → F__law_words [w i] H = .ok (.v (.str (PySem.Txt.join " " (wp i)))) H
  splain : plainN 5 start = true
  wplain : ∀ i, i < N → plainN 4 (w i) = true
theorem get_app0 {H : List Ob} {m : Nat} {o : Ob} (e : H[m]? = some o) (R : List Ob) : (H ++ R)[m]? = some o := by
  rw [List.getElem?_append_left ((List.getElem?_eq_some_iff.mp e).1)]; exact e
def nb (x : Str) : Bool := !decide (x = "")
def linesS (word : Str) (sp : List Str) (N : Nat) (wp : Nat → List Str) : List Str := lineS word sp :: (List.range N).map fun i => lineS "ask" (wp i)
section
variable {word : Str} {start : D} {sp : List Str} {wob : Ob} {wc : Cl} {N : Nat} {w : Nat → D} {wp : Nat → List Str}
theorem lines_facts (G : RD word start sp wob wc N w wp) : ∀ x ∈ linesS word sp N wp, (x.length ≤ 200 ∧ x ≠ "") ∧ ∀ c ∈ x.cps.toList, c ≠ 10 := fun x hx => by
  rcases List.mem_cons.mp hx with rfl | hx
  · have f := line_facts G.kw.1 G.sparts
    exact ⟨f.1, f.2.1⟩
  · obtain ⟨i, hi, rfl⟩ := List.mem_map.mp hx
    have f := line_facts ask_part (G.wparts i (List.mem_range.mp hi))
    exact ⟨f.1, f.2.1⟩
theorem take_snoc {α : Type} (l : List α) (i : Nat) (h : i < l.length) : l.take (i + 1) = l.take i ++ [l[i]] := by
  rw [List.take_add_one, List.getElem?_eq_getElem h]; rfl
theorem filt_at (Ls : List Str) (i : Nat) (h : i < Ls.length) (hn : nb Ls[i] = true) : (Ls.filter nb)[((Ls.take i).filter nb).length]? = some Ls[i] := by
  have e : Ls.filter nb = (Ls.take i).filter nb ++ (Ls.drop i).filter nb := by rw [← List.filter_append, List.take_append_drop]
  rw [e, List.getElem?_append_right (Nat.le_refl _), Nat.sub_self, List.drop_eq_getElem_cons h, List.filter_cons_of_pos hn]
  rfl
def RdI (text : Str) (H : List Ob) (word : Str) (start : D) (wob : Ob) (w : Nat → D) (Ls : List Str) (i : Nat) (s : Sx) : Prop := ∃ (hp : List Ob) (a b c : SV) (F : List Str), F = (Ls.take i).filter nb ∧ hp[H.length]? = some (.lst ((List.range (F.length - 1)).map w)) ∧ (∀ m o, m < H.length → H[m]? = some o → hp[m]? = some o) ∧
  ((F = [] ∧ s = ⟨[.v (.str text), .v .non, .v .non, .v (.ref H.length), a, b, c], hp⟩) ∨ (F ≠ [] ∧ ∃ m, hp[m]? = some wob ∧ m ≠ H.length ∧ s = ⟨[.v (.str text), .v (.tup [.str word, start]), .v (.ref m), .v (.ref H.length), a, b, c], hp⟩))
theorem g_read (G : RD word start sp wob wc N w wp) (hN : N ≤ 200) (Ls : List Str) (hf : Ls.filter nb = linesS word sp N wp) (hl : Ls.length ≤ 2000) (H : List Ob) :
    ∃ H', F_read_game [.str (PySem.Txt.join "\n" Ls)] H = .ok (.v (.tup [.str word, start, .ref H.length])) H' ∧ H'[H.length]? = some (.lst ((List.range N).map w)) ∧ ∀ m o, m < H.length → H[m]? = some o → H'[m]? = some o := by
  have lf := lines_facts G
  have hm : ∀ x ∈ Ls, x.length ≤ 200 ∧ ∀ c ∈ x.cps.toList, c ≠ 10 := fun x hx => by
    by_cases z : x = ""
    · subst z
      refine ⟨by rw [emp_len]; omega, fun c hc => ?_⟩
      have : ("" : Str).cps.toList = [] := by decide +kernel
      rw [this] at hc
      cases hc
    · have := lf x (by rw [← hf]; exact List.mem_filter.mpr ⟨hx, by unfold nb; rw [decide_eq_false z]; rfl⟩)
      exact ⟨this.1.1, this.2⟩
  have ne : Ls ≠ [] := fun z => by rw [z] at hf; cases hf
  have jl : (PySem.Txt.join "\n" Ls).length ≤ 1000000 := by
    have a := join_len "\n" Ls
    have b := sum_le Ls 200 fun x hx => (hm x hx).1
    rw [nl_len] at a
    omega
  have spl := split_nl Ls ne (fun x hx => (hm x hx).2) jl
  generalize PySem.Txt.join "\n" Ls = text at *
  have fin : ∀ H', (H'[H.length]? = some (.lst ((List.range N).map w)) ∧ ∀ m o, m < H.length → H[m]? = some o → H'[m]? = some o) → ∃ H'', (FR.ok (.v (.tup [.str word, start, .ref H.length])) H') = .ok (.v (.tup [.str word, start, .ref H.length])) H'' ∧ H''[H.length]? = some (.lst ((List.range N).map w)) ∧ ∀ m o, m < H.length → H[m]? = some o → H''[m]? = some o := fun H' t => ⟨H', rfl, t⟩
  have hq : qEnum (op2k isStr gSplit (iVar 0) (iC (.str "\n"))) ⟨[.v (.str text), .v .non, .v .non, .v (.ref H.length), .no, .no, .no], H ++ [.lst []]⟩ = .ok (enumD 0 (Ls.map D.str), .val) ⟨[.v (.str text), .v .non, .v .non, .v (.ref H.length), .no, .no, .no], H ++ [.lst []]⟩ := by
    generalize Ls.map D.str = P at *
    simp [mkFn,iIfS,iSeq,iOr,iAnd,iNot,iIf,iIsT,iVar,thenS,Rs.bind,Lk.hold,rdv,rdvs,isTy,isB,iRet,iChain,gLe,gLt,gGt,gGe,gCmp,retv,iNext,iC,op2,gAdd_i,gAdd_t,gAdd_l,gAdd_s,mulOk_b,dec_of,gSub,gMod,gDiv,iSet,iOwn,Lk.arg,Lk.args,Lk.pargs,Lk.settle,setv,iDrop,iTup,iLst,iB,rdvL,rdvLs,gLen,gList,gTuple,gMax,iCall,backR,ofRV,iMeth,lookM,iNew,iFld,iSetF,getF,putFl,gEq,gNe,gIs,notL,gIx,iNeg,iMut,mutTail,getL,putL,gApp,iDct,iHeap,noRef,noRefs,isFlat,tgN,tgT,tgs,iSl,pNo,pSome,gCut,iTgt,gPow,gMul,Lk.qE,iRaise,isSub,isKeyD,iSlS,iSetK,isTup,op2k, Lk.qEnum, spl, isStr]
  have loop : WS (iSeq (iFor (qEnum (op2k isStr gSplit (iVar 0) (iC (.str "\n")))) (tgT [(tgN 4), (tgN 5)]) b_read_game_1)
    (iSeq (iIfS (op2 gIs (iVar 1) (iC .non)) (iRaise .noText (iC (.int 0))) iNext)
    (iRet (iTup [(op2 gIx (iVar 1) (iC (.int 0))), (op2 gIx (iVar 1) (iC (.int 1))), (iVar 3)])))) ⟨[.v (.str text), .v .non, .v .non, .v (.ref H.length), .no, .no, .no], H ++ [.lst []]⟩
      (endF fun r => ∃ H', r = .ok (.v (.tup [.str word, start, .ref H.length])) H' ∧ H'[H.length]? = some (.lst ((List.range N).map w)) ∧ ∀ m o, m < H.length → H[m]? = some o → H'[m]? = some o) := by
    have t0 : L2.atI [D.str word, start] 0 = some (.str word) := rfl
    have t1 : L2.atI [D.str word, start] 1 = some start := rfl
    with_reducible refine ws_seq ?_
    refine ws_for (enumD 0 (Ls.map D.str)) _ hq (RdI text H word start wob w Ls) ⟨H ++ [.lst []], _, _, _, [], rfl, by simp, fun m o h1 h2 => get_app0 h2 _, .inl ⟨rfl, rfl⟩⟩ ?_ ?_
    · rintro i x s1 hx ⟨hp, a, b, c, F, hF, hw, keep, st⟩
      obtain ⟨y, rfl, hy⟩ := Lk.enumD_get hx
      rw [List.getElem?_map] at hy
      cases e1 : Ls[i]? with
      | none => rw [e1] at hy; cases hy
      | some line =>
      rw [e1] at hy
      cases hy
      have hi : i < Ls.length := (List.getElem?_eq_some_iff.mp e1).1
      have ei : Ls[i] = line := (List.getElem?_eq_some_iff.mp e1).2
      have ts := take_snoc Ls i hi
      have fa := filt_at Ls i hi
      rw [ei] at ts fa
      rw [hf, ← hF] at fa
      have wl : weq (.str line) (.str "") = some (decide (line = "")) := rfl
      rw [Nat.zero_add]
      by_cases z : line = ""
      · have nF : (Ls.take (i + 1)).filter nb = F := by
          rw [ts, List.filter_append, ← hF, z]; simp [nb]
        rw [decide_eq_true z] at wl
        rcases st with ⟨h1, rfl⟩ | ⟨h1, m, h2, h3, rfl⟩
        · refine ⟨⟨[.v (.str text), .v .non, .v .non, .v (.ref H.length), .v (.int (i : Nat)), .v (.str line), c], hp⟩, rfl, ?_⟩
          have J : RdI text H word start wob w Ls (i + 1) ⟨[.v (.str text), .v .non, .v .non, .v (.ref H.length), .v (.int (i : Nat)), .v (.str line), c], hp⟩ := ⟨hp, _, _, _, F, nF.symm, hw, keep, .inl ⟨h1, rfl⟩⟩
          unfold b_read_game_1
          (repeat' ((try with_reducible apply ws_seq); first | (with_reducible first | apply ws_if_and | apply ws_if_or | apply ws_if_not | apply ws_ret_and | apply ws_ret_or | apply ws_ret_if | apply ws_set_and | apply ws_set_or | apply ws_set_if) | ((first | (with_reducible apply ws_next) | ((with_reducible first | refine ws_if fun rZ hZ => ?_ | refine ws_at fun rZ hZ => ?_); simp (disch := first | (simp; done) | assumption | omega | rfl | (simp; omega)) [mkFn,iIfS,iSeq,iOr,iAnd,iNot,iIf,iIsT,iVar,thenS,Rs.bind,Lk.hold,rdv,rdvs,isTy,isB,iRet,iChain,gLe,gLt,gGt,gGe,gCmp,retv,iNext,iC,op2,gAdd_i,gAdd_t,gAdd_l,gAdd_s,mulOk_b,dec_of,gSub,gMod,gDiv,iSet,iOwn,Lk.arg,Lk.args,Lk.pargs,Lk.settle,setv,iDrop,iTup,iLst,iB,rdvL,rdvLs,gLen,gList,gTuple,gMax,iCall,backR,ofRV,iMeth,lookM,iNew,iFld,iSetF,getF,putFl,gEq,gNe,gIs,notL,gIx,iNeg,iMut,mutTail,getL,putL,gApp,iDct,iHeap,noRef,noRefs,isFlat,tgN,tgT,tgs,iSl,pNo,pSome,gCut,iTgt,gPow,gMul,Lk.qE,iRaise,isSub,isKeyD,iSlS,iSetK,isTup,op2k, wl, mixed] at hZ; subst hZ)); first | (with_reducible first | apply c_T | apply c_F | refine c_D (fun hz => ?_) (fun hz => ?_) | refine c_N (fun hz => ?_) (fun hz => ?_) | refine c_B (fun hz => ?_) (fun hz => ?_) | apply c_X) | (repeat1' (with_reducible first | apply q_nx | apply q_ret | apply q_exc | apply q_brk | apply q_cnt | apply l_nx | apply l_cnt | apply l_brk | apply l_ret | apply l_exc | apply f_nx | apply f_ret | apply f_exc)))))
          refine ws_at fun rZ hZ => ?_
          subst hZ
          (repeat1' (with_reducible first | apply q_nx | apply q_ret | apply q_exc | apply q_brk | apply q_cnt | apply l_nx | apply l_cnt | apply l_brk | apply l_ret | apply l_exc | apply f_nx | apply f_ret | apply f_exc))
          exact J
        · refine ⟨⟨[.v (.str text), .v (.tup [.str word, start]), .v (.ref m), .v (.ref H.length), .v (.int (i : Nat)), .v (.str line), c], hp⟩, rfl, ?_⟩
          have J : RdI text H word start wob w Ls (i + 1) ⟨[.v (.str text), .v (.tup [.str word, start]), .v (.ref m), .v (.ref H.length), .v (.int (i : Nat)), .v (.str line), c], hp⟩ := ⟨hp, _, _, _, F, nF.symm, hw, keep, .inr ⟨h1, m, h2, h3, rfl⟩⟩
          unfold b_read_game_1
          (repeat' ((try with_reducible apply ws_seq); first | (with_reducible first | apply ws_if_and | apply ws_if_or | apply ws_if_not | apply ws_ret_and | apply ws_ret_or | apply ws_ret_if | apply ws_set_and | apply ws_set_or | apply ws_set_if) | ((first | (with_reducible apply ws_next) | ((with_reducible first | refine ws_if fun rZ hZ => ?_ | refine ws_at fun rZ hZ => ?_); simp (disch := first | (simp; done) | assumption | omega | rfl | (simp; omega)) [mkFn,iIfS,iSeq,iOr,iAnd,iNot,iIf,iIsT,iVar,thenS,Rs.bind,Lk.hold,rdv,rdvs,isTy,isB,iRet,iChain,gLe,gLt,gGt,gGe,gCmp,retv,iNext,iC,op2,gAdd_i,gAdd_t,gAdd_l,gAdd_s,mulOk_b,dec_of,gSub,gMod,gDiv,iSet,iOwn,Lk.arg,Lk.args,Lk.pargs,Lk.settle,setv,iDrop,iTup,iLst,iB,rdvL,rdvLs,gLen,gList,gTuple,gMax,iCall,backR,ofRV,iMeth,lookM,iNew,iFld,iSetF,getF,putFl,gEq,gNe,gIs,notL,gIx,iNeg,iMut,mutTail,getL,putL,gApp,iDct,iHeap,noRef,noRefs,isFlat,tgN,tgT,tgs,iSl,pNo,pSome,gCut,iTgt,gPow,gMul,Lk.qE,iRaise,isSub,isKeyD,iSlS,iSetK,isTup,op2k, wl, mixed] at hZ; subst hZ)); first | (with_reducible first | apply c_T | apply c_F | refine c_D (fun hz => ?_) (fun hz => ?_) | refine c_N (fun hz => ?_) (fun hz => ?_) | refine c_B (fun hz => ?_) (fun hz => ?_) | apply c_X) | (repeat1' (with_reducible first | apply q_nx | apply q_ret | apply q_exc | apply q_brk | apply q_cnt | apply l_nx | apply l_cnt | apply l_brk | apply l_ret | apply l_exc | apply f_nx | apply f_ret | apply f_exc)))))
          refine ws_at fun rZ hZ => ?_
          subst hZ
          (repeat1' (with_reducible first | apply q_nx | apply q_ret | apply q_exc | apply q_brk | apply q_cnt | apply l_nx | apply l_cnt | apply l_brk | apply l_ret | apply l_exc | apply f_nx | apply f_ret | apply f_exc))
          exact J
      · have hn : nb line = true := by unfold nb; rw [decide_eq_false z]; rfl
        have nF : (Ls.take (i + 1)).filter nb = F ++ [line] := by
          rw [ts, List.filter_append, ← hF, List.filter_cons_of_pos hn]; rfl
        have fa := fa hn
        rw [decide_eq_false z] at wl
        rcases st with ⟨h1, rfl⟩ | ⟨h1, m, h2, h3, rfl⟩
        · subst h1
          have el : lineS word sp = line := Option.some.inj fa
          have sl := (line_facts G.kw.1 G.sparts).2.2.1
          rw [el] at sl
          obtain ⟨R, es⟩ := G.sread hp
          obtain ⟨y, ew⟩ := G.world (hp ++ R)
          have t2 : L2.atI [D.ref (hp ++ R).length, y] 0 = some (.ref (hp ++ R).length) := rfl
          have lh : H.length < hp.length := (List.getElem?_eq_some_iff.mp hw).1
          refine ⟨⟨[.v (.str text), .v .non, .v .non, .v (.ref H.length), .v (.int (i : Nat)), .v (.str line), c], hp⟩, rfl, ?_⟩
          have J : RdI text H word start wob w Ls (i + 1) ⟨[.v (.str text), .v (.tup [.str word, start]), .v (.ref (hp ++ R).length), .v (.ref H.length), .v (.int (i : Nat)), .v (.str line), c], hp ++ R ++ [wob]⟩ :=
            ⟨hp ++ R ++ [wob], _, _, _, [line], nF.symm, get_app0 (get_app0 hw R) _, fun k o k1 k2 => get_app0 (get_app0 (keep k o k1 k2) R) _, .inr ⟨by simp, (hp ++ R).length, by simp, by rw [List.length_append]; omega, rfl⟩⟩
          generalize (word :: sp).map D.str = P at *
          generalize hp ++ R ++ [wob] = h3 at *
          generalize hp ++ R = h2 at *
          unfold b_read_game_1
          (repeat' ((try with_reducible apply ws_seq); first | (with_reducible first | apply ws_if_and | apply ws_if_or | apply ws_if_not | apply ws_ret_and | apply ws_ret_or | apply ws_ret_if | apply ws_set_and | apply ws_set_or | apply ws_set_if) | ((first | (with_reducible apply ws_next) | ((with_reducible first | refine ws_if fun rZ hZ => ?_ | refine ws_at fun rZ hZ => ?_); simp (disch := first | (simp; done) | assumption | omega | rfl | (simp; omega)) [mkFn,iIfS,iSeq,iOr,iAnd,iNot,iIf,iIsT,iVar,thenS,Rs.bind,Lk.hold,rdv,rdvs,isTy,isB,iRet,iChain,gLe,gLt,gGt,gGe,gCmp,retv,iNext,iC,op2,gAdd_i,gAdd_t,gAdd_l,gAdd_s,mulOk_b,dec_of,gSub,gMod,gDiv,iSet,iOwn,Lk.arg,Lk.args,Lk.pargs,Lk.settle,setv,iDrop,iTup,iLst,iB,rdvL,rdvLs,gLen,gList,gTuple,gMax,iCall,backR,ofRV,iMeth,lookM,iNew,iFld,iSetF,getF,putFl,gEq,gNe,gIs,notL,gIx,iNeg,iMut,mutTail,getL,putL,gApp,iDct,iHeap,noRef,noRefs,isFlat,tgN,tgT,tgs,iSl,pNo,pSome,gCut,iTgt,gPow,gMul,Lk.qE,iRaise,isSub,isKeyD,iSlS,iSetK,isTup,op2k, wl, mixed, isStr, sl, es, ew, t0, t1, t2] at hZ; subst hZ)); first | (with_reducible first | apply c_T | apply c_F | refine c_D (fun hz => ?_) (fun hz => ?_) | refine c_N (fun hz => ?_) (fun hz => ?_) | refine c_B (fun hz => ?_) (fun hz => ?_) | apply c_X) | (repeat1' (with_reducible first | apply q_nx | apply q_ret | apply q_exc | apply q_brk | apply q_cnt | apply l_nx | apply l_cnt | apply l_brk | apply l_ret | apply l_exc | apply f_nx | apply f_ret | apply f_exc)))))
          refine ws_at fun rZ hZ => ?_
          subst hZ
          (repeat1' (with_reducible first | apply q_nx | apply q_ret | apply q_exc | apply q_brk | apply q_cnt | apply l_nx | apply l_cnt | apply l_brk | apply l_ret | apply l_exc | apply f_nx | apply f_ret | apply f_exc))
          exact J
        · obtain ⟨j, hj⟩ : ∃ j, F.length = j + 1 := by
            cases F with
            | nil => exact absurd rfl h1
            | cons x r => exact ⟨r.length, rfl⟩
          rw [hj] at fa
          have fa : ((List.range N).map fun i => lineS "ask" (wp i))[j]? = some line := fa
          rw [List.getElem?_map] at fa
          have jN : j < N := by
            rcases Nat.lt_or_ge j N with q | q
            · exact q
            · rw [List.getElem?_eq_none (by rw [List.length_range]; exact q)] at fa
              cases fa
          rw [List.getElem?_range jN] at fa
          have el : lineS "ask" (wp j) = line := Option.some.inj fa
          have sl := (line_facts ask_part (G.wparts j jN)).2.2.1
          rw [el] at sl
          have wr := G.wish j hp m jN h2
          have sm := G.nonon j jN
          rw [hj, Nat.add_sub_cancel] at hw
          have lX : ((List.range j).map w).length = j := by simp
          have j2 : ¬ j = 200 := by omega
          have j3 : ¬ (j : Int) = 200 := by omega
          have j4 : j < 1000000 := by omega
          refine ⟨⟨[.v (.str text), .v (.tup [.str word, start]), .v (.ref m), .v (.ref H.length), .v (.int (i : Nat)), .v (.str line), c], hp⟩, rfl, ?_⟩
          have J : RdI text H word start wob w Ls (i + 1) ⟨[.v (.str text), .v (.tup [.str word, start]), .v (.ref m), .v (.ref H.length), .v (.int (i : Nat)), .v (.str line), .v (w j)], hp.set H.length (.lst ((List.range j).map w ++ [w j]))⟩ :=
            ⟨_, _, _, _, F ++ [line], nF.symm, by rw [List.length_append, hj, gset hw, List.length_singleton, Nat.add_sub_cancel, List.range_succ, List.map_append]; rfl, fun k o k1 k2 => by rw [List.getElem?_set_ne (by omega)]; exact keep k o k1 k2, .inr ⟨by simp, m, by rw [List.getElem?_set_ne (fun q => h3 q.symm)]; exact h2, h3, rfl⟩⟩
          generalize (List.range j).map w = X at *
          generalize (("ask" : Str) :: wp j).map D.str = P at *
          generalize w j = V at *
          unfold b_read_game_1
          rcases sm with ⟨z, rfl⟩ | ⟨z, rfl⟩ | ⟨z, rfl⟩
          all_goals
            (repeat' ((try with_reducible apply ws_seq); first | (with_reducible first | apply ws_if_and | apply ws_if_or | apply ws_if_not | apply ws_ret_and | apply ws_ret_or | apply ws_ret_if | apply ws_set_and | apply ws_set_or | apply ws_set_if) | ((first | (with_reducible apply ws_next) | ((with_reducible first | refine ws_if fun rZ hZ => ?_ | refine ws_at fun rZ hZ => ?_); simp (disch := first | (simp; done) | assumption | omega | rfl | (simp; omega)) [mkFn,iIfS,iSeq,iOr,iAnd,iNot,iIf,iIsT,iVar,thenS,Rs.bind,Lk.hold,rdv,rdvs,isTy,isB,iRet,iChain,gLe,gLt,gGt,gGe,gCmp,retv,iNext,iC,op2,gAdd_i,gAdd_t,gAdd_l,gAdd_s,mulOk_b,dec_of,gSub,gMod,gDiv,iSet,iOwn,Lk.arg,Lk.args,Lk.pargs,Lk.settle,setv,iDrop,iTup,iLst,iB,rdvL,rdvLs,gLen,gList,gTuple,gMax,iCall,backR,ofRV,iMeth,lookM,iNew,iFld,iSetF,getF,putFl,gEq,gNe,gIs,notL,gIx,iNeg,iMut,mutTail,getL,putL,gApp,iDct,iHeap,noRef,noRefs,isFlat,tgN,tgT,tgs,iSl,pNo,pSome,gCut,iTgt,gPow,gMul,Lk.qE,iRaise,isSub,isKeyD,iSlS,iSetK,isTup,op2k, wl, mixed, isStr, sl, wr, t0, hw, lX, j2, j3, j4] at hZ; subst hZ)); first | (with_reducible first | apply c_T | apply c_F | refine c_D (fun hz => ?_) (fun hz => ?_) | refine c_N (fun hz => ?_) (fun hz => ?_) | refine c_B (fun hz => ?_) (fun hz => ?_) | apply c_X) | (repeat1' (with_reducible first | apply q_nx | apply q_ret | apply q_exc | apply q_brk | apply q_cnt | apply l_nx | apply l_cnt | apply l_brk | apply l_ret | apply l_exc | apply f_nx | apply f_ret | apply f_exc)))))
            exact J
    · rintro s1 ⟨hp, a, b, c, F, hF, hw, keep, st⟩
      rw [Lk.enumD_length, List.length_map, List.take_of_length_le (Nat.le_refl _), hf] at hF
      subst hF
      have lN : (linesS word sp N wp).length - 1 = N := by unfold linesS; simp
      rw [lN] at hw
      have fn := fin hp ⟨hw, keep⟩
      rcases st with ⟨h1, _⟩ | ⟨_, m, h2, h3, rfl⟩
      · cases h1
      · (repeat1' (with_reducible first | apply q_nx | apply q_ret | apply q_exc | apply q_brk | apply q_cnt | apply l_nx | apply l_cnt | apply l_brk | apply l_ret | apply l_exc | apply f_nx | apply f_ret | apply f_exc))
        (repeat' ((try with_reducible apply ws_seq); first | (with_reducible first | apply ws_if_and | apply ws_if_or | apply ws_if_not | apply ws_ret_and | apply ws_ret_or | apply ws_ret_if | apply ws_set_and | apply ws_set_or | apply ws_set_if) | ((first | (with_reducible apply ws_next) | ((with_reducible first | refine ws_if fun rZ hZ => ?_ | refine ws_at fun rZ hZ => ?_); simp (disch := first | (simp; done) | assumption | omega | rfl | (simp; omega)) [mkFn,iIfS,iSeq,iOr,iAnd,iNot,iIf,iIsT,iVar,thenS,Rs.bind,Lk.hold,rdv,rdvs,isTy,isB,iRet,iChain,gLe,gLt,gGt,gGe,gCmp,retv,iNext,iC,op2,gAdd_i,gAdd_t,gAdd_l,gAdd_s,mulOk_b,dec_of,gSub,gMod,gDiv,iSet,iOwn,Lk.arg,Lk.args,Lk.pargs,Lk.settle,setv,iDrop,iTup,iLst,iB,rdvL,rdvLs,gLen,gList,gTuple,gMax,iCall,backR,ofRV,iMeth,lookM,iNew,iFld,iSetF,getF,putFl,gEq,gNe,gIs,notL,gIx,iNeg,iMut,mutTail,getL,putL,gApp,iDct,iHeap,noRef,noRefs,isFlat,tgN,tgT,tgs,iSl,pNo,pSome,gCut,iTgt,gPow,gMul,Lk.qE,iRaise,isSub,isKeyD,iSlS,iSetK,isTup,op2k, t0, t1] at hZ; subst hZ)); first | (with_reducible first | apply c_T | apply c_F | refine c_D (fun hz => ?_) (fun hz => ?_) | refine c_N (fun hz => ?_) (fun hz => ?_) | refine c_B (fun hz => ?_) (fun hz => ?_) | apply c_X) | (repeat1' (with_reducible first | apply q_nx | apply q_ret | apply q_exc | apply q_brk | apply q_cnt | apply l_nx | apply l_cnt | apply l_brk | apply l_ret | apply l_exc | apply f_nx | apply f_ret | apply f_exc)))))
        exact fn
  unfold F_read_game; refine ws_fn (P := fun r => ∃ H', r = .ok (.v (.tup [.str word, start, .ref H.length])) H' ∧ H'[H.length]? = some (.lst ((List.range N).map w)) ∧ ∀ m o, m < H.length → H[m]? = some o → H'[m]? = some o) rfl ?_; unfold m_read_game; simp only [List.map_cons, List.map_nil, List.cons_append, List.nil_append, List.replicate]
  clear hq fin
  (repeat' ((try with_reducible apply ws_seq); first | (with_reducible first | apply ws_if_and | apply ws_if_or | apply ws_if_not | apply ws_ret_and | apply ws_ret_or | apply ws_ret_if | apply ws_set_and | apply ws_set_or | apply ws_set_if) | ((first | (with_reducible apply ws_next) | ((with_reducible first | refine ws_if fun rZ hZ => ?_ | refine ws_at fun rZ hZ => ?_); simp (disch := first | (simp; done) | assumption | omega | rfl | (simp; omega)) [mkFn,iIfS,iSeq,iOr,iAnd,iNot,iIf,iIsT,iVar,thenS,Rs.bind,Lk.hold,rdv,rdvs,isTy,isB,iRet,iChain,gLe,gLt,gGt,gGe,gCmp,retv,iNext,iC,op2,gAdd_i,gAdd_t,gAdd_l,gAdd_s,mulOk_b,dec_of,gSub,gMod,gDiv,iSet,iOwn,Lk.arg,Lk.args,Lk.pargs,Lk.settle,setv,iDrop,iTup,iLst,iB,rdvL,rdvLs,gLen,gList,gTuple,gMax,iCall,backR,ofRV,iMeth,lookM,iNew,iFld,iSetF,getF,putFl,gEq,gNe,gIs,notL,gIx,iNeg,iMut,mutTail,getL,putL,gApp,iDct,iHeap,noRef,noRefs,isFlat,tgN,tgT,tgs,iSl,pNo,pSome,gCut,iTgt,gPow,gMul,Lk.qE,iRaise,isSub,isKeyD,iSlS,iSetK,isTup,op2k] at hZ; subst hZ)); first | (with_reducible first | apply c_T | apply c_F | refine c_D (fun hz => ?_) (fun hz => ?_) | refine c_N (fun hz => ?_) (fun hz => ?_) | refine c_B (fun hz => ?_) (fun hz => ?_) | apply c_X) | (repeat1' (with_reducible first | apply q_nx | apply q_ret | apply q_exc | apply q_brk | apply q_cnt | apply l_nx | apply l_cnt | apply l_brk | apply l_ret | apply l_exc | apply f_nx | apply f_ret | apply f_exc)))))
  exact loop
end
end Pf
namespace Pf
open Lk
open PySem (Str)
namespace Bu
theorem r_is_between (d : D) (lo hi : Int) (hp : List Ob) (h : okD d = true) : F_is_between [d, .int lo, .int hi] hp = .ok (.v (.bl (betw d lo hi))) hp := by
  cases d with
  | int i =>
    by_cases h1 : lo ≤ i
    · by_cases h2 : i ≤ hi
      · simp [mkFn,iIfS,iSeq,iOr,iAnd,iNot,iIf,iIsT,iVar,thenS,Rs.bind,Lk.hold,rdv,rdvs,isTy,isB,iRet,iChain,gLe,gLt,gGt,gGe,gCmp,retv,iNext,iC,op2,gAdd_i,gAdd_t,gAdd_l,gAdd_s,mulOk_b,dec_of,gSub,gMod,gDiv,iSet,iOwn,Lk.arg,Lk.args,Lk.pargs,Lk.settle,setv,iDrop,iTup,iLst,iB,rdvL,rdvLs,gLen,gList,gTuple,gMax,iCall,backR,ofRV,iMeth,lookM,iNew,iFld,iSetF,getF,putFl,gEq,gNe,gIs,notL,gIx,iNeg,iMut,mutTail,getL,putL,gApp,iDct,iHeap,noRef,noRefs,isFlat,tgN,tgT,tgs,iSl,pNo,pSome,gCut,iTgt,gPow,gMul,Lk.qE,iRaise,isSub,isKeyD,iSlS,iSetK,isTup,op2k, F_is_between, m_is_between, betw, h1, h2]
      · simp [mkFn,iIfS,iSeq,iOr,iAnd,iNot,iIf,iIsT,iVar,thenS,Rs.bind,Lk.hold,rdv,rdvs,isTy,isB,iRet,iChain,gLe,gLt,gGt,gGe,gCmp,retv,iNext,iC,op2,gAdd_i,gAdd_t,gAdd_l,gAdd_s,mulOk_b,dec_of,gSub,gMod,gDiv,iSet,iOwn,Lk.arg,Lk.args,Lk.pargs,Lk.settle,setv,iDrop,iTup,iLst,iB,rdvL,rdvLs,gLen,gList,gTuple,gMax,iCall,backR,ofRV,iMeth,lookM,iNew,iFld,iSetF,getF,putFl,gEq,gNe,gIs,notL,gIx,iNeg,iMut,mutTail,getL,putL,gApp,iDct,iHeap,noRef,noRefs,isFlat,tgN,tgT,tgs,iSl,pNo,pSome,gCut,iTgt,gPow,gMul,Lk.qE,iRaise,isSub,isKeyD,iSlS,iSetK,isTup,op2k, F_is_between, m_is_between, betw, h1, h2]
    · simp [mkFn,iIfS,iSeq,iOr,iAnd,iNot,iIf,iIsT,iVar,thenS,Rs.bind,Lk.hold,rdv,rdvs,isTy,isB,iRet,iChain,gLe,gLt,gGt,gGe,gCmp,retv,iNext,iC,op2,gAdd_i,gAdd_t,gAdd_l,gAdd_s,mulOk_b,dec_of,gSub,gMod,gDiv,iSet,iOwn,Lk.arg,Lk.args,Lk.pargs,Lk.settle,setv,iDrop,iTup,iLst,iB,rdvL,rdvLs,gLen,gList,gTuple,gMax,iCall,backR,ofRV,iMeth,lookM,iNew,iFld,iSetF,getF,putFl,gEq,gNe,gIs,notL,gIx,iNeg,iMut,mutTail,getL,putL,gApp,iDct,iHeap,noRef,noRefs,isFlat,tgN,tgT,tgs,iSl,pNo,pSome,gCut,iTgt,gPow,gMul,Lk.qE,iRaise,isSub,isKeyD,iSlS,iSetK,isTup,op2k, F_is_between, m_is_between, betw, h1]
  | ref n => cases h
  | rol n => cases h
  | _ => simp [mkFn,iIfS,iSeq,iOr,iAnd,iNot,iIf,iIsT,iVar,thenS,Rs.bind,Lk.hold,rdv,rdvs,isTy,isB,iRet,iChain,gLe,gLt,gGt,gGe,gCmp,retv,iNext,iC,op2,gAdd_i,gAdd_t,gAdd_l,gAdd_s,mulOk_b,dec_of,gSub,gMod,gDiv,iSet,iOwn,Lk.arg,Lk.args,Lk.pargs,Lk.settle,setv,iDrop,iTup,iLst,iB,rdvL,rdvLs,gLen,gList,gTuple,gMax,iCall,backR,ofRV,iMeth,lookM,iNew,iFld,iSetF,getF,putFl,gEq,gNe,gIs,notL,gIx,iNeg,iMut,mutTail,getL,putL,gApp,iDct,iHeap,noRef,noRefs,isFlat,tgN,tgT,tgs,iSl,pNo,pSome,gCut,iTgt,gPow,gMul,Lk.qE,iRaise,isSub,isKeyD,iSlS,iSetK,isTup,op2k, F_is_between, m_is_between, betw]
def hireOb (w : Int) : Ob := .ins .hire [(.whole, .int w)]
theorem r_hire (n : Nat) (w : Int) (hp : List Ob) (h : hp[n]? = some (.ins .hire [])) : F_Hire___init__ [.ref n, .int w] hp = .ok (.v .non) (hp.set n (hireOb w)) := by
  simp [mkFn,iIfS,iSeq,iOr,iAnd,iNot,iIf,iIsT,iVar,thenS,Rs.bind,Lk.hold,rdv,rdvs,isTy,isB,iRet,iChain,gLe,gLt,gGt,gGe,gCmp,retv,iNext,iC,op2,gAdd_i,gAdd_t,gAdd_l,gAdd_s,mulOk_b,dec_of,gSub,gMod,gDiv,iSet,iOwn,Lk.arg,Lk.args,Lk.pargs,Lk.settle,setv,iDrop,iTup,iLst,iB,rdvL,rdvLs,gLen,gList,gTuple,gMax,iCall,backR,ofRV,iMeth,lookM,iNew,iFld,iSetF,getF,putFl,gEq,gNe,gIs,notL,gIx,iNeg,iMut,mutTail,getL,putL,gApp,iDct,iHeap,noRef,noRefs,isFlat,tgN,tgT,tgs,iSl,pNo,pSome,gCut,iTgt,gPow,gMul,Lk.qE,iRaise,isSub,isKeyD,iSlS,iSetK,isTup,op2k, F_Hire___init__, m_Hire___init__, h, has, hireOb]
theorem r_h_wish (n : Nat) (d : D) (hp : List Ob) (h : okD d = true) : F_Hire_is_wish [.ref n, d] hp = .ok (.v (.bl (betw d 0 1000000000000000000))) hp := by
  simp [mkFn,iIfS,iSeq,iOr,iAnd,iNot,iIf,iIsT,iVar,thenS,Rs.bind,Lk.hold,rdv,rdvs,isTy,isB,iRet,iChain,gLe,gLt,gGt,gGe,gCmp,retv,iNext,iC,op2,gAdd_i,gAdd_t,gAdd_l,gAdd_s,mulOk_b,dec_of,gSub,gMod,gDiv,iSet,iOwn,Lk.arg,Lk.args,Lk.pargs,Lk.settle,setv,iDrop,iTup,iLst,iB,rdvL,rdvLs,gLen,gList,gTuple,gMax,iCall,backR,ofRV,iMeth,lookM,iNew,iFld,iSetF,getF,putFl,gEq,gNe,gIs,notL,gIx,iNeg,iMut,mutTail,getL,putL,gApp,iDct,iHeap,noRef,noRefs,isFlat,tgN,tgT,tgs,iSl,pNo,pSome,gCut,iTgt,gPow,gMul,Lk.qE,iRaise,isSub,isKeyD,iSlS,iSetK,isTup,op2k, F_Hire_is_wish, m_Hire_is_wish, r_is_amount, h]
def buyerOb (m : Nat) (h w t s : Int) : Ob := .ins .buyer [(.world, .ref m), (.now, .int s), (.total, .int t), (.whole, .int w), (.hired, .int h)]
theorem r_rule (n m : Nat) (hp : List Ob) (h : hp[n]? = some (.ins .buyer [])) : F_Rule___init__ [.ref n, .ref m, .int 0] hp = .ok (.v .non) (hp.set n (.ins .buyer [(.world, .ref m), (.now, .int 0), (.total, .int 0)])) := by
  have gs := gset h
  simp [mkFn,iIfS,iSeq,iOr,iAnd,iNot,iIf,iIsT,iVar,thenS,Rs.bind,Lk.hold,rdv,rdvs,isTy,isB,iRet,iChain,gLe,gLt,gGt,gGe,gCmp,retv,iNext,iC,op2,gAdd_i,gAdd_t,gAdd_l,gAdd_s,mulOk_b,dec_of,gSub,gMod,gDiv,iSet,iOwn,Lk.arg,Lk.args,Lk.pargs,Lk.settle,setv,iDrop,iTup,iLst,iB,rdvL,rdvLs,gLen,gList,gTuple,gMax,iCall,backR,ofRV,iMeth,lookM,iNew,iFld,iSetF,getF,putFl,gEq,gNe,gIs,notL,gIx,iNeg,iMut,mutTail,getL,putL,gApp,iDct,iHeap,noRef,noRefs,isFlat,tgN,tgT,tgs,iSl,pNo,pSome,gCut,iTgt,gPow,gMul,Lk.qE,iRaise,isSub,isKeyD,iSlS,iSetK,isTup,op2k, F_Rule___init__, m_Rule___init__, h, has, gs]
theorem r_buyer (n : Nat) (w : Int) (hp : List Ob) (h : hp[n]? = some (.ins .buyer [])) (hw : 1 ≤ w ∧ w ≤ 1000000000000000000) :
    F_Buyer___init__ [.ref n, .int w] hp = .ok (.v .non) (hp.set n (buyerOb hp.length 0 w 0 0) ++ [hireOb w]) := by
  have hl : n < hp.length := (List.getElem?_eq_some_iff.mp h).1
  have b := r_is_between (.int w) 1 1000000000000000000 hp rfl
  have b1 : betw (.int w) 1 1000000000000000000 = true := by simp [betw, hw]
  rw [b1] at b
  have i := r_hire hp.length w (hp ++ [.ins .hire []]) (by simp)
  have i2 : (hp ++ [Ob.ins .hire []]).set hp.length (hireOb w) = hp ++ [hireOb w] := by simp
  rw [i2] at i
  have g : (hp ++ [hireOb w])[n]? = some (.ins .buyer []) := by rw [get_app _ _ _ hl]; exact h
  have r := r_rule n hp.length (hp ++ [hireOb w]) g
  have gs := gset g
  have sa : ∀ y, (hp ++ [hireOb w]).set n y = hp.set n y ++ [hireOb w] := fun y => set_app _ _ _ _ hl
  have sb : ∀ y z, (hp.set n y ++ [hireOb w]).set n z = hp.set n z ++ [hireOb w] := fun y z => by rw [← sa y, List.set_set, sa]
  have sc : ∀ y, (hp.set n y ++ [hireOb w])[n]? = some y := fun y => by rw [← sa y]; exact gs y
  simp [mkFn,iIfS,iSeq,iOr,iAnd,iNot,iIf,iIsT,iVar,thenS,Rs.bind,Lk.hold,rdv,rdvs,isTy,isB,iRet,iChain,gLe,gLt,gGt,gGe,gCmp,retv,iNext,iC,op2,gAdd_i,gAdd_t,gAdd_l,gAdd_s,mulOk_b,dec_of,gSub,gMod,gDiv,iSet,iOwn,Lk.arg,Lk.args,Lk.pargs,Lk.settle,setv,iDrop,iTup,iLst,iB,rdvL,rdvLs,gLen,gList,gTuple,gMax,iCall,backR,ofRV,iMeth,lookM,iNew,iFld,iSetF,getF,putFl,gEq,gNe,gIs,notL,gIx,iNeg,iMut,mutTail,getL,putL,gApp,iDct,iHeap,noRef,noRefs,isFlat,tgN,tgT,tgs,iSl,pNo,pSome,gCut,iTgt,gPow,gMul,Lk.qE,iRaise,isSub,isKeyD,iSlS,iSetK,isTup,op2k, F_Buyer___init__, m_Buyer___init__, b, i, r, h, has, sc, buyerOb, sa, sb]
theorem rule (word : Str) (W : Wq word false false true false false false) (R : Int) (hR : 1 ≤ R ∧ R ≤ 1000000000000000000) (H : List Ob) : F_rule_of [.str word, .tup [.int R]] H = .ok (.v (.ref H.length)) (H ++ [buyerOb (H.length + 1) 0 R 0 0, hireOb R]) := by
  obtain ⟨q1, q2, q3, q4, q5, q6⟩ := W
  have i1 := r_buyer H.length R (H ++ [.ins .buyer []]) (by simp) hR
  have l1 : (H ++ [Ob.ins .buyer []]).length = H.length + 1 := by simp
  have s1 : ∀ y, (H ++ [Ob.ins .buyer []]).set H.length y = H ++ [y] := fun y => by simp
  rw [l1, s1] at i1
  have e : H ++ [buyerOb (H.length + 1) 0 R 0 0] ++ [hireOb R] = H ++ [buyerOb (H.length + 1) 0 R 0 0, hireOb R] := by simp
  rw [e] at i1
  have t0 : L2.atI [D.int R] 0 = some (.int R) := rfl
  generalize H ++ [buyerOb (H.length + 1) 0 R 0 0, hireOb R] = H2 at *
  unfold F_rule_of; refine ws_fnE rfl ?_; unfold m_rule_of; simp only [List.map_cons, List.map_nil, List.cons_append, List.nil_append, List.replicate]
  (repeat' ((try with_reducible apply ws_seq); first | (with_reducible first | apply ws_if_and | apply ws_if_or | apply ws_if_not | apply ws_ret_and | apply ws_ret_or | apply ws_ret_if | apply ws_set_and | apply ws_set_or | apply ws_set_if) | ((first | (with_reducible apply ws_next) | ((with_reducible first | refine ws_if fun rZ hZ => ?_ | refine ws_at fun rZ hZ => ?_); simp (disch := first | (simp; done) | assumption | omega | rfl | (simp; omega)) [mkFn,iIfS,iSeq,iOr,iAnd,iNot,iIf,iIsT,iVar,thenS,Rs.bind,Lk.hold,rdv,rdvs,isTy,isB,iRet,iChain,gLe,gLt,gGt,gGe,gCmp,retv,iNext,iC,op2,gAdd_i,gAdd_t,gAdd_l,gAdd_s,mulOk_b,dec_of,gSub,gMod,gDiv,iSet,iOwn,Lk.arg,Lk.args,Lk.pargs,Lk.settle,setv,iDrop,iTup,iLst,iB,rdvL,rdvLs,gLen,gList,gTuple,gMax,iCall,backR,ofRV,iMeth,lookM,iNew,iFld,iSetF,getF,putFl,gEq,gNe,gIs,notL,gIx,iNeg,iMut,mutTail,getL,putL,gApp,iDct,iHeap,noRef,noRefs,isFlat,tgN,tgT,tgs,iSl,pNo,pSome,gCut,iTgt,gPow,gMul,Lk.qE,iRaise,isSub,isKeyD,iSlS,iSetK,isTup,op2k, t0, i1, mixed, q1, q2, q3, q4, q5, q6] at hZ; subst hZ)); first | (with_reducible first | apply c_T | apply c_F | refine c_D (fun hz => ?_) (fun hz => ?_) | refine c_N (fun hz => ?_) (fun hz => ?_) | refine c_B (fun hz => ?_) (fun hz => ?_) | apply c_X) | (repeat1' (with_reducible first | apply q_nx | apply q_ret | apply q_exc | apply q_brk | apply q_cnt | apply l_nx | apply l_cnt | apply l_brk | apply l_ret | apply l_exc | apply f_nx | apply f_ret | apply f_exc)))))
  (all_goals first | with_reducible rfl | (simp [*]; done) | (exfalso; omega) | skip)
theorem world (word : Str) (W : Wq word false false true false false false) (R : Int) (hR : 1 ≤ R ∧ R ≤ 1000000000000000000) (H : List Ob) : F_world_start [.str word, .tup [.int R]] H = .ok (.v (.tup [.ref H.length, .int 0])) (H ++ [hireOb R]) := by
  obtain ⟨q1, q2, q3, q4, q5, q6⟩ := W
  have t0 : L2.atI [D.int R] 0 = some (.int R) := rfl
  have i1 := r_hire H.length R (H ++ [.ins .hire []]) (by simp)
  have s1 : (H ++ [Ob.ins .hire []]).set H.length (hireOb R) = H ++ [hireOb R] := by simp
  rw [s1] at i1
  unfold F_world_start; refine ws_fnE rfl ?_; unfold m_world_start; simp only [List.map_cons, List.map_nil, List.cons_append, List.nil_append, List.replicate]
  (repeat' ((try with_reducible apply ws_seq); first | (with_reducible first | apply ws_if_and | apply ws_if_or | apply ws_if_not | apply ws_ret_and | apply ws_ret_or | apply ws_ret_if | apply ws_set_and | apply ws_set_or | apply ws_set_if) | ((first | (with_reducible apply ws_next) | ((with_reducible first | refine ws_if fun rZ hZ => ?_ | refine ws_at fun rZ hZ => ?_); simp (disch := first | (simp; done) | assumption | omega | rfl | (simp; omega)) [mkFn,iIfS,iSeq,iOr,iAnd,iNot,iIf,iIsT,iVar,thenS,Rs.bind,Lk.hold,rdv,rdvs,isTy,isB,iRet,iChain,gLe,gLt,gGt,gGe,gCmp,retv,iNext,iC,op2,gAdd_i,gAdd_t,gAdd_l,gAdd_s,mulOk_b,dec_of,gSub,gMod,gDiv,iSet,iOwn,Lk.arg,Lk.args,Lk.pargs,Lk.settle,setv,iDrop,iTup,iLst,iB,rdvL,rdvLs,gLen,gList,gTuple,gMax,iCall,backR,ofRV,iMeth,lookM,iNew,iFld,iSetF,getF,putFl,gEq,gNe,gIs,notL,gIx,iNeg,iMut,mutTail,getL,putL,gApp,iDct,iHeap,noRef,noRefs,isFlat,tgN,tgT,tgs,iSl,pNo,pSome,gCut,iTgt,gPow,gMul,Lk.qE,iRaise,isSub,isKeyD,iSlS,iSetK,isTup,op2k, t0, i1, mixed, q1, q2, q3, q4, q5, q6] at hZ; subst hZ)); first | (with_reducible first | apply c_T | apply c_F | refine c_D (fun hz => ?_) (fun hz => ?_) | refine c_N (fun hz => ?_) (fun hz => ?_) | refine c_B (fun hz => ?_) (fun hz => ?_) | apply c_X) | (repeat1' (with_reducible first | apply q_nx | apply q_ret | apply q_exc | apply q_brk | apply q_cnt | apply l_nx | apply l_cnt | apply l_brk | apply l_ret | apply l_exc | apply f_nx | apply f_ret | apply f_exc)))))
  (all_goals first | with_reducible rfl | (simp [*]; done) | (exfalso; omega) | skip)
theorem rd (word : Str) (W : Wq word false false true false false false) (P : Part word) (R : Int) (N : Nat) (v : Nat → Int) (hR : 1 ≤ R ∧ R ≤ 1000000000000000000) (hv : ∀ i, i < N → 0 ≤ v i ∧ v i ≤ 1000000000000000000) : RD word (.tup [.int R]) ([R].map nS) (hireOb R) .hire N (fun i => .int (v i)) (fun i => [nS (v i)]) := by
  have nR : ∀ i ∈ [R], Num i := fun i hi => by rw [List.mem_singleton.mp hi]; exact num_am (by omega)
  have nv : ∀ i, i < N → Num (v i) := fun i hi => num_am (hv i hi)
  refine ⟨⟨P, .inr (.inl rfl)⟩, parts_num [R] nR (by simp), fun i hi => parts_one (nS_part _ (nv i hi)), ⟨_, rfl⟩, fun H => ⟨_, r_sread word _ _ _ _ W [R] nR (by simp) (mf_hire word W) H _ (rule word W R hR H)⟩, fun H => ⟨_, world word W R hR H⟩, fun i H m hi em => ?_, fun i _ => .inl ⟨_, rfl⟩, w_ints [R] nR (parts_num [R] nR (by simp)), fun i H hi => w_num _ (nv i hi) H, rfl, fun i hi => rfl⟩
  have w := r_h_wish m (.int (v i)) H rfl
  rw [betw_i (hv i hi).1 (hv i hi).2] at w
  exact r_wread1 word _ _ _ W .hire (.inr (.inl rfl)) (v i) (nv i hi) m _ H em w
end Bu
end Pf
namespace Pf
open Lk
open PySem (Str)
namespace Bo
def Place (i : Int) : Prop := -1000000000000000000 ≤ i ∧ i ≤ 1000000000000000000
def Places (n : Nat) (st : List Int) : Prop := st.length = n ∧ st.Pairwise (· ≤ ·) ∧ ∀ x ∈ st, Place x
abbrev tI (st : List Int) : D := .tup (st.map D.int)
theorem r_is_place (d : D) (hp : List Ob) (h : okD d = true) : F_is_place [d] hp = .ok (.v (.bl (betw d (-1000000000000000000) 1000000000000000000))) hp := by
  simp [mkFn,iIfS,iSeq,iOr,iAnd,iNot,iIf,iIsT,iVar,thenS,Rs.bind,Lk.hold,rdv,rdvs,isTy,isB,iRet,iChain,gLe,gLt,gGt,gGe,gCmp,retv,iNext,iC,op2,gAdd_i,gAdd_t,gAdd_l,gAdd_s,mulOk_b,dec_of,gSub,gMod,gDiv,iSet,iOwn,Lk.arg,Lk.args,Lk.pargs,Lk.settle,setv,iDrop,iTup,iLst,iB,rdvL,rdvLs,gLen,gList,gTuple,gMax,iCall,backR,ofRV,iMeth,lookM,iNew,iFld,iSetF,getF,putFl,gEq,gNe,gIs,notL,gIx,iNeg,iMut,mutTail,getL,putL,gApp,iDct,iHeap,noRef,noRefs,isFlat,tgN,tgT,tgs,iSl,pNo,pSome,gCut,iTgt,gPow,gMul,Lk.qE,iRaise,isSub,isKeyD,iSlS,iSetK,isTup,op2k, F_is_place, m_is_place, r_is_between, h]
theorem r_line_wish (n : Nat) (d : D) (hp : List Ob) (h : okD d = true) : F_Line_is_wish [.ref n, d] hp = .ok (.v (.bl (betw d (-1000000000000000000) 1000000000000000000))) hp := by
  simp [mkFn,iIfS,iSeq,iOr,iAnd,iNot,iIf,iIsT,iVar,thenS,Rs.bind,Lk.hold,rdv,rdvs,isTy,isB,iRet,iChain,gLe,gLt,gGt,gGe,gCmp,retv,iNext,iC,op2,gAdd_i,gAdd_t,gAdd_l,gAdd_s,mulOk_b,dec_of,gSub,gMod,gDiv,iSet,iOwn,Lk.arg,Lk.args,Lk.pargs,Lk.settle,setv,iDrop,iTup,iLst,iB,rdvL,rdvLs,gLen,gList,gTuple,gMax,iCall,backR,ofRV,iMeth,lookM,iNew,iFld,iSetF,getF,putFl,gEq,gNe,gIs,notL,gIx,iNeg,iMut,mutTail,getL,putL,gApp,iDct,iHeap,noRef,noRefs,isFlat,tgN,tgT,tgs,iSl,pNo,pSome,gCut,iTgt,gPow,gMul,Lk.qE,iRaise,isSub,isKeyD,iSlS,iSetK,isTup,op2k, F_Line_is_wish, m_Line_is_wish, r_is_place, h]
def lineOb (k : Nat) : Ob := .ins .line [(.many, .int (k : Nat))]
def ruleOb (m : Nat) (st : List Int) (t : Int) : Ob := .ins .both [(.world, .ref m), (.now, tI st), (.total, .int t)]
theorem r_are (st : List Int) (k : Int) (hp : List Ob) (hl : st.length ≤ 100) (hs : st.Pairwise (· ≤ ·)) (hb : ∀ x ∈ st, Place x) : F_are_places [tI st, .int k] hp = .ok (.v (.bl (decide ((st.length : Int) = k)))) hp := by
  have so := sort_intsT st (by omega)
  have ss : sortI st = st := sorted_eq (sortI_perm st) (sortI_pw st) hs
  rw [ss] at so
  have sl : (st.map D.int).length = st.length := by simp
  have w1 : weq (.lst (st.map D.int)) (.lst (st.map D.int)) = some true := weq_self_ints st
  have it : ∀ i x, (st.map D.int)[i]? = some x → ∃ j, x = D.int j ∧ Place j := fun i x h => by
    obtain ⟨j, hj, rfl⟩ := List.mem_map.mp (List.mem_of_getElem? h)
    exact ⟨j, rfl, hb j hj⟩
  unfold tI
  generalize st.map D.int = S at *
  unfold F_are_places; refine ws_fnE rfl ?_; unfold m_are_places; simp only [List.map_cons, List.map_nil, List.cons_append, List.nil_append, List.replicate]
  (repeat' ((try with_reducible apply ws_seq); first | (with_reducible first | apply ws_if_and | apply ws_if_or | apply ws_if_not | apply ws_ret_and | apply ws_ret_or | apply ws_ret_if | apply ws_set_and | apply ws_set_or | apply ws_set_if) | ((first | (with_reducible apply ws_next) | ((with_reducible first | refine ws_if fun rZ hZ => ?_ | refine ws_at fun rZ hZ => ?_); simp (disch := first | (simp; done) | assumption | omega | rfl | (simp; omega)) [mkFn,iIfS,iSeq,iOr,iAnd,iNot,iIf,iIsT,iVar,thenS,Rs.bind,Lk.hold,rdv,rdvs,isTy,isB,iRet,iChain,gLe,gLt,gGt,gGe,gCmp,retv,iNext,iC,op2,gAdd_i,gAdd_t,gAdd_l,gAdd_s,mulOk_b,dec_of,gSub,gMod,gDiv,iSet,iOwn,Lk.arg,Lk.args,Lk.pargs,Lk.settle,setv,iDrop,iTup,iLst,iB,rdvL,rdvLs,gLen,gList,gTuple,gMax,iCall,backR,ofRV,iMeth,lookM,iNew,iFld,iSetF,getF,putFl,gEq,gNe,gIs,notL,gIx,iNeg,iMut,mutTail,getL,putL,gApp,iDct,iHeap,noRef,noRefs,isFlat,tgN,tgT,tgs,iSl,pNo,pSome,gCut,iTgt,gPow,gMul,Lk.qE,iRaise,isSub,isKeyD,iSlS,iSetK,isTup,op2k, sl] at hZ; subst hZ)); first | (with_reducible first | apply c_T | apply c_F | refine c_D (fun hz => ?_) (fun hz => ?_) | refine c_N (fun hz => ?_) (fun hz => ?_) | refine c_B (fun hz => ?_) (fun hz => ?_) | apply c_X) | (repeat1' (with_reducible first | apply q_nx | apply q_ret | apply q_exc | apply q_brk | apply q_cnt | apply l_nx | apply l_cnt | apply l_brk | apply l_ret | apply l_exc | apply f_nx | apply f_ret | apply f_exc)))))
  · (all_goals first | with_reducible rfl | (simp [*]; done) | (exfalso; omega) | skip)
  · with_reducible refine ws_seq ?_
    refine ws_forN S ⟨[.v (.tup S), .v (.int k), .no], hp⟩ (by simp [mkFn,iIfS,iSeq,iOr,iAnd,iNot,iIf,iIsT,iVar,thenS,Rs.bind,Lk.hold,rdv,rdvs,isTy,isB,iRet,iChain,gLe,gLt,gGt,gGe,gCmp,retv,iNext,iC,op2,gAdd_i,gAdd_t,gAdd_l,gAdd_s,mulOk_b,dec_of,gSub,gMod,gDiv,iSet,iOwn,Lk.arg,Lk.args,Lk.pargs,Lk.settle,setv,iDrop,iTup,iLst,iB,rdvL,rdvLs,gLen,gList,gTuple,gMax,iCall,backR,ofRV,iMeth,lookM,iNew,iFld,iSetF,getF,putFl,gEq,gNe,gIs,notL,gIx,iNeg,iMut,mutTail,getL,putL,gApp,iDct,iHeap,noRef,noRefs,isFlat,tgN,tgT,tgs,iSl,pNo,pSome,gCut,iTgt,gPow,gMul,Lk.qE,iRaise,isSub,isKeyD,iSlS,iSetK,isTup,op2k]) (fun _ s => ∃ a, s = ⟨[.v (.tup S), .v (.int k), a], hp⟩) ⟨_, rfl⟩ ?_ ?_
    · rintro i x s1 hx ⟨a, rfl⟩
      obtain ⟨j, rfl, hj⟩ := it i x hx
      have b := r_is_place (.int j) hp rfl
      rw [betw_i hj.1 hj.2] at b
      unfold b_are_places_1
      simp only [Lk.setv, List.set]
      (repeat' ((try with_reducible apply ws_seq); first | (with_reducible first | apply ws_if_and | apply ws_if_or | apply ws_if_not | apply ws_ret_and | apply ws_ret_or | apply ws_ret_if | apply ws_set_and | apply ws_set_or | apply ws_set_if) | ((first | (with_reducible apply ws_next) | ((with_reducible first | refine ws_if fun rZ hZ => ?_ | refine ws_at fun rZ hZ => ?_); simp (disch := first | (simp; done) | assumption | omega | rfl | (simp; omega)) [mkFn,iIfS,iSeq,iOr,iAnd,iNot,iIf,iIsT,iVar,thenS,Rs.bind,Lk.hold,rdv,rdvs,isTy,isB,iRet,iChain,gLe,gLt,gGt,gGe,gCmp,retv,iNext,iC,op2,gAdd_i,gAdd_t,gAdd_l,gAdd_s,mulOk_b,dec_of,gSub,gMod,gDiv,iSet,iOwn,Lk.arg,Lk.args,Lk.pargs,Lk.settle,setv,iDrop,iTup,iLst,iB,rdvL,rdvLs,gLen,gList,gTuple,gMax,iCall,backR,ofRV,iMeth,lookM,iNew,iFld,iSetF,getF,putFl,gEq,gNe,gIs,notL,gIx,iNeg,iMut,mutTail,getL,putL,gApp,iDct,iHeap,noRef,noRefs,isFlat,tgN,tgT,tgs,iSl,pNo,pSome,gCut,iTgt,gPow,gMul,Lk.qE,iRaise,isSub,isKeyD,iSlS,iSetK,isTup,op2k, b] at hZ; subst hZ)); first | (with_reducible first | apply c_T | apply c_F | refine c_D (fun hz => ?_) (fun hz => ?_) | refine c_N (fun hz => ?_) (fun hz => ?_) | refine c_B (fun hz => ?_) (fun hz => ?_) | apply c_X) | (repeat1' (with_reducible first | apply q_nx | apply q_ret | apply q_exc | apply q_brk | apply q_cnt | apply l_nx | apply l_cnt | apply l_brk | apply l_ret | apply l_exc | apply f_nx | apply f_ret | apply f_exc)))))
      exact ⟨_, rfl⟩
    · rintro s1 ⟨a, rfl⟩
      (repeat1' (with_reducible first | apply q_nx | apply q_ret | apply q_exc | apply q_brk | apply q_cnt | apply l_nx | apply l_cnt | apply l_brk | apply l_ret | apply l_exc | apply f_nx | apply f_ret | apply f_exc))
      (repeat' ((try with_reducible apply ws_seq); first | (with_reducible first | apply ws_if_and | apply ws_if_or | apply ws_if_not | apply ws_ret_and | apply ws_ret_or | apply ws_ret_if | apply ws_set_and | apply ws_set_or | apply ws_set_if) | ((first | (with_reducible apply ws_next) | ((with_reducible first | refine ws_if fun rZ hZ => ?_ | refine ws_at fun rZ hZ => ?_); simp (disch := first | (simp; done) | assumption | omega | rfl | (simp; omega)) [mkFn,iIfS,iSeq,iOr,iAnd,iNot,iIf,iIsT,iVar,thenS,Rs.bind,Lk.hold,rdv,rdvs,isTy,isB,iRet,iChain,gLe,gLt,gGt,gGe,gCmp,retv,iNext,iC,op2,gAdd_i,gAdd_t,gAdd_l,gAdd_s,mulOk_b,dec_of,gSub,gMod,gDiv,iSet,iOwn,Lk.arg,Lk.args,Lk.pargs,Lk.settle,setv,iDrop,iTup,iLst,iB,rdvL,rdvLs,gLen,gList,gTuple,gMax,iCall,backR,ofRV,iMeth,lookM,iNew,iFld,iSetF,getF,putFl,gEq,gNe,gIs,notL,gIx,iNeg,iMut,mutTail,getL,putL,gApp,iDct,iHeap,noRef,noRefs,isFlat,tgN,tgT,tgs,iSl,pNo,pSome,gCut,iTgt,gPow,gMul,Lk.qE,iRaise,isSub,isKeyD,iSlS,iSetK,isTup,op2k, so, w1] at hZ; subst hZ)); first | (with_reducible first | apply c_T | apply c_F | refine c_D (fun hz => ?_) (fun hz => ?_) | refine c_N (fun hz => ?_) (fun hz => ?_) | refine c_B (fun hz => ?_) (fun hz => ?_) | apply c_X) | (repeat1' (with_reducible first | apply q_nx | apply q_ret | apply q_exc | apply q_brk | apply q_cnt | apply l_nx | apply l_cnt | apply l_brk | apply l_ret | apply l_exc | apply f_nx | apply f_ret | apply f_exc)))))
      (all_goals first | with_reducible rfl | (simp [*]; done) | (exfalso; omega) | skip)
      all_goals trace_state
theorem r_linit (n k : Nat) (hp : List Ob) (e : hp[n]? = some (.ins .line [])) : F_Line___init__ [.ref n, .int (k : Nat)] hp = .ok (.v .non) (hp.set n (lineOb k)) := by
  unfold lineOb
  unfold F_Line___init__; refine ws_fnE rfl ?_; unfold m_Line___init__; simp only [List.map_cons, List.map_nil, List.cons_append, List.nil_append, List.replicate]
  (repeat' ((try with_reducible apply ws_seq); first | (with_reducible first | apply ws_if_and | apply ws_if_or | apply ws_if_not | apply ws_ret_and | apply ws_ret_or | apply ws_ret_if | apply ws_set_and | apply ws_set_or | apply ws_set_if) | ((first | (with_reducible apply ws_next) | ((with_reducible first | refine ws_if fun rZ hZ => ?_ | refine ws_at fun rZ hZ => ?_); simp (disch := first | (simp; done) | assumption | omega | rfl | (simp; omega)) [mkFn,iIfS,iSeq,iOr,iAnd,iNot,iIf,iIsT,iVar,thenS,Rs.bind,Lk.hold,rdv,rdvs,isTy,isB,iRet,iChain,gLe,gLt,gGt,gGe,gCmp,retv,iNext,iC,op2,gAdd_i,gAdd_t,gAdd_l,gAdd_s,mulOk_b,dec_of,gSub,gMod,gDiv,iSet,iOwn,Lk.arg,Lk.args,Lk.pargs,Lk.settle,setv,iDrop,iTup,iLst,iB,rdvL,rdvLs,gLen,gList,gTuple,gMax,iCall,backR,ofRV,iMeth,lookM,iNew,iFld,iSetF,getF,putFl,gEq,gNe,gIs,notL,gIx,iNeg,iMut,mutTail,getL,putL,gApp,iDct,iHeap,noRef,noRefs,isFlat,tgN,tgT,tgs,iSl,pNo,pSome,gCut,iTgt,gPow,gMul,Lk.qE,iRaise,isSub,isKeyD,iSlS,iSetK,isTup,op2k, e, has] at hZ; subst hZ)); first | (with_reducible first | apply c_T | apply c_F | refine c_D (fun hz => ?_) (fun hz => ?_) | refine c_N (fun hz => ?_) (fun hz => ?_) | refine c_B (fun hz => ?_) (fun hz => ?_) | apply c_X) | (repeat1' (with_reducible first | apply q_nx | apply q_ret | apply q_exc | apply q_brk | apply q_cnt | apply l_nx | apply l_cnt | apply l_brk | apply l_ret | apply l_exc | apply f_nx | apply f_ret | apply f_exc)))))
  (all_goals first | with_reducible rfl | (simp [*]; done) | (exfalso; omega) | skip)
theorem r_line_of (st : List Int) (k : Nat) (hs : Places k st) (hk : 0 < k ∧ k ≤ 6) (hp : List Ob) : F_line_of [tI st] hp = .ok (.v (.ref hp.length)) (hp ++ [lineOb k]) := by
  have ar : ∀ j : Int, F_are_places [tI st, .int j] hp = .ok (.v (.bl (decide ((k : Int) = j)))) hp := fun j => by
    have q := r_are st j hp (by rw [hs.1]; omega) hs.2.1 hs.2.2
    rw [hs.1] at q
    exact q
  have ni := r_linit hp.length k (hp ++ [.ins .line []]) (by simp)
  have ns : (hp ++ [Ob.ins .line []]).set hp.length (lineOb k) = hp ++ [lineOb k] := by simp
  rw [ns] at ni
  unfold tI at *
  generalize st.map D.int = S at *
  unfold F_line_of; refine ws_fnE rfl ?_; unfold m_line_of; simp only [List.map_cons, List.map_nil, List.cons_append, List.nil_append, List.replicate]
  with_reducible refine ws_seq ?_
  refine ws_forN (rngD 1 6) ⟨[.v (.tup S), .no], hp⟩ (r2_ok (i := 1) (j := 7) (n := 6) (by simp [mkFn,iIfS,iSeq,iOr,iAnd,iNot,iIf,iIsT,iVar,thenS,Rs.bind,Lk.hold,rdv,rdvs,isTy,isB,iRet,iChain,gLe,gLt,gGt,gGe,gCmp,retv,iNext,iC,op2,gAdd_i,gAdd_t,gAdd_l,gAdd_s,mulOk_b,dec_of,gSub,gMod,gDiv,iSet,iOwn,Lk.arg,Lk.args,Lk.pargs,Lk.settle,setv,iDrop,iTup,iLst,iB,rdvL,rdvLs,gLen,gList,gTuple,gMax,iCall,backR,ofRV,iMeth,lookM,iNew,iFld,iSetF,getF,putFl,gEq,gNe,gIs,notL,gIx,iNeg,iMut,mutTail,getL,putL,gApp,iDct,iHeap,noRef,noRefs,isFlat,tgN,tgT,tgs,iSl,pNo,pSome,gCut,iTgt,gPow,gMul,Lk.qE,iRaise,isSub,isKeyD,iSlS,iSetK,isTup,op2k]) (by decide) (by omega) (by omega)) (fun i s => i < k ∧ ∃ a, s = ⟨[.v (.tup S), a], hp⟩) ⟨hk.1, _, rfl⟩ ?_ ?_
  · rintro i x s1 hx ⟨hi, a, rfl⟩
    obtain ⟨h1, rfl⟩ := rngD_get hx
    have q := ar (1 + (i : Int))
    unfold b_line_of_1
    simp only [Lk.setv, List.set]
    by_cases z : k = 1 + i
    · have ek : (1 + (i : Int)) = (k : Nat) := by omega
      rw [ek] at q ⊢
      (repeat' ((try with_reducible apply ws_seq); first | (with_reducible first | apply ws_if_and | apply ws_if_or | apply ws_if_not | apply ws_ret_and | apply ws_ret_or | apply ws_ret_if | apply ws_set_and | apply ws_set_or | apply ws_set_if) | ((first | (with_reducible apply ws_next) | ((with_reducible first | refine ws_if fun rZ hZ => ?_ | refine ws_at fun rZ hZ => ?_); simp (disch := first | (simp; done) | assumption | omega | rfl | (simp; omega)) [mkFn,iIfS,iSeq,iOr,iAnd,iNot,iIf,iIsT,iVar,thenS,Rs.bind,Lk.hold,rdv,rdvs,isTy,isB,iRet,iChain,gLe,gLt,gGt,gGe,gCmp,retv,iNext,iC,op2,gAdd_i,gAdd_t,gAdd_l,gAdd_s,mulOk_b,dec_of,gSub,gMod,gDiv,iSet,iOwn,Lk.arg,Lk.args,Lk.pargs,Lk.settle,setv,iDrop,iTup,iLst,iB,rdvL,rdvLs,gLen,gList,gTuple,gMax,iCall,backR,ofRV,iMeth,lookM,iNew,iFld,iSetF,getF,putFl,gEq,gNe,gIs,notL,gIx,iNeg,iMut,mutTail,getL,putL,gApp,iDct,iHeap,noRef,noRefs,isFlat,tgN,tgT,tgs,iSl,pNo,pSome,gCut,iTgt,gPow,gMul,Lk.qE,iRaise,isSub,isKeyD,iSlS,iSetK,isTup,op2k, q, ni] at hZ; subst hZ)); first | (with_reducible first | apply c_T | apply c_F | refine c_D (fun hz => ?_) (fun hz => ?_) | refine c_N (fun hz => ?_) (fun hz => ?_) | refine c_B (fun hz => ?_) (fun hz => ?_) | apply c_X) | (repeat1' (with_reducible first | apply q_nx | apply q_ret | apply q_exc | apply q_brk | apply q_cnt | apply l_nx | apply l_cnt | apply l_brk | apply l_ret | apply l_exc | apply f_nx | apply f_ret | apply f_exc)))))
      (all_goals first | with_reducible rfl | (simp [*]; done) | (exfalso; omega) | skip)
    · have nk : ¬ (k : Int) = 1 + (i : Int) := by omega
      rw [decide_eq_false nk] at q
      (repeat' ((try with_reducible apply ws_seq); first | (with_reducible first | apply ws_if_and | apply ws_if_or | apply ws_if_not | apply ws_ret_and | apply ws_ret_or | apply ws_ret_if | apply ws_set_and | apply ws_set_or | apply ws_set_if) | ((first | (with_reducible apply ws_next) | ((with_reducible first | refine ws_if fun rZ hZ => ?_ | refine ws_at fun rZ hZ => ?_); simp (disch := first | (simp; done) | assumption | omega | rfl | (simp; omega)) [mkFn,iIfS,iSeq,iOr,iAnd,iNot,iIf,iIsT,iVar,thenS,Rs.bind,Lk.hold,rdv,rdvs,isTy,isB,iRet,iChain,gLe,gLt,gGt,gGe,gCmp,retv,iNext,iC,op2,gAdd_i,gAdd_t,gAdd_l,gAdd_s,mulOk_b,dec_of,gSub,gMod,gDiv,iSet,iOwn,Lk.arg,Lk.args,Lk.pargs,Lk.settle,setv,iDrop,iTup,iLst,iB,rdvL,rdvLs,gLen,gList,gTuple,gMax,iCall,backR,ofRV,iMeth,lookM,iNew,iFld,iSetF,getF,putFl,gEq,gNe,gIs,notL,gIx,iNeg,iMut,mutTail,getL,putL,gApp,iDct,iHeap,noRef,noRefs,isFlat,tgN,tgT,tgs,iSl,pNo,pSome,gCut,iTgt,gPow,gMul,Lk.qE,iRaise,isSub,isKeyD,iSlS,iSetK,isTup,op2k, q, ni] at hZ; subst hZ)); first | (with_reducible first | apply c_T | apply c_F | refine c_D (fun hz => ?_) (fun hz => ?_) | refine c_N (fun hz => ?_) (fun hz => ?_) | refine c_B (fun hz => ?_) (fun hz => ?_) | apply c_X) | (repeat1' (with_reducible first | apply q_nx | apply q_ret | apply q_exc | apply q_brk | apply q_cnt | apply l_nx | apply l_cnt | apply l_brk | apply l_ret | apply l_exc | apply f_nx | apply f_ret | apply f_exc)))))
      exact ⟨by omega, _, rfl⟩
  · rintro s1 ⟨hi, a, rfl⟩
    rw [rngD_length] at hi
    exfalso; omega
theorem r_rinit (n m : Nat) (c : Cl) (st : List Int) (hp : List Ob) (hc : has c .world = true ∧ has c .now = true ∧ has c .total = true) (e : hp[n]? = some (.ins c [])) :
    F_Rule___init__ [.ref n, .ref m, tI st] hp = .ok (.v .non) (hp.set n (.ins c [(.world, .ref m), (.now, tI st), (.total, .int 0)])) := by
  obtain ⟨h1, h2, h3⟩ := hc
  have gs := gset e
  unfold tI at *
  generalize st.map D.int = S at *
  unfold F_Rule___init__; refine ws_fnE rfl ?_; unfold m_Rule___init__; simp only [List.map_cons, List.map_nil, List.cons_append, List.nil_append, List.replicate]
  (repeat' ((try with_reducible apply ws_seq); first | (with_reducible first | apply ws_if_and | apply ws_if_or | apply ws_if_not | apply ws_ret_and | apply ws_ret_or | apply ws_ret_if | apply ws_set_and | apply ws_set_or | apply ws_set_if) | ((first | (with_reducible apply ws_next) | ((with_reducible first | refine ws_if fun rZ hZ => ?_ | refine ws_at fun rZ hZ => ?_); simp (disch := first | (simp; done) | assumption | omega | rfl | (simp; omega)) [mkFn,iIfS,iSeq,iOr,iAnd,iNot,iIf,iIsT,iVar,thenS,Rs.bind,Lk.hold,rdv,rdvs,isTy,isB,iRet,iChain,gLe,gLt,gGt,gGe,gCmp,retv,iNext,iC,op2,gAdd_i,gAdd_t,gAdd_l,gAdd_s,mulOk_b,dec_of,gSub,gMod,gDiv,iSet,iOwn,Lk.arg,Lk.args,Lk.pargs,Lk.settle,setv,iDrop,iTup,iLst,iB,rdvL,rdvLs,gLen,gList,gTuple,gMax,iCall,backR,ofRV,iMeth,lookM,iNew,iFld,iSetF,getF,putFl,gEq,gNe,gIs,notL,gIx,iNeg,iMut,mutTail,getL,putL,gApp,iDct,iHeap,noRef,noRefs,isFlat,tgN,tgT,tgs,iSl,pNo,pSome,gCut,iTgt,gPow,gMul,Lk.qE,iRaise,isSub,isKeyD,iSlS,iSetK,isTup,op2k, e, h1, h2, h3, gs] at hZ; subst hZ)); first | (with_reducible first | apply c_T | apply c_F | refine c_D (fun hz => ?_) (fun hz => ?_) | refine c_N (fun hz => ?_) (fun hz => ?_) | refine c_B (fun hz => ?_) (fun hz => ?_) | apply c_X) | (repeat1' (with_reducible first | apply q_nx | apply q_ret | apply q_exc | apply q_brk | apply q_cnt | apply l_nx | apply l_cnt | apply l_brk | apply l_ret | apply l_exc | apply f_nx | apply f_ret | apply f_exc)))))
  (all_goals first | with_reducible rfl | (simp [*]; done) | (exfalso; omega) | skip)
theorem r_binit (n k : Nat) (st : List Int) (hs : Places k st) (hk : 0 < k ∧ k ≤ 6) (hp : List Ob) (e : hp[n]? = some (.ins .both [])) : F_Both___init__ [.ref n, tI st] hp = .ok (.v .non) (hp.set n (ruleOb hp.length st 0) ++ [lineOb k]) := by
  have hl : n < hp.length := (List.getElem?_eq_some_iff.mp e).1
  have lo := r_line_of st k hs hk hp
  have g : (hp ++ [lineOb k])[n]? = some (.ins .both []) := by rw [get_app _ _ _ hl]; exact e
  have ri := r_rinit n hp.length .both st (hp ++ [lineOb k]) ⟨rfl, rfl, rfl⟩ g
  rw [set_app _ _ _ _ hl] at ri
  unfold ruleOb tI at *
  generalize st.map D.int = S at *
  unfold F_Both___init__; refine ws_fnE rfl ?_; unfold m_Both___init__; simp only [List.map_cons, List.map_nil, List.cons_append, List.nil_append, List.replicate]
  (repeat' ((try with_reducible apply ws_seq); first | (with_reducible first | apply ws_if_and | apply ws_if_or | apply ws_if_not | apply ws_ret_and | apply ws_ret_or | apply ws_ret_if | apply ws_set_and | apply ws_set_or | apply ws_set_if) | ((first | (with_reducible apply ws_next) | ((with_reducible first | refine ws_if fun rZ hZ => ?_ | refine ws_at fun rZ hZ => ?_); simp (disch := first | (simp; done) | assumption | omega | rfl | (simp; omega)) [mkFn,iIfS,iSeq,iOr,iAnd,iNot,iIf,iIsT,iVar,thenS,Rs.bind,Lk.hold,rdv,rdvs,isTy,isB,iRet,iChain,gLe,gLt,gGt,gGe,gCmp,retv,iNext,iC,op2,gAdd_i,gAdd_t,gAdd_l,gAdd_s,mulOk_b,dec_of,gSub,gMod,gDiv,iSet,iOwn,Lk.arg,Lk.args,Lk.pargs,Lk.settle,setv,iDrop,iTup,iLst,iB,rdvL,rdvLs,gLen,gList,gTuple,gMax,iCall,backR,ofRV,iMeth,lookM,iNew,iFld,iSetF,getF,putFl,gEq,gNe,gIs,notL,gIx,iNeg,iMut,mutTail,getL,putL,gApp,iDct,iHeap,noRef,noRefs,isFlat,tgN,tgT,tgs,iSl,pNo,pSome,gCut,iTgt,gPow,gMul,Lk.qE,iRaise,isSub,isKeyD,iSlS,iSetK,isTup,op2k, lo, ri] at hZ; subst hZ)); first | (with_reducible first | apply c_T | apply c_F | refine c_D (fun hz => ?_) (fun hz => ?_) | refine c_N (fun hz => ?_) (fun hz => ?_) | refine c_B (fun hz => ?_) (fun hz => ?_) | apply c_X) | (repeat1' (with_reducible first | apply q_nx | apply q_ret | apply q_exc | apply q_brk | apply q_cnt | apply l_nx | apply l_cnt | apply l_brk | apply l_ret | apply l_exc | apply f_nx | apply f_ret | apply f_exc)))))
  (all_goals first | with_reducible rfl | (simp [*]; done) | (exfalso; omega) | skip)
theorem rule (word : Str) (W : Wq word true false false false false false) (k : Nat) (A : List Int) (hk : 0 < k ∧ k ≤ 6) (pA : Places k A) (H : List Ob) : F_rule_of [.str word, tI A] H = .ok (.v (.ref H.length)) (H ++ [ruleOb (H.length + 1) A 0, lineOb k]) := by
  obtain ⟨q1, q2, q3, q4, q5, q6⟩ := W
  have i1 := r_binit H.length k A pA hk (H ++ [.ins .both []]) (by simp)
  have l1 : (H ++ [Ob.ins .both []]).length = H.length + 1 := by simp
  have s1 : ∀ y, (H ++ [Ob.ins .both []]).set H.length y = H ++ [y] := fun y => by simp
  rw [l1, s1] at i1
  have e : H ++ [ruleOb (H.length + 1) A 0] ++ [lineOb k] = H ++ [ruleOb (H.length + 1) A 0, lineOb k] := by simp
  rw [e] at i1
  unfold tI at *
  generalize H ++ [ruleOb (H.length + 1) A 0, lineOb k] = H2 at *
  unfold F_rule_of; refine ws_fnE rfl ?_; unfold m_rule_of; simp only [List.map_cons, List.map_nil, List.cons_append, List.nil_append, List.replicate]
  (repeat' ((try with_reducible apply ws_seq); first | (with_reducible first | apply ws_if_and | apply ws_if_or | apply ws_if_not | apply ws_ret_and | apply ws_ret_or | apply ws_ret_if | apply ws_set_and | apply ws_set_or | apply ws_set_if) | ((first | (with_reducible apply ws_next) | ((with_reducible first | refine ws_if fun rZ hZ => ?_ | refine ws_at fun rZ hZ => ?_); simp (disch := first | (simp; done) | assumption | omega | rfl | (simp; omega)) [mkFn,iIfS,iSeq,iOr,iAnd,iNot,iIf,iIsT,iVar,thenS,Rs.bind,Lk.hold,rdv,rdvs,isTy,isB,iRet,iChain,gLe,gLt,gGt,gGe,gCmp,retv,iNext,iC,op2,gAdd_i,gAdd_t,gAdd_l,gAdd_s,mulOk_b,dec_of,gSub,gMod,gDiv,iSet,iOwn,Lk.arg,Lk.args,Lk.pargs,Lk.settle,setv,iDrop,iTup,iLst,iB,rdvL,rdvLs,gLen,gList,gTuple,gMax,iCall,backR,ofRV,iMeth,lookM,iNew,iFld,iSetF,getF,putFl,gEq,gNe,gIs,notL,gIx,iNeg,iMut,mutTail,getL,putL,gApp,iDct,iHeap,noRef,noRefs,isFlat,tgN,tgT,tgs,iSl,pNo,pSome,gCut,iTgt,gPow,gMul,Lk.qE,iRaise,isSub,isKeyD,iSlS,iSetK,isTup,op2k, i1, mixed, q1, q2, q3, q4, q5, q6] at hZ; subst hZ)); first | (with_reducible first | apply c_T | apply c_F | refine c_D (fun hz => ?_) (fun hz => ?_) | refine c_N (fun hz => ?_) (fun hz => ?_) | refine c_B (fun hz => ?_) (fun hz => ?_) | apply c_X) | (repeat1' (with_reducible first | apply q_nx | apply q_ret | apply q_exc | apply q_brk | apply q_cnt | apply l_nx | apply l_cnt | apply l_brk | apply l_ret | apply l_exc | apply f_nx | apply f_ret | apply f_exc)))))
  (all_goals first | with_reducible rfl | (simp [*]; done) | (exfalso; omega) | skip)
theorem world (word : Str) (W : Wq word true false false false false false) (k : Nat) (A : List Int) (hk : 0 < k ∧ k ≤ 6) (pA : Places k A) (H : List Ob) : F_world_start [.str word, tI A] H = .ok (.v (.tup [.ref H.length, tI A])) (H ++ [lineOb k]) := by
  obtain ⟨q1, q2, q3, q4, q5, q6⟩ := W
  have lA : (A.map D.int).length = k := by rw [List.length_map, pA.1]
  have i1 := r_linit H.length k (H ++ [.ins .line []]) (by simp)
  have s1 : (H ++ [Ob.ins .line []]).set H.length (lineOb k) = H ++ [lineOb k] := by simp
  rw [s1] at i1
  unfold tI at *
  generalize A.map D.int = SA at *
  unfold F_world_start; refine ws_fnE rfl ?_; unfold m_world_start; simp only [List.map_cons, List.map_nil, List.cons_append, List.nil_append, List.replicate]
  (repeat' ((try with_reducible apply ws_seq); first | (with_reducible first | apply ws_if_and | apply ws_if_or | apply ws_if_not | apply ws_ret_and | apply ws_ret_or | apply ws_ret_if | apply ws_set_and | apply ws_set_or | apply ws_set_if) | ((first | (with_reducible apply ws_next) | ((with_reducible first | refine ws_if fun rZ hZ => ?_ | refine ws_at fun rZ hZ => ?_); simp (disch := first | (simp; done) | assumption | omega | rfl | (simp; omega)) [mkFn,iIfS,iSeq,iOr,iAnd,iNot,iIf,iIsT,iVar,thenS,Rs.bind,Lk.hold,rdv,rdvs,isTy,isB,iRet,iChain,gLe,gLt,gGt,gGe,gCmp,retv,iNext,iC,op2,gAdd_i,gAdd_t,gAdd_l,gAdd_s,mulOk_b,dec_of,gSub,gMod,gDiv,iSet,iOwn,Lk.arg,Lk.args,Lk.pargs,Lk.settle,setv,iDrop,iTup,iLst,iB,rdvL,rdvLs,gLen,gList,gTuple,gMax,iCall,backR,ofRV,iMeth,lookM,iNew,iFld,iSetF,getF,putFl,gEq,gNe,gIs,notL,gIx,iNeg,iMut,mutTail,getL,putL,gApp,iDct,iHeap,noRef,noRefs,isFlat,tgN,tgT,tgs,iSl,pNo,pSome,gCut,iTgt,gPow,gMul,Lk.qE,iRaise,isSub,isKeyD,iSlS,iSetK,isTup,op2k, lA, i1, mixed, q1, q2, q3, q4, q5, q6] at hZ; subst hZ)); first | (with_reducible first | apply c_T | apply c_F | refine c_D (fun hz => ?_) (fun hz => ?_) | refine c_N (fun hz => ?_) (fun hz => ?_) | refine c_B (fun hz => ?_) (fun hz => ?_) | apply c_X) | (repeat1' (with_reducible first | apply q_nx | apply q_ret | apply q_exc | apply q_brk | apply q_cnt | apply l_nx | apply l_cnt | apply l_brk | apply l_ret | apply l_exc | apply f_nx | apply f_ret | apply f_exc)))))
  (all_goals first | with_reducible rfl | (simp [*]; done) | (exfalso; omega) | skip)
theorem rd (word : Str) (W : Wq word true false false false false false) (P : Part word) (k : Nat) (A : List Int) (N : Nat) (v : Nat → Int) (hk : 0 < k ∧ k ≤ 6) (pA : Places k A) (hv : ∀ i, i < N → Place (v i)) : RD word (tI A) (A.map nS) (lineOb k) .line N (fun i => .int (v i)) (fun i => [nS (v i)]) := by
  have np : ∀ i, Place i → Num i := fun i h => by unfold Place at h; unfold Num; omega
  have nA : ∀ i ∈ A, Num i := fun i hi => np i (pA.2.2 i hi)
  have lA : 0 < A.length ∧ A.length ≤ 8 := by rw [pA.1]; omega
  refine ⟨⟨P, .inr (.inr (.inl rfl))⟩, parts_num A nA lA, fun i hi => parts_one (nS_part _ (np _ (hv i hi))), ⟨_, rfl⟩, fun H => ⟨_, r_sread word _ _ _ _ W A nA lA.2 (mf_line word W A.length) H _ (rule word W k A hk pA H)⟩, fun H => ⟨_, world word W k A hk pA H⟩, fun i H m hi em => ?_, fun i _ => .inl ⟨_, rfl⟩, w_ints A nA (parts_num A nA lA), fun i H hi => w_num _ (np _ (hv i hi)) H, plain_ti A 3, fun i hi => rfl⟩
  have w := r_line_wish m (.int (v i)) H rfl
  rw [betw_i (hv i hi).1 (hv i hi).2] at w
  exact r_wread1 word _ _ _ W .line (.inr (.inr (.inl rfl))) (v i) (np _ (hv i hi)) m _ H em w
end Bo
end Pf
namespace Pf
open Lk
open PySem (Str)
namespace Fr
def shOb (P : List Str) : Ob := .ins .shelf [(.things, tS P)]
theorem r_shwish (m : Nat) (P : List Str) (w : Str) (hp : List Ob) (em : hp[m]? = some (shOb P)) : F_Shelf_is_wish [.ref m, .str w] hp = .ok (.v (.bl (decide (w ∈ P)))) hp := by
  have gi := gInS_t w P
  unfold shOb tS at em
  generalize P.map D.str = S at *
  simp [mkFn,iIfS,iSeq,iOr,iAnd,iNot,iIf,iIsT,iVar,thenS,Rs.bind,Lk.hold,rdv,rdvs,isTy,isB,iRet,iChain,gLe,gLt,gGt,gGe,gCmp,retv,iNext,iC,op2,gAdd_i,gAdd_t,gAdd_l,gAdd_s,mulOk_b,dec_of,gSub,gMod,gDiv,iSet,iOwn,Lk.arg,Lk.args,Lk.pargs,Lk.settle,setv,iDrop,iTup,iLst,iB,rdvL,rdvLs,gLen,gList,gTuple,gMax,iCall,backR,ofRV,iMeth,lookM,iNew,iFld,iSetF,getF,putFl,gEq,gNe,gIs,notL,gIx,iNeg,iMut,mutTail,getL,putL,gApp,iDct,iHeap,noRef,noRefs,isFlat,tgN,tgT,tgs,iSl,pNo,pSome,gCut,iTgt,gPow,gMul,Lk.qE,iRaise,isSub,isKeyD,iSlS,iSetK,isTup,op2k, F_Shelf_is_wish, m_Shelf_is_wish, em, has, gi]
theorem world (word : Str) (W : Wq word false true false false false false) (A : List Str) (rA : RowK A) (H : List Ob) : F_world_start [.str word, tS A] H = .ok (.v (.tup [.ref H.length, tS A])) (H ++ [shOb A]) := by
  obtain ⟨q1, q2, q3, q4, q5, q6⟩ := W
  have i1 : F_Shelf___init__ [.ref H.length, tS A] (H ++ [.ins .shelf []]) = .ok (.v .non) (H ++ [shOb A]) := by
    have g : (H ++ [Ob.ins .shelf []])[H.length]? = some (.ins .shelf []) := by simp
    have s1 : ∀ y, (H ++ [Ob.ins .shelf []]).set H.length y = H ++ [y] := fun y => by simp
    unfold shOb tS
    generalize A.map D.str = SA at *
    unfold F_Shelf___init__; refine ws_fnE rfl ?_; unfold m_Shelf___init__; simp only [List.map_cons, List.map_nil, List.cons_append, List.nil_append, List.replicate]
    (repeat' ((try with_reducible apply ws_seq); first | (with_reducible first | apply ws_if_and | apply ws_if_or | apply ws_if_not | apply ws_ret_and | apply ws_ret_or | apply ws_ret_if | apply ws_set_and | apply ws_set_or | apply ws_set_if) | ((first | (with_reducible apply ws_next) | ((with_reducible first | refine ws_if fun rZ hZ => ?_ | refine ws_at fun rZ hZ => ?_); simp (disch := first | (simp; done) | assumption | omega | rfl | (simp; omega)) [mkFn,iIfS,iSeq,iOr,iAnd,iNot,iIf,iIsT,iVar,thenS,Rs.bind,Lk.hold,rdv,rdvs,isTy,isB,iRet,iChain,gLe,gLt,gGt,gGe,gCmp,retv,iNext,iC,op2,gAdd_i,gAdd_t,gAdd_l,gAdd_s,mulOk_b,dec_of,gSub,gMod,gDiv,iSet,iOwn,Lk.arg,Lk.args,Lk.pargs,Lk.settle,setv,iDrop,iTup,iLst,iB,rdvL,rdvLs,gLen,gList,gTuple,gMax,iCall,backR,ofRV,iMeth,lookM,iNew,iFld,iSetF,getF,putFl,gEq,gNe,gIs,notL,gIx,iNeg,iMut,mutTail,getL,putL,gApp,iDct,iHeap,noRef,noRefs,isFlat,tgN,tgT,tgs,iSl,pNo,pSome,gCut,iTgt,gPow,gMul,Lk.qE,iRaise,isSub,isKeyD,iSlS,iSetK,isTup,op2k, g, has, s1, Lk.gTuple] at hZ; subst hZ)); first | (with_reducible first | apply c_T | apply c_F | refine c_D (fun hz => ?_) (fun hz => ?_) | refine c_N (fun hz => ?_) (fun hz => ?_) | refine c_B (fun hz => ?_) (fun hz => ?_) | apply c_X) | (repeat1' (with_reducible first | apply q_nx | apply q_ret | apply q_exc | apply q_brk | apply q_cnt | apply l_nx | apply l_cnt | apply l_brk | apply l_ret | apply l_exc | apply f_nx | apply f_ret | apply f_exc)))))
    (all_goals first | with_reducible rfl | (simp [*]; done) | (exfalso; omega) | skip)
  unfold tS at *
  generalize shOb A = O at *
  generalize A.map D.str = SA at *
  unfold F_world_start; refine ws_fnE rfl ?_; unfold m_world_start; simp only [List.map_cons, List.map_nil, List.cons_append, List.nil_append, List.replicate]
  (repeat' ((try with_reducible apply ws_seq); first | (with_reducible first | apply ws_if_and | apply ws_if_or | apply ws_if_not | apply ws_ret_and | apply ws_ret_or | apply ws_ret_if | apply ws_set_and | apply ws_set_or | apply ws_set_if) | ((first | (with_reducible apply ws_next) | ((with_reducible first | refine ws_if fun rZ hZ => ?_ | refine ws_at fun rZ hZ => ?_); simp (disch := first | (simp; done) | assumption | omega | rfl | (simp; omega)) [mkFn,iIfS,iSeq,iOr,iAnd,iNot,iIf,iIsT,iVar,thenS,Rs.bind,Lk.hold,rdv,rdvs,isTy,isB,iRet,iChain,gLe,gLt,gGt,gGe,gCmp,retv,iNext,iC,op2,gAdd_i,gAdd_t,gAdd_l,gAdd_s,mulOk_b,dec_of,gSub,gMod,gDiv,iSet,iOwn,Lk.arg,Lk.args,Lk.pargs,Lk.settle,setv,iDrop,iTup,iLst,iB,rdvL,rdvLs,gLen,gList,gTuple,gMax,iCall,backR,ofRV,iMeth,lookM,iNew,iFld,iSetF,getF,putFl,gEq,gNe,gIs,notL,gIx,iNeg,iMut,mutTail,getL,putL,gApp,iDct,iHeap,noRef,noRefs,isFlat,tgN,tgT,tgs,iSl,pNo,pSome,gCut,iTgt,gPow,gMul,Lk.qE,iRaise,isSub,isKeyD,iSlS,iSetK,isTup,op2k, i1, mixed, q1, q2, q3, q4, q5, q6] at hZ; subst hZ)); first | (with_reducible first | apply c_T | apply c_F | refine c_D (fun hz => ?_) (fun hz => ?_) | refine c_N (fun hz => ?_) (fun hz => ?_) | refine c_B (fun hz => ?_) (fun hz => ?_) | apply c_X) | (repeat1' (with_reducible first | apply q_nx | apply q_ret | apply q_exc | apply q_brk | apply q_cnt | apply l_nx | apply l_cnt | apply l_brk | apply l_ret | apply l_exc | apply f_nx | apply f_ret | apply f_exc)))))
  (all_goals first | with_reducible rfl | (simp [*]; done) | (exfalso; omega) | skip)
theorem rd (word : Str) (W : Wq word false true false false false false) (P : Part word) (A : List Str) (N : Nat) (v : Nat → Str) (rA : RowK A) (hv : ∀ i, i < N → v i ∈ A) : RD word (tS A) A (shOb A) .shelf N (fun i => .str (v i)) (fun i => [v i]) := by
  refine ⟨⟨P, .inr (.inr (.inr (.inl rfl)))⟩, parts_row rA, fun i hi => parts_one (part_name (rA.2.2 _ (hv i hi))), ⟨_, rfl⟩, fun H => ⟨[], by rw [List.append_nil]; exact r_sreadN word _ _ W (.inl rfl) A rA H⟩, fun H => ⟨_, world word W A rA H⟩, fun i H m hi em => ?_, fun i _ => .inr (.inl ⟨_, rfl⟩), w_strs A (parts_row rA), fun i H hi => w_str _ H, plain_ts A 3, fun i hi => rfl⟩
  have w := r_shwish m A (v i) H em
  rw [decide_eq_true (hv i hi)] at w
  exact r_wreadN word _ _ W (.inl ⟨rfl, rfl⟩) .shelf (.inr (.inr (.inr (.inl rfl)))) (v i) m _ H em w
end Fr
end Pf
namespace Pf
open Lk
open PySem (Str)
namespace Ch
abbrev tI (st : List Int) : D := .tup (st.map D.int)
def Amt (i : Int) : Prop := 0 ≤ i ∧ i ≤ 1000000000000000000
def Chg (k : Nat) (C : List Int) : Prop := C.length = k ∧ ∀ x ∈ C, Amt x
def chOb (m : Nat) (h : Nat) (tot t : Int) (kn : D) : Ob := .ins .changer [(.world, .ref m), (.now, .int (h : Nat)), (.total, .int tot), (.toll, .int t), (.known, kn)]
def wyOb (k : Nat) (t : Int) : Ob := .ins .ways [(.many, .int (k : Nat)), (.toll, .int t)]
theorem gAll_true (xs : List D) : gAll [.lst (xs.map fun _ => D.bl true)] = some (.w (.bl true)) := by
  have e : ∀ xs : List D, boolsD (xs.map fun _ => D.bl true) = some (xs.map fun _ => true) := by
    intro xs
    induction xs with
    | nil => rfl
    | cons x xs ih => simp [boolsD, ih]
  unfold gAll
  simp [e]
theorem r_wwish (m k : Nat) (t : Int) (C : List Int) (hp : List Ob) (em : hp[m]? = some (wyOb k t)) (hC : Chg k C) (hk : k ≤ 8) : F_Ways_is_wish [.ref m, tI C] hp = .ok (.v (.bl true)) hp := by
  have c1 : c_Ways_is_wish_1 ⟨[.v (.ref m), .v (tI C), .no], hp⟩ = .ok (.fr ((C.map D.int).map fun _ => D.bl true)) ⟨[.v (.ref m), .v (tI C), .no], hp⟩ := by
    unfold c_Ways_is_wish_1
    refine lc_listA (s1 := ⟨[.v (.ref m), .v (tI C), .no], hp⟩) (fun _ => D.bl true) (by simp [mkFn,iIfS,iSeq,iOr,iAnd,iNot,iIf,iIsT,iVar,thenS,Rs.bind,Lk.hold,rdv,rdvs,isTy,isB,iRet,iChain,gLe,gLt,gGt,gGe,gCmp,retv,iNext,iC,op2,gAdd_i,gAdd_t,gAdd_l,gAdd_s,mulOk_b,dec_of,gSub,gMod,gDiv,iSet,iOwn,Lk.arg,Lk.args,Lk.pargs,Lk.settle,setv,iDrop,iTup,iLst,iB,rdvL,rdvLs,gLen,gList,gTuple,gMax,iCall,backR,ofRV,iMeth,lookM,iNew,iFld,iSetF,getF,putFl,gEq,gNe,gIs,notL,gIx,iNeg,iMut,mutTail,getL,putL,gApp,iDct,iHeap,noRef,noRefs,isFlat,tgN,tgT,tgs,iSl,pNo,pSome,gCut,iTgt,gPow,gMul,Lk.qE,iRaise,isSub,isKeyD,iSlS,iSetK,isTup,op2k]) (by rw [List.length_map, hC.1]; omega) (fun x hx => ?_)
    obtain ⟨j, hj, rfl⟩ := List.mem_map.mp hx
    have a := r_is_amount (.int j) hp rfl
    rw [betw_i (hC.2 j hj).1 (hC.2 j hj).2] at a
    unfold tI
    generalize C.map D.int = S at *
    simp [mkFn,iIfS,iSeq,iOr,iAnd,iNot,iIf,iIsT,iVar,thenS,Rs.bind,Lk.hold,rdv,rdvs,isTy,isB,iRet,iChain,gLe,gLt,gGt,gGe,gCmp,retv,iNext,iC,op2,gAdd_i,gAdd_t,gAdd_l,gAdd_s,mulOk_b,dec_of,gSub,gMod,gDiv,iSet,iOwn,Lk.arg,Lk.args,Lk.pargs,Lk.settle,setv,iDrop,iTup,iLst,iB,rdvL,rdvLs,gLen,gList,gTuple,gMax,iCall,backR,ofRV,iMeth,lookM,iNew,iFld,iSetF,getF,putFl,gEq,gNe,gIs,notL,gIx,iNeg,iMut,mutTail,getL,putL,gApp,iDct,iHeap,noRef,noRefs,isFlat,tgN,tgT,tgs,iSl,pNo,pSome,gCut,iTgt,gPow,gMul,Lk.qE,iRaise,isSub,isKeyD,iSlS,iSetK,isTup,op2k, Lk.Sx.wipe, wipeE, a]
  have ga := gAll_true (C.map D.int)
  have ls : (C.map D.int).length = k := by rw [List.length_map, hC.1]
  unfold wyOb tI at *
  generalize C.map D.int = S at *
  generalize S.map (fun _ => D.bl true) = L at *
  unfold F_Ways_is_wish; refine ws_fnE rfl ?_; unfold m_Ways_is_wish; simp only [List.map_cons, List.map_nil, List.cons_append, List.nil_append, List.replicate]
  (repeat' ((try with_reducible apply ws_seq); first | (with_reducible first | apply ws_if_and | apply ws_if_or | apply ws_if_not | apply ws_ret_and | apply ws_ret_or | apply ws_ret_if | apply ws_set_and | apply ws_set_or | apply ws_set_if) | ((first | (with_reducible apply ws_next) | ((with_reducible first | refine ws_if fun rZ hZ => ?_ | refine ws_at fun rZ hZ => ?_); simp (disch := first | (simp; done) | assumption | omega | rfl | (simp; omega)) [mkFn,iIfS,iSeq,iOr,iAnd,iNot,iIf,iIsT,iVar,thenS,Rs.bind,Lk.hold,rdv,rdvs,isTy,isB,iRet,iChain,gLe,gLt,gGt,gGe,gCmp,retv,iNext,iC,op2,gAdd_i,gAdd_t,gAdd_l,gAdd_s,mulOk_b,dec_of,gSub,gMod,gDiv,iSet,iOwn,Lk.arg,Lk.args,Lk.pargs,Lk.settle,setv,iDrop,iTup,iLst,iB,rdvL,rdvLs,gLen,gList,gTuple,gMax,iCall,backR,ofRV,iMeth,lookM,iNew,iFld,iSetF,getF,putFl,gEq,gNe,gIs,notL,gIx,iNeg,iMut,mutTail,getL,putL,gApp,iDct,iHeap,noRef,noRefs,isFlat,tgN,tgT,tgs,iSl,pNo,pSome,gCut,iTgt,gPow,gMul,Lk.qE,iRaise,isSub,isKeyD,iSlS,iSetK,isTup,op2k, em, has, ls, c1, ga] at hZ; subst hZ)); first | (with_reducible first | apply c_T | apply c_F | refine c_D (fun hz => ?_) (fun hz => ?_) | refine c_N (fun hz => ?_) (fun hz => ?_) | refine c_B (fun hz => ?_) (fun hz => ?_) | apply c_X) | (repeat1' (with_reducible first | apply q_nx | apply q_ret | apply q_exc | apply q_brk | apply q_cnt | apply l_nx | apply l_cnt | apply l_brk | apply l_ret | apply l_exc | apply f_nx | apply f_ret | apply f_exc)))))
  (all_goals first | with_reducible rfl | (simp [*]; done) | (exfalso; omega) | skip)
def k0I (k : Nat) (t : Int) (h : Nat) : List Int := ((List.range k).map fun _ => t).set h 0
theorem r_rinitI (n m : Nat) (c : Cl) (h : Int) (hp : List Ob) (hc : has c .world = true ∧ has c .now = true ∧ has c .total = true) (e : hp[n]? = some (.ins c [])) :
    F_Rule___init__ [.ref n, .ref m, .int h] hp = .ok (.v .non) (hp.set n (.ins c [(.world, .ref m), (.now, .int h), (.total, .int 0)])) := by
  obtain ⟨h1, h2, h3⟩ := hc
  have gs := gset e
  unfold F_Rule___init__; refine ws_fnE rfl ?_; unfold m_Rule___init__; simp only [List.map_cons, List.map_nil, List.cons_append, List.nil_append, List.replicate]
  (repeat' ((try with_reducible apply ws_seq); first | (with_reducible first | apply ws_if_and | apply ws_if_or | apply ws_if_not | apply ws_ret_and | apply ws_ret_or | apply ws_ret_if | apply ws_set_and | apply ws_set_or | apply ws_set_if) | ((first | (with_reducible apply ws_next) | ((with_reducible first | refine ws_if fun rZ hZ => ?_ | refine ws_at fun rZ hZ => ?_); simp (disch := first | (simp; done) | assumption | omega | rfl | (simp; omega)) [mkFn,iIfS,iSeq,iOr,iAnd,iNot,iIf,iIsT,iVar,thenS,Rs.bind,Lk.hold,rdv,rdvs,isTy,isB,iRet,iChain,gLe,gLt,gGt,gGe,gCmp,retv,iNext,iC,op2,gAdd_i,gAdd_t,gAdd_l,gAdd_s,mulOk_b,dec_of,gSub,gMod,gDiv,iSet,iOwn,Lk.arg,Lk.args,Lk.pargs,Lk.settle,setv,iDrop,iTup,iLst,iB,rdvL,rdvLs,gLen,gList,gTuple,gMax,iCall,backR,ofRV,iMeth,lookM,iNew,iFld,iSetF,getF,putFl,gEq,gNe,gIs,notL,gIx,iNeg,iMut,mutTail,getL,putL,gApp,iDct,iHeap,noRef,noRefs,isFlat,tgN,tgT,tgs,iSl,pNo,pSome,gCut,iTgt,gPow,gMul,Lk.qE,iRaise,isSub,isKeyD,iSlS,iSetK,isTup,op2k, e, h1, h2, h3, gs] at hZ; subst hZ)); first | (with_reducible first | apply c_T | apply c_F | refine c_D (fun hz => ?_) (fun hz => ?_) | refine c_N (fun hz => ?_) (fun hz => ?_) | refine c_B (fun hz => ?_) (fun hz => ?_) | apply c_X) | (repeat1' (with_reducible first | apply q_nx | apply q_ret | apply q_exc | apply q_brk | apply q_cnt | apply l_nx | apply l_cnt | apply l_brk | apply l_ret | apply l_exc | apply f_nx | apply f_ret | apply f_exc)))))
  (all_goals first | with_reducible rfl | (simp [*]; done) | (exfalso; omega) | skip)
theorem r_winit (n k : Nat) (h : Nat) (t : Int) (hp : List Ob) (ht : Amt t) (hk : 0 < k ∧ k ≤ 8) (hh : h < k) (e : hp[n]? = some (.ins .changer [])) :
    F_Changer___init__ [.ref n, .int (k : Nat), .int t, .int (h : Nat)] hp = .ok (.v .non) (hp.set n (chOb hp.length h 0 t (.ref (hp.length + 1))) ++ [wyOb k t, .lst ((k0I k t h).map D.int)]) := by
  have hl : n < hp.length := (List.getElem?_eq_some_iff.mp e).1
  have b1 := r_is_between (.int (k : Nat)) 1 8 hp rfl
  rw [betw_i (by omega) (by omega)] at b1
  have b2 := r_is_amount (.int t) hp rfl
  rw [betw_i ht.1 ht.2] at b2
  have b3 := r_is_between (.int (h : Nat)) 0 ((k : Int) - 1) hp rfl
  rw [betw_i (by omega) (by omega)] at b3
  have w1 : F_Ways___init__ [.ref hp.length, .int (k : Nat), .int t] (hp ++ [.ins .ways []]) = .ok (.v .non) (hp ++ [wyOb k t]) := by
    have g1 : (hp ++ [Ob.ins .ways []])[hp.length]? = some (.ins .ways []) := by simp
    have g2 : ∀ x y : Ob, (hp ++ [x]).set hp.length y = hp ++ [y] := fun x y => by simp
    have g3 : ∀ x : Ob, (hp ++ [x])[hp.length]? = some x := fun x => by simp
    unfold wyOb
    unfold F_Ways___init__; refine ws_fnE rfl ?_; unfold m_Ways___init__; simp only [List.map_cons, List.map_nil, List.cons_append, List.nil_append, List.replicate]
    (repeat' ((try with_reducible apply ws_seq); first | (with_reducible first | apply ws_if_and | apply ws_if_or | apply ws_if_not | apply ws_ret_and | apply ws_ret_or | apply ws_ret_if | apply ws_set_and | apply ws_set_or | apply ws_set_if) | ((first | (with_reducible apply ws_next) | ((with_reducible first | refine ws_if fun rZ hZ => ?_ | refine ws_at fun rZ hZ => ?_); simp (disch := first | (simp; done) | assumption | omega | rfl | (simp; omega)) [mkFn,iIfS,iSeq,iOr,iAnd,iNot,iIf,iIsT,iVar,thenS,Rs.bind,Lk.hold,rdv,rdvs,isTy,isB,iRet,iChain,gLe,gLt,gGt,gGe,gCmp,retv,iNext,iC,op2,gAdd_i,gAdd_t,gAdd_l,gAdd_s,mulOk_b,dec_of,gSub,gMod,gDiv,iSet,iOwn,Lk.arg,Lk.args,Lk.pargs,Lk.settle,setv,iDrop,iTup,iLst,iB,rdvL,rdvLs,gLen,gList,gTuple,gMax,iCall,backR,ofRV,iMeth,lookM,iNew,iFld,iSetF,getF,putFl,gEq,gNe,gIs,notL,gIx,iNeg,iMut,mutTail,getL,putL,gApp,iDct,iHeap,noRef,noRefs,isFlat,tgN,tgT,tgs,iSl,pNo,pSome,gCut,iTgt,gPow,gMul,Lk.qE,iRaise,isSub,isKeyD,iSlS,iSetK,isTup,op2k, g3, g2, has] at hZ; subst hZ)); first | (with_reducible first | apply c_T | apply c_F | refine c_D (fun hz => ?_) (fun hz => ?_) | refine c_N (fun hz => ?_) (fun hz => ?_) | refine c_B (fun hz => ?_) (fun hz => ?_) | apply c_X) | (repeat1' (with_reducible first | apply q_nx | apply q_ret | apply q_exc | apply q_brk | apply q_cnt | apply l_nx | apply l_cnt | apply l_brk | apply l_ret | apply l_exc | apply f_nx | apply f_ret | apply f_exc)))))
    (all_goals first | with_reducible rfl | (simp [*]; done) | (exfalso; omega) | skip)
  have w2 : F_Rule___init__ [.ref n, .ref hp.length, .int (h : Nat)] (hp ++ [wyOb k t]) = .ok (.v .non) (hp.set n (.ins .changer [(.world, .ref hp.length), (.now, .int (h : Nat)), (.total, .int 0)]) ++ [wyOb k t]) := by
    have g1 : (hp ++ [wyOb k t])[n]? = some (.ins .changer []) := by rw [get_app _ _ _ hl]; exact e
    have r := r_rinitI n hp.length .changer (h : Nat) (hp ++ [wyOb k t]) ⟨rfl, rfl, rfl⟩ g1
    rw [set_app _ _ _ _ hl] at r
    exact r
  have c1 : ∀ H : List Ob, c_Changer___init___1 ⟨[.v (.ref n), .v (.int (k : Nat)), .v (.int t), .v (.int (h : Nat)), .no], H⟩ = .ok (.fr (((List.range k).map fun _ => t).map D.int)) ⟨[.v (.ref n), .v (.int (k : Nat)), .v (.int t), .v (.int (h : Nat)), .no], H⟩ := by
    intro H
    rw [List.map_map]
    unfold c_Changer___init___1
    exact lc_rng (s1 := ⟨[.v (.ref n), .v (.int (k : Nat)), .v (.int t), .v (.int (h : Nat)), .no], H⟩) _ (by simp [mkFn,iIfS,iSeq,iOr,iAnd,iNot,iIf,iIsT,iVar,thenS,Rs.bind,Lk.hold,rdv,rdvs,isTy,isB,iRet,iChain,gLe,gLt,gGt,gGe,gCmp,retv,iNext,iC,op2,gAdd_i,gAdd_t,gAdd_l,gAdd_s,mulOk_b,dec_of,gSub,gMod,gDiv,iSet,iOwn,Lk.arg,Lk.args,Lk.pargs,Lk.settle,setv,iDrop,iTup,iLst,iB,rdvL,rdvLs,gLen,gList,gTuple,gMax,iCall,backR,ofRV,iMeth,lookM,iNew,iFld,iSetF,getF,putFl,gEq,gNe,gIs,notL,gIx,iNeg,iMut,mutTail,getL,putL,gApp,iDct,iHeap,noRef,noRefs,isFlat,tgN,tgT,tgs,iSl,pNo,pSome,gCut,iTgt,gPow,gMul,Lk.qE,iRaise,isSub,isKeyD,iSlS,iSetK,isTup,op2k]) (by omega) (fun j hj => by simp [mkFn,iIfS,iSeq,iOr,iAnd,iNot,iIf,iIsT,iVar,thenS,Rs.bind,Lk.hold,rdv,rdvs,isTy,isB,iRet,iChain,gLe,gLt,gGt,gGe,gCmp,retv,iNext,iC,op2,gAdd_i,gAdd_t,gAdd_l,gAdd_s,mulOk_b,dec_of,gSub,gMod,gDiv,iSet,iOwn,Lk.arg,Lk.args,Lk.pargs,Lk.settle,setv,iDrop,iTup,iLst,iB,rdvL,rdvLs,gLen,gList,gTuple,gMax,iCall,backR,ofRV,iMeth,lookM,iNew,iFld,iSetF,getF,putFl,gEq,gNe,gIs,notL,gIx,iNeg,iMut,mutTail,getL,putL,gApp,iDct,iHeap,noRef,noRefs,isFlat,tgN,tgT,tgs,iSl,pNo,pSome,gCut,iTgt,gPow,gMul,Lk.qE,iRaise,isSub,isKeyD,iSlS,iSetK,isTup,op2k, Lk.Sx.wipe, wipeE])
  have em : (k0I k t h).map D.int = (((List.range k).map fun _ => t).map D.int).set h (.int 0) := by unfold k0I; rw [List.map_set]
  have ll : (((List.range k).map fun _ => t).map D.int).length = k := by simp
  have ix : L2.ixN k (h : Int) = some h := by unfold L2.ixN; simp [hh]
  rw [em]
  generalize ((List.range k).map fun _ => t).map D.int = P at *
  have g3 : ∀ (y : Ob) (r : List Ob), (hp.set n y ++ r)[n]? = some y := fun y r => by rw [get_app _ _ _ (by simpa using hl)]; exact gset e y
  have g4 : ∀ (x y : Ob) (r : List Ob), (hp.set n x ++ r).set n y = hp.set n y ++ r := fun x y r => by rw [set_app _ _ _ _ (by simpa using hl)]; simp
  have g5 : ∀ (x W : Ob) (z : Ob), (hp.set n x ++ [W, z])[hp.length + 1]? = some z := fun x W z => by
    rw [List.getElem?_append_right (by simp)]; simp
  have g6 : ∀ (x W : Ob) (z y : Ob), (hp.set n x ++ [W, z]).set (hp.length + 1) y = hp.set n x ++ [W, y] := fun x W z y => by
    rw [List.set_append, if_neg (by simp)]; simp
  unfold chOb
  generalize wyOb k t = W at *
  unfold F_Changer___init__; refine ws_fnE rfl ?_; unfold m_Changer___init__; simp only [List.map_cons, List.map_nil, List.cons_append, List.nil_append, List.replicate]
  (repeat' ((try with_reducible apply ws_seq); first | (with_reducible first | apply ws_if_and | apply ws_if_or | apply ws_if_not | apply ws_ret_and | apply ws_ret_or | apply ws_ret_if | apply ws_set_and | apply ws_set_or | apply ws_set_if) | ((first | (with_reducible apply ws_next) | ((with_reducible first | refine ws_if fun rZ hZ => ?_ | refine ws_at fun rZ hZ => ?_); simp (disch := first | (simp; done) | assumption | omega | rfl | (simp; omega)) [mkFn,iIfS,iSeq,iOr,iAnd,iNot,iIf,iIsT,iVar,thenS,Rs.bind,Lk.hold,rdv,rdvs,isTy,isB,iRet,iChain,gLe,gLt,gGt,gGe,gCmp,retv,iNext,iC,op2,gAdd_i,gAdd_t,gAdd_l,gAdd_s,mulOk_b,dec_of,gSub,gMod,gDiv,iSet,iOwn,Lk.arg,Lk.args,Lk.pargs,Lk.settle,setv,iDrop,iTup,iLst,iB,rdvL,rdvLs,gLen,gList,gTuple,gMax,iCall,backR,ofRV,iMeth,lookM,iNew,iFld,iSetF,getF,putFl,gEq,gNe,gIs,notL,gIx,iNeg,iMut,mutTail,getL,putL,gApp,iDct,iHeap,noRef,noRefs,isFlat,tgN,tgT,tgs,iSl,pNo,pSome,gCut,iTgt,gPow,gMul,Lk.qE,iRaise,isSub,isKeyD,iSlS,iSetK,isTup,op2k, b1, b2, b3, w1, w2, g3, g4, g5, g6, has, c1, ll, ix, Lk.iSetIx] at hZ; subst hZ)); first | (with_reducible first | apply c_T | apply c_F | refine c_D (fun hz => ?_) (fun hz => ?_) | refine c_N (fun hz => ?_) (fun hz => ?_) | refine c_B (fun hz => ?_) (fun hz => ?_) | apply c_X) | (repeat1' (with_reducible first | apply q_nx | apply q_ret | apply q_exc | apply q_brk | apply q_cnt | apply l_nx | apply l_cnt | apply l_brk | apply l_ret | apply l_exc | apply f_nx | apply f_ret | apply f_exc)))))
  (all_goals first | with_reducible rfl | (simp [*]; done) | (exfalso; omega) | skip)
theorem rule (word : Str) (W : Wq word false false false true false false) (k : Nat) (tl : Int) (h : Nat) (hk : 0 < k ∧ k ≤ 8) (ht : Amt tl) (hh : h < k) (H : List Ob) : F_rule_of [.str word, .tup [.int (k : Nat), .int tl, .int (h : Nat)]] H = .ok (.v (.ref H.length)) (H ++ [chOb (H.length + 1) h 0 tl (.ref (H.length + 1 + 1)), wyOb k tl, .lst ((k0I k tl h).map D.int)]) := by
  obtain ⟨q1, q2, q3, q4, q5, q6⟩ := W
  have i1 := r_winit H.length k h tl (H ++ [.ins .changer []]) ht hk hh (by simp)
  have l1 : (H ++ [Ob.ins .changer []]).length = H.length + 1 := by simp
  have s1 : ∀ y, (H ++ [Ob.ins .changer []]).set H.length y = H ++ [y] := fun y => by simp
  rw [l1, s1] at i1
  have e : H ++ [chOb (H.length + 1) h 0 tl (.ref (H.length + 1 + 1))] ++ [wyOb k tl, .lst ((k0I k tl h).map D.int)] = H ++ [chOb (H.length + 1) h 0 tl (.ref (H.length + 1 + 1)), wyOb k tl, .lst ((k0I k tl h).map D.int)] := by simp
  rw [e] at i1
  have t0 : L2.atI [D.int (k : Nat), .int tl, .int (h : Nat)] 0 = some (.int (k : Nat)) := rfl
  have t1 : L2.atI [D.int (k : Nat), .int tl, .int (h : Nat)] 1 = some (.int tl) := rfl
  have t2 : L2.atI [D.int (k : Nat), .int tl, .int (h : Nat)] 2 = some (.int (h : Nat)) := rfl
  generalize H ++ [chOb (H.length + 1) h 0 tl (.ref (H.length + 1 + 1)), wyOb k tl, .lst ((k0I k tl h).map D.int)] = H2 at *
  unfold F_rule_of; refine ws_fnE rfl ?_; unfold m_rule_of; simp only [List.map_cons, List.map_nil, List.cons_append, List.nil_append, List.replicate]
  (repeat' ((try with_reducible apply ws_seq); first | (with_reducible first | apply ws_if_and | apply ws_if_or | apply ws_if_not | apply ws_ret_and | apply ws_ret_or | apply ws_ret_if | apply ws_set_and | apply ws_set_or | apply ws_set_if) | ((first | (with_reducible apply ws_next) | ((with_reducible first | refine ws_if fun rZ hZ => ?_ | refine ws_at fun rZ hZ => ?_); simp (disch := first | (simp; done) | assumption | omega | rfl | (simp; omega)) [mkFn,iIfS,iSeq,iOr,iAnd,iNot,iIf,iIsT,iVar,thenS,Rs.bind,Lk.hold,rdv,rdvs,isTy,isB,iRet,iChain,gLe,gLt,gGt,gGe,gCmp,retv,iNext,iC,op2,gAdd_i,gAdd_t,gAdd_l,gAdd_s,mulOk_b,dec_of,gSub,gMod,gDiv,iSet,iOwn,Lk.arg,Lk.args,Lk.pargs,Lk.settle,setv,iDrop,iTup,iLst,iB,rdvL,rdvLs,gLen,gList,gTuple,gMax,iCall,backR,ofRV,iMeth,lookM,iNew,iFld,iSetF,getF,putFl,gEq,gNe,gIs,notL,gIx,iNeg,iMut,mutTail,getL,putL,gApp,iDct,iHeap,noRef,noRefs,isFlat,tgN,tgT,tgs,iSl,pNo,pSome,gCut,iTgt,gPow,gMul,Lk.qE,iRaise,isSub,isKeyD,iSlS,iSetK,isTup,op2k, t0, t1, t2, i1, mixed, q1, q2, q3, q4, q5, q6] at hZ; subst hZ)); first | (with_reducible first | apply c_T | apply c_F | refine c_D (fun hz => ?_) (fun hz => ?_) | refine c_N (fun hz => ?_) (fun hz => ?_) | refine c_B (fun hz => ?_) (fun hz => ?_) | apply c_X) | (repeat1' (with_reducible first | apply q_nx | apply q_ret | apply q_exc | apply q_brk | apply q_cnt | apply l_nx | apply l_cnt | apply l_brk | apply l_ret | apply l_exc | apply f_nx | apply f_ret | apply f_exc)))))
  (all_goals first | with_reducible rfl | (simp [*]; done) | (exfalso; omega) | skip)
theorem world (word : Str) (W : Wq word false false false true false false) (k : Nat) (tl : Int) (h : Nat) (hk : 0 < k ∧ k ≤ 8) (ht : Amt tl) (hh : h < k) (H : List Ob) : F_world_start [.str word, .tup [.int (k : Nat), .int tl, .int (h : Nat)]] H = .ok (.v (.tup [.ref H.length, .int (h : Nat)])) (H ++ [wyOb k tl]) := by
  obtain ⟨q1, q2, q3, q4, q5, q6⟩ := W
  have t0 : L2.atI [D.int (k : Nat), .int tl, .int (h : Nat)] 0 = some (.int (k : Nat)) := rfl
  have t1 : L2.atI [D.int (k : Nat), .int tl, .int (h : Nat)] 1 = some (.int tl) := rfl
  have t2 : L2.atI [D.int (k : Nat), .int tl, .int (h : Nat)] 2 = some (.int (h : Nat)) := rfl
  have i1 : F_Ways___init__ [.ref H.length, .int (k : Nat), .int tl] (H ++ [.ins .ways []]) = .ok (.v .non) (H ++ [wyOb k tl]) := by
    have g : (H ++ [Ob.ins .ways []])[H.length]? = some (.ins .ways []) := by simp
    have g2 : ∀ o : Ob, (H ++ [o])[H.length]? = some o := fun o => by simp
    have s1 : ∀ o y, (H ++ [o]).set H.length y = H ++ [y] := fun o y => by simp
    unfold wyOb
    unfold F_Ways___init__; refine ws_fnE rfl ?_; unfold m_Ways___init__; simp only [List.map_cons, List.map_nil, List.cons_append, List.nil_append, List.replicate]
    (repeat' ((try with_reducible apply ws_seq); first | (with_reducible first | apply ws_if_and | apply ws_if_or | apply ws_if_not | apply ws_ret_and | apply ws_ret_or | apply ws_ret_if | apply ws_set_and | apply ws_set_or | apply ws_set_if) | ((first | (with_reducible apply ws_next) | ((with_reducible first | refine ws_if fun rZ hZ => ?_ | refine ws_at fun rZ hZ => ?_); simp (disch := first | (simp; done) | assumption | omega | rfl | (simp; omega)) [mkFn,iIfS,iSeq,iOr,iAnd,iNot,iIf,iIsT,iVar,thenS,Rs.bind,Lk.hold,rdv,rdvs,isTy,isB,iRet,iChain,gLe,gLt,gGt,gGe,gCmp,retv,iNext,iC,op2,gAdd_i,gAdd_t,gAdd_l,gAdd_s,mulOk_b,dec_of,gSub,gMod,gDiv,iSet,iOwn,Lk.arg,Lk.args,Lk.pargs,Lk.settle,setv,iDrop,iTup,iLst,iB,rdvL,rdvLs,gLen,gList,gTuple,gMax,iCall,backR,ofRV,iMeth,lookM,iNew,iFld,iSetF,getF,putFl,gEq,gNe,gIs,notL,gIx,iNeg,iMut,mutTail,getL,putL,gApp,iDct,iHeap,noRef,noRefs,isFlat,tgN,tgT,tgs,iSl,pNo,pSome,gCut,iTgt,gPow,gMul,Lk.qE,iRaise,isSub,isKeyD,iSlS,iSetK,isTup,op2k, g, has, s1, g2] at hZ; subst hZ)); first | (with_reducible first | apply c_T | apply c_F | refine c_D (fun hz => ?_) (fun hz => ?_) | refine c_N (fun hz => ?_) (fun hz => ?_) | refine c_B (fun hz => ?_) (fun hz => ?_) | apply c_X) | (repeat1' (with_reducible first | apply q_nx | apply q_ret | apply q_exc | apply q_brk | apply q_cnt | apply l_nx | apply l_cnt | apply l_brk | apply l_ret | apply l_exc | apply f_nx | apply f_ret | apply f_exc)))))
    (all_goals first | with_reducible rfl | (simp [*]; done) | (exfalso; omega) | skip)
  generalize wyOb k tl = O at *
  generalize hpr : [D.int (k : Nat), .int tl, .int (h : Nat)] = pr at *
  unfold F_world_start; refine ws_fnE rfl ?_; unfold m_world_start; simp only [List.map_cons, List.map_nil, List.cons_append, List.nil_append, List.replicate]
  (repeat' ((try with_reducible apply ws_seq); first | (with_reducible first | apply ws_if_and | apply ws_if_or | apply ws_if_not | apply ws_ret_and | apply ws_ret_or | apply ws_ret_if | apply ws_set_and | apply ws_set_or | apply ws_set_if) | ((first | (with_reducible apply ws_next) | ((with_reducible first | refine ws_if fun rZ hZ => ?_ | refine ws_at fun rZ hZ => ?_); simp (disch := first | (simp; done) | assumption | omega | rfl | (simp; omega)) [mkFn,iIfS,iSeq,iOr,iAnd,iNot,iIf,iIsT,iVar,thenS,Rs.bind,Lk.hold,rdv,rdvs,isTy,isB,iRet,iChain,gLe,gLt,gGt,gGe,gCmp,retv,iNext,iC,op2,gAdd_i,gAdd_t,gAdd_l,gAdd_s,mulOk_b,dec_of,gSub,gMod,gDiv,iSet,iOwn,Lk.arg,Lk.args,Lk.pargs,Lk.settle,setv,iDrop,iTup,iLst,iB,rdvL,rdvLs,gLen,gList,gTuple,gMax,iCall,backR,ofRV,iMeth,lookM,iNew,iFld,iSetF,getF,putFl,gEq,gNe,gIs,notL,gIx,iNeg,iMut,mutTail,getL,putL,gApp,iDct,iHeap,noRef,noRefs,isFlat,tgN,tgT,tgs,iSl,pNo,pSome,gCut,iTgt,gPow,gMul,Lk.qE,iRaise,isSub,isKeyD,iSlS,iSetK,isTup,op2k, t0, t1, t2, i1, mixed, q1, q2, q3, q4, q5, q6] at hZ; subst hZ)); first | (with_reducible first | apply c_T | apply c_F | refine c_D (fun hz => ?_) (fun hz => ?_) | refine c_N (fun hz => ?_) (fun hz => ?_) | refine c_B (fun hz => ?_) (fun hz => ?_) | apply c_X) | (repeat1' (with_reducible first | apply q_nx | apply q_ret | apply q_exc | apply q_brk | apply q_cnt | apply l_nx | apply l_cnt | apply l_brk | apply l_ret | apply l_exc | apply f_nx | apply f_ret | apply f_exc)))))
  (all_goals first | with_reducible rfl | (simp [*]; done) | (exfalso; omega) | skip)
theorem rd (word : Str) (W : Wq word false false false true false false) (P : Part word) (k : Nat) (tl : Int) (h : Nat) (N : Nat) (v : Nat → List Int) (hk : 0 < k ∧ k ≤ 8) (ht : Amt tl) (hh : h < k) (hv : ∀ i, i < N → Chg k (v i)) : RD word (.tup [.int (k : Nat), .int tl, .int (h : Nat)]) ([(k : Int), tl, (h : Int)].map nS) (wyOb k tl) .ways N (fun i => tI (v i)) (fun i => (v i).map nS) := by
  unfold Amt at ht
  have nS3 : ∀ i ∈ [(k : Int), tl, (h : Int)], Num i := fun i hi => by
    simp only [List.mem_cons, List.not_mem_nil, or_false] at hi
    rcases hi with rfl | rfl | rfl <;> unfold Num <;> omega
  have nv : ∀ i, i < N → ∀ c ∈ v i, Num c := fun i hi c hc => num_am ((hv i hi).2 c hc)
  have lv : ∀ i, i < N → 0 < (v i).length ∧ (v i).length ≤ 8 := fun i hi => by rw [(hv i hi).1]; exact hk
  exact ⟨⟨P, .inr (.inr (.inr (.inr (.inl rfl))))⟩, parts_num _ nS3 (by simp), fun i hi => parts_num _ (nv i hi) (lv i hi), ⟨_, rfl⟩, fun H => ⟨_, r_sread word _ _ _ _ W [(k : Int), tl, (h : Int)] nS3 (by simp) (mf_ways word W) H _ (rule word W k tl h hk ht hh H)⟩, fun H => ⟨_, world word W k tl h hk ht hh H⟩, fun i H m hi em => r_wreadW word W (v i) (nv i hi) (lv i hi) m _ H em (r_wwish m k tl (v i) H em (hv i hi) hk.2), fun i _ => .inr (.inr ⟨_, rfl⟩), w_ints [(k : Int), tl, (h : Int)] nS3 (parts_num _ nS3 (by simp)), fun i H hi => w_ints (v i) (nv i hi) (parts_num _ (nv i hi) (lv i hi)) H, plain_ti [(k : Int), tl, (h : Int)] 3, fun i hi => plain_ti (v i) 2⟩
end Ch
end Pf
namespace Pf
open Lk
open PySem (Str)
namespace Ke
def stOb (k : Nat) : Ob := .ins .store [(.many, .int (k : Nat))]
theorem world (word : Str) (W : Wq word false false false false true false) (A : List Str) (rA : RowK A) (H : List Ob) : F_world_start [.str word, tS A] H = .ok (.v (.tup [.ref H.length, tS (sortS A)])) (H ++ [stOb A.length]) := by
  obtain ⟨q1, q2, q3, q4, q5, q6⟩ := W
  have lA : (A.map D.str).length = A.length := List.length_map _
  have so := sort_strsT A (by have := rA.1; omega)
  have i1 : F_Store___init__ [.ref H.length, .int (A.length : Nat)] (H ++ [.ins .store []]) = .ok (.v .non) (H ++ [stOb A.length]) := by
    have g : (H ++ [Ob.ins .store []])[H.length]? = some (.ins .store []) := by simp
    have s1 : ∀ y, (H ++ [Ob.ins .store []]).set H.length y = H ++ [y] := fun y => by simp
    unfold stOb
    unfold F_Store___init__; refine ws_fnE rfl ?_; unfold m_Store___init__; simp only [List.map_cons, List.map_nil, List.cons_append, List.nil_append, List.replicate]
    (repeat' ((try with_reducible apply ws_seq); first | (with_reducible first | apply ws_if_and | apply ws_if_or | apply ws_if_not | apply ws_ret_and | apply ws_ret_or | apply ws_ret_if | apply ws_set_and | apply ws_set_or | apply ws_set_if) | ((first | (with_reducible apply ws_next) | ((with_reducible first | refine ws_if fun rZ hZ => ?_ | refine ws_at fun rZ hZ => ?_); simp (disch := first | (simp; done) | assumption | omega | rfl | (simp; omega)) [mkFn,iIfS,iSeq,iOr,iAnd,iNot,iIf,iIsT,iVar,thenS,Rs.bind,Lk.hold,rdv,rdvs,isTy,isB,iRet,iChain,gLe,gLt,gGt,gGe,gCmp,retv,iNext,iC,op2,gAdd_i,gAdd_t,gAdd_l,gAdd_s,mulOk_b,dec_of,gSub,gMod,gDiv,iSet,iOwn,Lk.arg,Lk.args,Lk.pargs,Lk.settle,setv,iDrop,iTup,iLst,iB,rdvL,rdvLs,gLen,gList,gTuple,gMax,iCall,backR,ofRV,iMeth,lookM,iNew,iFld,iSetF,getF,putFl,gEq,gNe,gIs,notL,gIx,iNeg,iMut,mutTail,getL,putL,gApp,iDct,iHeap,noRef,noRefs,isFlat,tgN,tgT,tgs,iSl,pNo,pSome,gCut,iTgt,gPow,gMul,Lk.qE,iRaise,isSub,isKeyD,iSlS,iSetK,isTup,op2k, g, has, s1] at hZ; subst hZ)); first | (with_reducible first | apply c_T | apply c_F | refine c_D (fun hz => ?_) (fun hz => ?_) | refine c_N (fun hz => ?_) (fun hz => ?_) | refine c_B (fun hz => ?_) (fun hz => ?_) | apply c_X) | (repeat1' (with_reducible first | apply q_nx | apply q_ret | apply q_exc | apply q_brk | apply q_cnt | apply l_nx | apply l_cnt | apply l_brk | apply l_ret | apply l_exc | apply f_nx | apply f_ret | apply f_exc)))))
    (all_goals first | with_reducible rfl | (simp [*]; done) | (exfalso; omega) | skip)
  unfold tS at *
  generalize stOb A.length = O at *
  generalize (sortS A).map D.str = SB at *
  generalize A.map D.str = SA at *
  unfold F_world_start; refine ws_fnE rfl ?_; unfold m_world_start; simp only [List.map_cons, List.map_nil, List.cons_append, List.nil_append, List.replicate]
  (repeat' ((try with_reducible apply ws_seq); first | (with_reducible first | apply ws_if_and | apply ws_if_or | apply ws_if_not | apply ws_ret_and | apply ws_ret_or | apply ws_ret_if | apply ws_set_and | apply ws_set_or | apply ws_set_if) | ((first | (with_reducible apply ws_next) | ((with_reducible first | refine ws_if fun rZ hZ => ?_ | refine ws_at fun rZ hZ => ?_); simp (disch := first | (simp; done) | assumption | omega | rfl | (simp; omega)) [mkFn,iIfS,iSeq,iOr,iAnd,iNot,iIf,iIsT,iVar,thenS,Rs.bind,Lk.hold,rdv,rdvs,isTy,isB,iRet,iChain,gLe,gLt,gGt,gGe,gCmp,retv,iNext,iC,op2,gAdd_i,gAdd_t,gAdd_l,gAdd_s,mulOk_b,dec_of,gSub,gMod,gDiv,iSet,iOwn,Lk.arg,Lk.args,Lk.pargs,Lk.settle,setv,iDrop,iTup,iLst,iB,rdvL,rdvLs,gLen,gList,gTuple,gMax,iCall,backR,ofRV,iMeth,lookM,iNew,iFld,iSetF,getF,putFl,gEq,gNe,gIs,notL,gIx,iNeg,iMut,mutTail,getL,putL,gApp,iDct,iHeap,noRef,noRefs,isFlat,tgN,tgT,tgs,iSl,pNo,pSome,gCut,iTgt,gPow,gMul,Lk.qE,iRaise,isSub,isKeyD,iSlS,iSetK,isTup,op2k, lA, so, i1, mixed, q1, q2, q3, q4, q5, q6] at hZ; subst hZ)); first | (with_reducible first | apply c_T | apply c_F | refine c_D (fun hz => ?_) (fun hz => ?_) | refine c_N (fun hz => ?_) (fun hz => ?_) | refine c_B (fun hz => ?_) (fun hz => ?_) | apply c_X) | (repeat1' (with_reducible first | apply q_nx | apply q_ret | apply q_exc | apply q_brk | apply q_cnt | apply l_nx | apply l_cnt | apply l_brk | apply l_ret | apply l_exc | apply f_nx | apply f_ret | apply f_exc)))))
  (all_goals first | with_reducible rfl | (simp [*]; done) | (exfalso; omega) | skip)
theorem rd (word : Str) (W : Wq word false false false false true false) (P : Part word) (A : List Str) (N : Nat) (v : Nat → Str) (rA : RowK A) (hv : ∀ i, i < N → nameOk (v i)) : RD word (tS A) A (stOb A.length) .store N (fun i => .str (v i)) (fun i => [v i]) := by
  refine ⟨⟨P, .inr (.inr (.inr (.inr (.inr rfl))))⟩, parts_row rA, fun i hi => parts_one (part_name (hv i hi)), ⟨_, rfl⟩, fun H => ⟨[], by rw [List.append_nil]; exact r_sreadN word _ _ W (.inr rfl) A rA H⟩, fun H => ⟨_, world word W A rA H⟩, fun i H m hi em => ?_, fun i _ => .inr (.inl ⟨_, rfl⟩), w_strs A (parts_row rA), fun i H hi => w_str _ H, plain_ts A 3, fun i hi => rfl⟩
  have b := r_name (v i) (hv i hi) H
  have w : F_Store_is_wish [.ref m, .str (v i)] H = .ok (.v (.bl true)) H := by
    generalize v i = x at *
    simp [mkFn,iIfS,iSeq,iOr,iAnd,iNot,iIf,iIsT,iVar,thenS,Rs.bind,Lk.hold,rdv,rdvs,isTy,isB,iRet,iChain,gLe,gLt,gGt,gGe,gCmp,retv,iNext,iC,op2,gAdd_i,gAdd_t,gAdd_l,gAdd_s,mulOk_b,dec_of,gSub,gMod,gDiv,iSet,iOwn,Lk.arg,Lk.args,Lk.pargs,Lk.settle,setv,iDrop,iTup,iLst,iB,rdvL,rdvLs,gLen,gList,gTuple,gMax,iCall,backR,ofRV,iMeth,lookM,iNew,iFld,iSetF,getF,putFl,gEq,gNe,gIs,notL,gIx,iNeg,iMut,mutTail,getL,putL,gApp,iDct,iHeap,noRef,noRefs,isFlat,tgN,tgT,tgs,iSl,pNo,pSome,gCut,iTgt,gPow,gMul,Lk.qE,iRaise,isSub,isKeyD,iSlS,iSetK,isTup,op2k, F_Store_is_wish, m_Store_is_wish, b]
  exact r_wreadN word _ _ W (.inr ⟨rfl, rfl⟩) .store (.inr (.inr (.inr (.inr (.inr rfl))))) (v i) m _ H em w
end Ke
end Pf
namespace Pf
open Lk
open PySem (Str)
namespace Fi
abbrev tI (st : List Int) : D := .tup (st.map D.int)
def bgOb (R : Int) : Ob := .ins .bags [(.room, .int R)]
def fiOb (m j : Nat) (L : List Int) (tot R : Int) : Ob := .ins .filler [(.world, .ref m), (.now, tI (sortI L)), (.total, .int tot), (.room, .int R), (.opened, .ref j)]
theorem r_rinitD (n : Nat) (x y : D) (H : List Ob) (g1 : H[n]? = some (.ins .filler [])) : F_Rule___init__ [.ref n, x, y] H = .ok (.v .non) (H.set n (.ins .filler [(.world, x), (.now, y), (.total, .int 0)])) := by
  have gs := gset g1
  unfold F_Rule___init__; refine ws_fnE rfl ?_; unfold m_Rule___init__; simp only [List.map_cons, List.map_nil, List.cons_append, List.nil_append, List.replicate]
  (repeat' ((try with_reducible apply ws_seq); first | (with_reducible first | apply ws_if_and | apply ws_if_or | apply ws_if_not | apply ws_ret_and | apply ws_ret_or | apply ws_ret_if | apply ws_set_and | apply ws_set_or | apply ws_set_if) | ((first | (with_reducible apply ws_next) | ((with_reducible first | refine ws_if fun rZ hZ => ?_ | refine ws_at fun rZ hZ => ?_); simp (disch := first | (simp; done) | assumption | omega | rfl | (simp; omega)) [mkFn,iIfS,iSeq,iOr,iAnd,iNot,iIf,iIsT,iVar,thenS,Rs.bind,Lk.hold,rdv,rdvs,isTy,isB,iRet,iChain,gLe,gLt,gGt,gGe,gCmp,retv,iNext,iC,op2,gAdd_i,gAdd_t,gAdd_l,gAdd_s,mulOk_b,dec_of,gSub,gMod,gDiv,iSet,iOwn,Lk.arg,Lk.args,Lk.pargs,Lk.settle,setv,iDrop,iTup,iLst,iB,rdvL,rdvLs,gLen,gList,gTuple,gMax,iCall,backR,ofRV,iMeth,lookM,iNew,iFld,iSetF,getF,putFl,gEq,gNe,gIs,notL,gIx,iNeg,iMut,mutTail,getL,putL,gApp,iDct,iHeap,noRef,noRefs,isFlat,tgN,tgT,tgs,iSl,pNo,pSome,gCut,iTgt,gPow,gMul,Lk.qE,iRaise,isSub,isKeyD,iSlS,iSetK,isTup,op2k, g1, has, gs] at hZ; subst hZ)); first | (with_reducible first | apply c_T | apply c_F | refine c_D (fun hz => ?_) (fun hz => ?_) | refine c_N (fun hz => ?_) (fun hz => ?_) | refine c_B (fun hz => ?_) (fun hz => ?_) | apply c_X) | (repeat1' (with_reducible first | apply q_nx | apply q_ret | apply q_exc | apply q_brk | apply q_cnt | apply l_nx | apply l_cnt | apply l_brk | apply l_ret | apply l_exc | apply f_nx | apply f_ret | apply f_exc)))))
  (all_goals first | with_reducible rfl | (simp [*]; done) | (exfalso; omega) | skip)
theorem r_finit (n : Nat) (R : Int) (hp : List Ob) (hR : 1 ≤ R ∧ R ≤ 1000000000000000000) (e : hp[n]? = some (.ins .filler [])) :
    F_Filler___init__ [.ref n, .int R] hp = .ok (.v .non) (hp.set n (fiOb hp.length (hp.length + 1) [] 0 R) ++ [bgOb R, .lst []]) := by
  have hl : n < hp.length := (List.getElem?_eq_some_iff.mp e).1
  have b1 := r_is_between (.int R) 1 1000000000000000000 hp rfl
  rw [betw_i hR.1 hR.2] at b1
  have w1 : F_Bags___init__ [.ref hp.length, .int R] (hp ++ [.ins .bags []]) = .ok (.v .non) (hp ++ [bgOb R]) := by
    have g2 : ∀ x y : Ob, (hp ++ [x]).set hp.length y = hp ++ [y] := fun x y => by simp
    have g3 : ∀ x : Ob, (hp ++ [x])[hp.length]? = some x := fun x => by simp
    unfold bgOb
    unfold F_Bags___init__; refine ws_fnE rfl ?_; unfold m_Bags___init__; simp only [List.map_cons, List.map_nil, List.cons_append, List.nil_append, List.replicate]
    (repeat' ((try with_reducible apply ws_seq); first | (with_reducible first | apply ws_if_and | apply ws_if_or | apply ws_if_not | apply ws_ret_and | apply ws_ret_or | apply ws_ret_if | apply ws_set_and | apply ws_set_or | apply ws_set_if) | ((first | (with_reducible apply ws_next) | ((with_reducible first | refine ws_if fun rZ hZ => ?_ | refine ws_at fun rZ hZ => ?_); simp (disch := first | (simp; done) | assumption | omega | rfl | (simp; omega)) [mkFn,iIfS,iSeq,iOr,iAnd,iNot,iIf,iIsT,iVar,thenS,Rs.bind,Lk.hold,rdv,rdvs,isTy,isB,iRet,iChain,gLe,gLt,gGt,gGe,gCmp,retv,iNext,iC,op2,gAdd_i,gAdd_t,gAdd_l,gAdd_s,mulOk_b,dec_of,gSub,gMod,gDiv,iSet,iOwn,Lk.arg,Lk.args,Lk.pargs,Lk.settle,setv,iDrop,iTup,iLst,iB,rdvL,rdvLs,gLen,gList,gTuple,gMax,iCall,backR,ofRV,iMeth,lookM,iNew,iFld,iSetF,getF,putFl,gEq,gNe,gIs,notL,gIx,iNeg,iMut,mutTail,getL,putL,gApp,iDct,iHeap,noRef,noRefs,isFlat,tgN,tgT,tgs,iSl,pNo,pSome,gCut,iTgt,gPow,gMul,Lk.qE,iRaise,isSub,isKeyD,iSlS,iSetK,isTup,op2k, g3, g2, has] at hZ; subst hZ)); first | (with_reducible first | apply c_T | apply c_F | refine c_D (fun hz => ?_) (fun hz => ?_) | refine c_N (fun hz => ?_) (fun hz => ?_) | refine c_B (fun hz => ?_) (fun hz => ?_) | apply c_X) | (repeat1' (with_reducible first | apply q_nx | apply q_ret | apply q_exc | apply q_brk | apply q_cnt | apply l_nx | apply l_cnt | apply l_brk | apply l_ret | apply l_exc | apply f_nx | apply f_ret | apply f_exc)))))
    (all_goals first | with_reducible rfl | (simp [*]; done) | (exfalso; omega) | skip)
  have w2 : F_Rule___init__ [.ref n, .ref hp.length, .tup []] (hp ++ [bgOb R]) = .ok (.v .non) (hp.set n (.ins .filler [(.world, .ref hp.length), (.now, .tup []), (.total, .int 0)]) ++ [bgOb R]) := by
    have g1 : (hp ++ [bgOb R])[n]? = some (.ins .filler []) := by rw [get_app _ _ _ hl]; exact e
    rw [r_rinitD n _ _ _ g1, set_app _ _ _ _ hl]
  have g3 : ∀ (y : Ob) (r : List Ob), (hp.set n y ++ r)[n]? = some y := fun y r => by rw [get_app _ _ _ (by simpa using hl)]; exact gset e y
  have g4 : ∀ (x y : Ob) (r : List Ob), (hp.set n x ++ r).set n y = hp.set n y ++ r := fun x y r => by rw [set_app _ _ _ _ (by simpa using hl)]; simp
  have s0 : sortI [] = [] := by simp [sortI]
  unfold fiOb tI
  rw [s0]
  generalize bgOb R = W at *
  unfold F_Filler___init__; refine ws_fnE rfl ?_; unfold m_Filler___init__; simp only [List.map_cons, List.map_nil, List.cons_append, List.nil_append, List.replicate]
  (repeat' ((try with_reducible apply ws_seq); first | (with_reducible first | apply ws_if_and | apply ws_if_or | apply ws_if_not | apply ws_ret_and | apply ws_ret_or | apply ws_ret_if | apply ws_set_and | apply ws_set_or | apply ws_set_if) | ((first | (with_reducible apply ws_next) | ((with_reducible first | refine ws_if fun rZ hZ => ?_ | refine ws_at fun rZ hZ => ?_); simp (disch := first | (simp; done) | assumption | omega | rfl | (simp; omega)) [mkFn,iIfS,iSeq,iOr,iAnd,iNot,iIf,iIsT,iVar,thenS,Rs.bind,Lk.hold,rdv,rdvs,isTy,isB,iRet,iChain,gLe,gLt,gGt,gGe,gCmp,retv,iNext,iC,op2,gAdd_i,gAdd_t,gAdd_l,gAdd_s,mulOk_b,dec_of,gSub,gMod,gDiv,iSet,iOwn,Lk.arg,Lk.args,Lk.pargs,Lk.settle,setv,iDrop,iTup,iLst,iB,rdvL,rdvLs,gLen,gList,gTuple,gMax,iCall,backR,ofRV,iMeth,lookM,iNew,iFld,iSetF,getF,putFl,gEq,gNe,gIs,notL,gIx,iNeg,iMut,mutTail,getL,putL,gApp,iDct,iHeap,noRef,noRefs,isFlat,tgN,tgT,tgs,iSl,pNo,pSome,gCut,iTgt,gPow,gMul,Lk.qE,iRaise,isSub,isKeyD,iSlS,iSetK,isTup,op2k, b1, w1, w2, g3, g4, has] at hZ; subst hZ)); first | (with_reducible first | apply c_T | apply c_F | refine c_D (fun hz => ?_) (fun hz => ?_) | refine c_N (fun hz => ?_) (fun hz => ?_) | refine c_B (fun hz => ?_) (fun hz => ?_) | apply c_X) | (repeat1' (with_reducible first | apply q_nx | apply q_ret | apply q_exc | apply q_brk | apply q_cnt | apply l_nx | apply l_cnt | apply l_brk | apply l_ret | apply l_exc | apply f_nx | apply f_ret | apply f_exc)))))
  (all_goals first | with_reducible rfl | (simp [*]; done) | (exfalso; omega) | skip)
theorem rule (word : Str) (W : Wq word false false false false false true) (R : Int) (hR : 1 ≤ R ∧ R ≤ 1000000000000000000) (H : List Ob) : F_rule_of [.str word, .tup [.int R]] H = .ok (.v (.ref H.length)) (H ++ [fiOb (H.length + 1) (H.length + 1 + 1) [] 0 R, bgOb R, .lst []]) := by
  obtain ⟨q1, q2, q3, q4, q5, q6⟩ := W
  have i1 := r_finit H.length R (H ++ [.ins .filler []]) hR (by simp)
  have l1 : (H ++ [Ob.ins .filler []]).length = H.length + 1 := by simp
  have s1 : ∀ y, (H ++ [Ob.ins .filler []]).set H.length y = H ++ [y] := fun y => by simp
  rw [l1, s1] at i1
  have e : H ++ [fiOb (H.length + 1) (H.length + 1 + 1) [] 0 R] ++ [bgOb R, .lst []] = H ++ [fiOb (H.length + 1) (H.length + 1 + 1) [] 0 R, bgOb R, .lst []] := by simp
  rw [e] at i1
  have t0 : L2.atI [D.int R] 0 = some (.int R) := rfl
  generalize H ++ [fiOb (H.length + 1) (H.length + 1 + 1) [] 0 R, bgOb R, .lst []] = H2 at *
  unfold F_rule_of; refine ws_fnE rfl ?_; unfold m_rule_of; simp only [List.map_cons, List.map_nil, List.cons_append, List.nil_append, List.replicate]
  (repeat' ((try with_reducible apply ws_seq); first | (with_reducible first | apply ws_if_and | apply ws_if_or | apply ws_if_not | apply ws_ret_and | apply ws_ret_or | apply ws_ret_if | apply ws_set_and | apply ws_set_or | apply ws_set_if) | ((first | (with_reducible apply ws_next) | ((with_reducible first | refine ws_if fun rZ hZ => ?_ | refine ws_at fun rZ hZ => ?_); simp (disch := first | (simp; done) | assumption | omega | rfl | (simp; omega)) [mkFn,iIfS,iSeq,iOr,iAnd,iNot,iIf,iIsT,iVar,thenS,Rs.bind,Lk.hold,rdv,rdvs,isTy,isB,iRet,iChain,gLe,gLt,gGt,gGe,gCmp,retv,iNext,iC,op2,gAdd_i,gAdd_t,gAdd_l,gAdd_s,mulOk_b,dec_of,gSub,gMod,gDiv,iSet,iOwn,Lk.arg,Lk.args,Lk.pargs,Lk.settle,setv,iDrop,iTup,iLst,iB,rdvL,rdvLs,gLen,gList,gTuple,gMax,iCall,backR,ofRV,iMeth,lookM,iNew,iFld,iSetF,getF,putFl,gEq,gNe,gIs,notL,gIx,iNeg,iMut,mutTail,getL,putL,gApp,iDct,iHeap,noRef,noRefs,isFlat,tgN,tgT,tgs,iSl,pNo,pSome,gCut,iTgt,gPow,gMul,Lk.qE,iRaise,isSub,isKeyD,iSlS,iSetK,isTup,op2k, t0, i1, mixed, q1, q2, q3, q4, q5, q6] at hZ; subst hZ)); first | (with_reducible first | apply c_T | apply c_F | refine c_D (fun hz => ?_) (fun hz => ?_) | refine c_N (fun hz => ?_) (fun hz => ?_) | refine c_B (fun hz => ?_) (fun hz => ?_) | apply c_X) | (repeat1' (with_reducible first | apply q_nx | apply q_ret | apply q_exc | apply q_brk | apply q_cnt | apply l_nx | apply l_cnt | apply l_brk | apply l_ret | apply l_exc | apply f_nx | apply f_ret | apply f_exc)))))
  (all_goals first | with_reducible rfl | (simp [*]; done) | (exfalso; omega) | skip)
theorem world (word : Str) (W : Wq word false false false false false true) (R : Int) (hR : 1 ≤ R ∧ R ≤ 1000000000000000000) (H : List Ob) : F_world_start [.str word, .tup [.int R]] H = .ok (.v (.tup [.ref H.length, .tup []])) (H ++ [bgOb R]) := by
  obtain ⟨q1, q2, q3, q4, q5, q6⟩ := W
  have t0 : L2.atI [D.int R] 0 = some (.int R) := rfl
  have i1 : F_Bags___init__ [.ref H.length, .int R] (H ++ [.ins .bags []]) = .ok (.v .non) (H ++ [bgOb R]) := by
    have g : (H ++ [Ob.ins .bags []])[H.length]? = some (.ins .bags []) := by simp
    have s1 : ∀ y, (H ++ [Ob.ins .bags []]).set H.length y = H ++ [y] := fun y => by simp
    unfold bgOb
    unfold F_Bags___init__; refine ws_fnE rfl ?_; unfold m_Bags___init__; simp only [List.map_cons, List.map_nil, List.cons_append, List.nil_append, List.replicate]
    (repeat' ((try with_reducible apply ws_seq); first | (with_reducible first | apply ws_if_and | apply ws_if_or | apply ws_if_not | apply ws_ret_and | apply ws_ret_or | apply ws_ret_if | apply ws_set_and | apply ws_set_or | apply ws_set_if) | ((first | (with_reducible apply ws_next) | ((with_reducible first | refine ws_if fun rZ hZ => ?_ | refine ws_at fun rZ hZ => ?_); simp (disch := first | (simp; done) | assumption | omega | rfl | (simp; omega)) [mkFn,iIfS,iSeq,iOr,iAnd,iNot,iIf,iIsT,iVar,thenS,Rs.bind,Lk.hold,rdv,rdvs,isTy,isB,iRet,iChain,gLe,gLt,gGt,gGe,gCmp,retv,iNext,iC,op2,gAdd_i,gAdd_t,gAdd_l,gAdd_s,mulOk_b,dec_of,gSub,gMod,gDiv,iSet,iOwn,Lk.arg,Lk.args,Lk.pargs,Lk.settle,setv,iDrop,iTup,iLst,iB,rdvL,rdvLs,gLen,gList,gTuple,gMax,iCall,backR,ofRV,iMeth,lookM,iNew,iFld,iSetF,getF,putFl,gEq,gNe,gIs,notL,gIx,iNeg,iMut,mutTail,getL,putL,gApp,iDct,iHeap,noRef,noRefs,isFlat,tgN,tgT,tgs,iSl,pNo,pSome,gCut,iTgt,gPow,gMul,Lk.qE,iRaise,isSub,isKeyD,iSlS,iSetK,isTup,op2k, g, has, s1] at hZ; subst hZ)); first | (with_reducible first | apply c_T | apply c_F | refine c_D (fun hz => ?_) (fun hz => ?_) | refine c_N (fun hz => ?_) (fun hz => ?_) | refine c_B (fun hz => ?_) (fun hz => ?_) | apply c_X) | (repeat1' (with_reducible first | apply q_nx | apply q_ret | apply q_exc | apply q_brk | apply q_cnt | apply l_nx | apply l_cnt | apply l_brk | apply l_ret | apply l_exc | apply f_nx | apply f_ret | apply f_exc)))))
    (all_goals first | with_reducible rfl | (simp [*]; done) | (exfalso; omega) | skip)
  generalize bgOb R = O at *
  unfold F_world_start; refine ws_fnE rfl ?_; unfold m_world_start; simp only [List.map_cons, List.map_nil, List.cons_append, List.nil_append, List.replicate]
  (repeat' ((try with_reducible apply ws_seq); first | (with_reducible first | apply ws_if_and | apply ws_if_or | apply ws_if_not | apply ws_ret_and | apply ws_ret_or | apply ws_ret_if | apply ws_set_and | apply ws_set_or | apply ws_set_if) | ((first | (with_reducible apply ws_next) | ((with_reducible first | refine ws_if fun rZ hZ => ?_ | refine ws_at fun rZ hZ => ?_); simp (disch := first | (simp; done) | assumption | omega | rfl | (simp; omega)) [mkFn,iIfS,iSeq,iOr,iAnd,iNot,iIf,iIsT,iVar,thenS,Rs.bind,Lk.hold,rdv,rdvs,isTy,isB,iRet,iChain,gLe,gLt,gGt,gGe,gCmp,retv,iNext,iC,op2,gAdd_i,gAdd_t,gAdd_l,gAdd_s,mulOk_b,dec_of,gSub,gMod,gDiv,iSet,iOwn,Lk.arg,Lk.args,Lk.pargs,Lk.settle,setv,iDrop,iTup,iLst,iB,rdvL,rdvLs,gLen,gList,gTuple,gMax,iCall,backR,ofRV,iMeth,lookM,iNew,iFld,iSetF,getF,putFl,gEq,gNe,gIs,notL,gIx,iNeg,iMut,mutTail,getL,putL,gApp,iDct,iHeap,noRef,noRefs,isFlat,tgN,tgT,tgs,iSl,pNo,pSome,gCut,iTgt,gPow,gMul,Lk.qE,iRaise,isSub,isKeyD,iSlS,iSetK,isTup,op2k, t0, i1, mixed, q1, q2, q3, q4, q5, q6] at hZ; subst hZ)); first | (with_reducible first | apply c_T | apply c_F | refine c_D (fun hz => ?_) (fun hz => ?_) | refine c_N (fun hz => ?_) (fun hz => ?_) | refine c_B (fun hz => ?_) (fun hz => ?_) | apply c_X) | (repeat1' (with_reducible first | apply q_nx | apply q_ret | apply q_exc | apply q_brk | apply q_cnt | apply l_nx | apply l_cnt | apply l_brk | apply l_ret | apply l_exc | apply f_nx | apply f_ret | apply f_exc)))))
  (all_goals first | with_reducible rfl | (simp [*]; done) | (exfalso; omega) | skip)
theorem r_fwish (m : Nat) (R : Int) (d : D) (H : List Ob) (em : H[m]? = some (bgOb R)) (hd : okD d = true) : F_Bags_is_wish [.ref m, d] H = .ok (.v (.bl (betw d 1 R))) H := by
  have b := r_is_between d 1 R H hd
  unfold bgOb at em
  simp [mkFn,iIfS,iSeq,iOr,iAnd,iNot,iIf,iIsT,iVar,thenS,Rs.bind,Lk.hold,rdv,rdvs,isTy,isB,iRet,iChain,gLe,gLt,gGt,gGe,gCmp,retv,iNext,iC,op2,gAdd_i,gAdd_t,gAdd_l,gAdd_s,mulOk_b,dec_of,gSub,gMod,gDiv,iSet,iOwn,Lk.arg,Lk.args,Lk.pargs,Lk.settle,setv,iDrop,iTup,iLst,iB,rdvL,rdvLs,gLen,gList,gTuple,gMax,iCall,backR,ofRV,iMeth,lookM,iNew,iFld,iSetF,getF,putFl,gEq,gNe,gIs,notL,gIx,iNeg,iMut,mutTail,getL,putL,gApp,iDct,iHeap,noRef,noRefs,isFlat,tgN,tgT,tgs,iSl,pNo,pSome,gCut,iTgt,gPow,gMul,Lk.qE,iRaise,isSub,isKeyD,iSlS,iSetK,isTup,op2k, F_Bags_is_wish, m_Bags_is_wish, em, has, b]
theorem rd (word : Str) (W : Wq word false false false false false true) (P : Part word) (R : Int) (N : Nat) (v : Nat → Int) (hR : 1 ≤ R ∧ R ≤ 1000000000000000000) (hv : ∀ i, i < N → 1 ≤ v i ∧ v i ≤ R) : RD word (.tup [.int R]) ([R].map nS) (bgOb R) .bags N (fun i => .int (v i)) (fun i => [nS (v i)]) := by
  have nR : ∀ i ∈ [R], Num i := fun i hi => by rw [List.mem_singleton.mp hi]; exact num_am (by omega)
  have nv : ∀ i, i < N → Num (v i) := fun i hi => num_am (by have := hv i hi; omega)
  refine ⟨⟨P, .inl rfl⟩, parts_num [R] nR (by simp), fun i hi => parts_one (nS_part _ (nv i hi)), ⟨_, rfl⟩, fun H => ⟨_, r_sread word _ _ _ _ W [R] nR (by simp) (mf_bags word W) H _ (rule word W R hR H)⟩, fun H => ⟨_, world word W R hR H⟩, fun i H m hi em => ?_, fun i _ => .inl ⟨_, rfl⟩, w_ints [R] nR (parts_num [R] nR (by simp)), fun i H hi => w_num _ (nv i hi) H, rfl, fun i hi => rfl⟩
  have w := r_fwish m R (.int (v i)) H em rfl
  rw [betw_i (hv i hi).1 (hv i hi).2] at w
  exact r_wread1 word _ _ _ W .bags (.inl rfl) (v i) (nv i hi) m _ H em w
end Fi
end Pf
namespace Pf
open Lk
open PySem (Str)
def amtI (c k : Int) : Int :=
  if mixI c k % 4 < 2 then mixI c k / 4 % 30
  else if mixI c k % 4 = 2 then (if mixI c k / 4 % 4 = 0 then 1000000000000000000 else if mixI c k / 4 % 4 = 1 then 999999999999999999 else if mixI c k / 4 % 4 = 2 then 0 else 1)
  else (c + mixI c k) * 948273388530662767682822077 % 1000000000000000001
theorem amt_b (c k : Int) : 0 ≤ amtI c k ∧ amtI c k ≤ 1000000000000000000 := by
  unfold amtI
  have := mix_b c k
  have a := Int.emod_nonneg ((c + mixI c k) * 948273388530662767682822077) (show (1000000000000000001 : Int) ≠ 0 by decide)
  have b := Int.emod_lt_of_pos ((c + mixI c k) * 948273388530662767682822077) (show (0 : Int) < 1000000000000000001 by decide)
  repeat' split
  all_goals omega
theorem r_amt (c k : Int) (hc : Bits 1048577 c) (h0 : 0 ≤ k) (hk : k < 1000000) (hp : List Ob) : F__law_amount [.int c, .int k] hp = .ok (.v (.int (amtI c k))) hp := by
  have hb := mix_b c k
  have hm := r_mixed c k h0 hk
  have h1 : mulOk (c + mixI c k) 948273388530662767682822077 = true := by
    refine mulOk_of (k := 1048578) (l := 100) (Bits.add hc (Bits.mono (j := 31) ?_ (by decide))) ?_ (by decide)
    · unfold Bits; omega
    · unfold Bits; decide
  unfold F__law_amount; refine ws_fnE rfl ?_; unfold m__law_amount; simp only [List.map_cons, List.map_nil, List.cons_append, List.nil_append, List.replicate]
  unfold amtI
  (repeat' ((try with_reducible apply ws_seq); first | (with_reducible first | apply ws_if_and | apply ws_if_or | apply ws_if_not | apply ws_ret_and | apply ws_ret_or | apply ws_ret_if | apply ws_set_and | apply ws_set_or | apply ws_set_if) | ((first | (with_reducible apply ws_next) | ((with_reducible first | refine ws_if fun rZ hZ => ?_ | refine ws_at fun rZ hZ => ?_); simp (disch := first | (simp; done) | assumption | omega | rfl | (simp; omega)) [mkFn,iIfS,iSeq,iOr,iAnd,iNot,iIf,iIsT,iVar,thenS,Rs.bind,Lk.hold,rdv,rdvs,isTy,isB,iRet,iChain,gLe,gLt,gGt,gGe,gCmp,retv,iNext,iC,op2,gAdd_i,gAdd_t,gAdd_l,gAdd_s,mulOk_b,dec_of,gSub,gMod,gDiv,iSet,iOwn,Lk.arg,Lk.args,Lk.pargs,Lk.settle,setv,iDrop,iTup,iLst,iB,rdvL,rdvLs,gLen,gList,gTuple,gMax,iCall,backR,ofRV,iMeth,lookM,iNew,iFld,iSetF,getF,putFl,gEq,gNe,gIs,notL,gIx,iNeg,iMut,mutTail,getL,putL,gApp,iDct,iHeap,noRef,noRefs,isFlat,tgN,tgT,tgs,iSl,pNo,pSome,gCut,iTgt,gPow,gMul,Lk.qE,iRaise,isSub,isKeyD,iSlS,iSetK,isTup,op2k, hm, h1] at hZ; subst hZ)); first | (with_reducible first | apply c_T | apply c_F | refine c_D (fun hz => ?_) (fun hz => ?_) | refine c_N (fun hz => ?_) (fun hz => ?_) | refine c_B (fun hz => ?_) (fun hz => ?_) | apply c_X) | (repeat1' (with_reducible first | apply q_nx | apply q_ret | apply q_exc | apply q_brk | apply q_cnt | apply l_nx | apply l_cnt | apply l_brk | apply l_ret | apply l_exc | apply f_nx | apply f_ret | apply f_exc)))))
  (all_goals first | with_reducible rfl | (simp [*]; done) | (exfalso; omega) | skip)
  · have q : mixI c k / 4 % 4 = 0 ∨ mixI c k / 4 % 4 = 1 ∨ mixI c k / 4 % 4 = 2 ∨ mixI c k / 4 % 4 = 3 := by omega
    rcases q with q | q | q | q <;> ((try with_reducible apply ws_seq); first | (with_reducible first | apply ws_if_and | apply ws_if_or | apply ws_if_not | apply ws_ret_and | apply ws_ret_or | apply ws_ret_if | apply ws_set_and | apply ws_set_or | apply ws_set_if) | ((first | (with_reducible apply ws_next) | ((with_reducible first | refine ws_if fun rZ hZ => ?_ | refine ws_at fun rZ hZ => ?_); simp (disch := first | (simp; done) | assumption | omega | rfl | (simp; omega)) [mkFn,iIfS,iSeq,iOr,iAnd,iNot,iIf,iIsT,iVar,thenS,Rs.bind,Lk.hold,rdv,rdvs,isTy,isB,iRet,iChain,gLe,gLt,gGt,gGe,gCmp,retv,iNext,iC,op2,gAdd_i,gAdd_t,gAdd_l,gAdd_s,mulOk_b,dec_of,gSub,gMod,gDiv,iSet,iOwn,Lk.arg,Lk.args,Lk.pargs,Lk.settle,setv,iDrop,iTup,iLst,iB,rdvL,rdvLs,gLen,gList,gTuple,gMax,iCall,backR,ofRV,iMeth,lookM,iNew,iFld,iSetF,getF,putFl,gEq,gNe,gIs,notL,gIx,iNeg,iMut,mutTail,getL,putL,gApp,iDct,iHeap,noRef,noRefs,isFlat,tgN,tgT,tgs,iSl,pNo,pSome,gCut,iTgt,gPow,gMul,Lk.qE,iRaise,isSub,isKeyD,iSlS,iSetK,isTup,op2k, q, L2.atI, L2.ixN] at hZ; subst hZ)); first | (with_reducible first | apply c_T | apply c_F | refine c_D (fun hz => ?_) (fun hz => ?_) | refine c_N (fun hz => ?_) (fun hz => ?_) | refine c_B (fun hz => ?_) (fun hz => ?_) | apply c_X) | (repeat1' (with_reducible first | apply q_nx | apply q_ret | apply q_exc | apply q_brk | apply q_cnt | apply l_nx | apply l_cnt | apply l_brk | apply l_ret | apply l_exc | apply f_nx | apply f_ret | apply f_exc)))) <;> simp [*]
def placeI (c k : Int) : Int := amtI c k * (1 - 2 * (mixI c (k + 7) / 8 % 2))
theorem place_b (c k : Int) : Bo.Place (placeI c k) := by
  have a := amt_b c k
  unfold placeI Bo.Place
  have q : mixI c (k + 7) / 8 % 2 = 0 ∨ mixI c (k + 7) / 8 % 2 = 1 := by omega
  rcases q with q | q <;> rw [q] <;> omega
theorem r_place (c k : Int) (hc : Bits 1048577 c) (h0 : 0 ≤ k) (hk : k < 900000) (hp : List Ob) : F__law_place [.int c, .int k] hp = .ok (.v (.int (placeI c k))) hp := by
  have a := amt_b c k
  have ra := r_amt c k hc h0 (by omega) hp
  have hm := r_mixed c (k + 7) (by omega) (by omega) hp
  have m1 : mulOk 2 (mixI c (k + 7) / 8 % 2) = true := mulOk_b (by omega) (by omega) (by omega) (by omega)
  have m2 : mulOk (amtI c k) (1 - 2 * (mixI c (k + 7) / 8 % 2)) = true := mulOk_b (by omega) (by omega) (by omega) (by omega)
  unfold placeI
  generalize amtI c k = A at *
  generalize mixI c (k + 7) = M at *
  unfold F__law_place; refine ws_fnE rfl ?_; unfold m__law_place; simp only [List.map_cons, List.map_nil, List.cons_append, List.nil_append, List.replicate]
  (repeat' ((try with_reducible apply ws_seq); first | (with_reducible first | apply ws_if_and | apply ws_if_or | apply ws_if_not | apply ws_ret_and | apply ws_ret_or | apply ws_ret_if | apply ws_set_and | apply ws_set_or | apply ws_set_if) | ((first | (with_reducible apply ws_next) | ((with_reducible first | refine ws_if fun rZ hZ => ?_ | refine ws_at fun rZ hZ => ?_); simp (disch := first | (simp; done) | assumption | omega | rfl | (simp; omega)) [mkFn,iIfS,iSeq,iOr,iAnd,iNot,iIf,iIsT,iVar,thenS,Rs.bind,Lk.hold,rdv,rdvs,isTy,isB,iRet,iChain,gLe,gLt,gGt,gGe,gCmp,retv,iNext,iC,op2,gAdd_i,gAdd_t,gAdd_l,gAdd_s,mulOk_b,dec_of,gSub,gMod,gDiv,iSet,iOwn,Lk.arg,Lk.args,Lk.pargs,Lk.settle,setv,iDrop,iTup,iLst,iB,rdvL,rdvLs,gLen,gList,gTuple,gMax,iCall,backR,ofRV,iMeth,lookM,iNew,iFld,iSetF,getF,putFl,gEq,gNe,gIs,notL,gIx,iNeg,iMut,mutTail,getL,putL,gApp,iDct,iHeap,noRef,noRefs,isFlat,tgN,tgT,tgs,iSl,pNo,pSome,gCut,iTgt,gPow,gMul,Lk.qE,iRaise,isSub,isKeyD,iSlS,iSetK,isTup,op2k, ra, hm, m1, m2] at hZ; subst hZ)); first | (with_reducible first | apply c_T | apply c_F | refine c_D (fun hz => ?_) (fun hz => ?_) | refine c_N (fun hz => ?_) (fun hz => ?_) | refine c_B (fun hz => ?_) (fun hz => ?_) | apply c_X) | (repeat1' (with_reducible first | apply q_nx | apply q_ret | apply q_exc | apply q_brk | apply q_cnt | apply l_nx | apply l_cnt | apply l_brk | apply l_ret | apply l_exc | apply f_nx | apply f_ret | apply f_exc)))))
  (all_goals first | with_reducible rfl | (simp [*]; done) | (exfalso; omega) | skip)
def baseS (x : Int) : Str := if x % 4 = 0 then "abcdefgh" else if x % 4 = 1 then "stopstop" else if x % 4 = 2 then "zyxwvuts" else "aaaaaaaa"
theorem base_ok (x : Int) : (baseS x).length = 8 ∧ ∀ c ∈ (baseS x).cps.toList, 97 ≤ c ∧ c ≤ 122 := by
  unfold baseS
  repeat' split
  all_goals exact ⟨by decide +kernel, by decide +kernel⟩
theorem cut_hd (z : Str) (k : Nat) (h : k ≤ z.length) : (L2.cutS z none (some (k : Int))).cps.toList = z.cps.toList.take k := by
  show (((z.cps.toList.drop (HT.sIx z.length 0 none)).take (HT.sIx z.length z.length (some (k : Int)) - HT.sIx z.length 0 none)).toArray).toList = _
  rw [HT.sIx_none, HT.sIx_nat, Nat.min_eq_left h]
  simp
theorem cut_tl (z : Str) (k : Nat) (h : k ≤ z.length) : (L2.cutS z (some (k : Int)) none).cps.toList = z.cps.toList.drop k := by
  show (((z.cps.toList.drop (HT.sIx z.length 0 (some (k : Int)))).take (HT.sIx z.length z.length none - HT.sIx z.length 0 (some (k : Int)))).toArray).toList = _
  rw [HT.sIx_none, HT.sIx_nat, Nat.min_eq_left h]
  have e : z.length = z.cps.toList.length := by simp [Str.length]
  rw [List.take_of_length_le (by rw [List.length_drop, e]; exact Nat.le_refl _)]
def stemS (x : Int) : Str := L2.cutS (baseS x) none (some (1 + x / 4 % 8))
theorem len_list (z : Str) : z.length = z.cps.toList.length := by simp [Str.length]
theorem stem_ok (x : Int) : ((stemS x).length : Int) = 1 + x / 4 % 8 ∧ ∀ c ∈ (stemS x).cps.toList, 97 ≤ c ∧ c ≤ 122 := by
  obtain ⟨b1, b2⟩ := base_ok x
  obtain ⟨m, hm⟩ := Int.eq_ofNat_of_zero_le (show (0 : Int) ≤ 1 + x / 4 % 8 by omega)
  have e : (stemS x).cps.toList = (baseS x).cps.toList.take m := by
    unfold stemS
    rw [hm]
    exact cut_hd _ m (by omega)
  have l8 := len_list (baseS x)
  refine ⟨?_, fun c hc => b2 c (List.mem_of_mem_take (by rw [← e]; exact hc))⟩
  rw [len_list, e, List.length_take, hm]
  omega
def nmL (x : Int) (j : Nat) : Nat := ltr ((x / 256 + 3 * (j : Int)) % 26)
def nmS (x : Int) (j : Nat) : Str := L2.cutS (stemS x) none (some (x / 32 % (stemS x).length)) ++ ⟨#[nmL x j]⟩ ++ L2.cutS (stemS x) (some (x / 32 % (stemS x).length + 1)) none
theorem nmS_list (x : Int) (j : Nat) : ∃ a : Nat, x / 32 % (stemS x).length = (a : Int) ∧ a < (stemS x).length ∧ (nmS x j).cps.toList = (stemS x).cps.toList.take a ++ [nmL x j] ++ (stemS x).cps.toList.drop (a + 1) := by
  have l := (stem_ok x).1
  have h0 := Int.emod_nonneg (x / 32) (show ((stemS x).length : Int) ≠ 0 by omega)
  have h1 := Int.emod_lt_of_pos (x / 32) (show (0 : Int) < ((stemS x).length : Int) by omega)
  obtain ⟨a, ha⟩ := Int.eq_ofNat_of_zero_le h0
  refine ⟨a, ha, by omega, ?_⟩
  show ((L2.cutS (stemS x) none (some (x / 32 % (stemS x).length))).cps ++ #[nmL x j] ++ (L2.cutS (stemS x) (some (x / 32 % (stemS x).length + 1)) none).cps).toList = _
  rw [Array.toList_append, Array.toList_append, ha, cut_hd _ a (by omega), show ((a : Nat) : Int) + 1 = ((a + 1 : Nat) : Int) by omega, cut_tl _ (a + 1) (by omega)]
theorem nmL_ok (x : Int) (j : Nat) : 97 ≤ nmL x j ∧ nmL x j ≤ 122 := ltr_ok (by omega)
theorem nmS_ok (x : Int) (j : Nat) : nameOk (nmS x j) := by
  obtain ⟨a, _, ha, e⟩ := nmS_list x j
  obtain ⟨l, ok⟩ := stem_ok x
  have ls := len_list (stemS x)
  refine ⟨?_, fun c hc => ?_⟩
  · rw [len_list, e]
    simp only [List.length_append, List.length_take, List.length_drop, List.length_cons, List.length_nil]
    omega
  · rw [e] at hc
    rcases List.mem_append.mp hc with q | q
    · rcases List.mem_append.mp q with q | q
      · exact ok c (List.mem_of_mem_take q)
      · rw [List.mem_singleton.mp q]; exact nmL_ok x j
    · exact ok c (List.mem_of_mem_drop q)
theorem nmS_at (x : Int) (j a : Nat) (W : List Nat) (h : a < W.length) : (W.take a ++ [nmL x j] ++ W.drop (a + 1))[a]? = some (nmL x j) := by
  rw [List.getElem?_append_left (by simp; omega), List.getElem?_append_right (by simp; omega)]
  rw [List.length_take, Nat.min_eq_left (by omega), Nat.sub_self]
  rfl
theorem nmS_inj (x : Int) (j k : Nat) (hj : j < 8) (hk : k < 8) (e : nmS x j = nmS x k) : j = k := by
  obtain ⟨a, ea, ha, e1⟩ := nmS_list x j
  obtain ⟨b, eb, hb, e2⟩ := nmS_list x k
  have ab : a = b := by omega
  subst ab
  rw [e, e2] at e1
  have lw := len_list (stemS x)
  have q1 := nmS_at x j a (stemS x).cps.toList (by omega)
  have q2 := nmS_at x k a (stemS x).cps.toList (by omega)
  rw [← e1, q2] at q1
  have q := ltr_inj (by omega) (by omega) (Option.some.inj q1)
  omega
def nmsI (x : Int) (n : Nat) : List Str := (List.range n).map (nmS x)
theorem nms_ok (x : Int) (n : Nat) (hn : n ≤ 8) : (nmsI x n).length = n ∧ (∀ y ∈ nmsI x n, nameOk y) ∧ (nmsI x n).Nodup := by
  refine ⟨by simp [nmsI], fun y hy => ?_, ?_⟩
  · obtain ⟨k, hk, rfl⟩ := List.mem_map.mp hy
    exact nmS_ok x k
  · unfold nmsI
    rw [List.nodup_iff_pairwise_ne, List.pairwise_map]
    refine List.Pairwise.imp_of_mem (R := (· < ·)) (fun {a b} ha hb hab e => ?_) List.pairwise_lt_range
    have := nmS_inj x a b (by have := List.mem_range.mp ha; omega) (by have := List.mem_range.mp hb; omega) e
    omega
theorem r_lnames (x : Int) (n : Nat) (hx : 0 ≤ x) (hn : n ≤ 8) (hp : List Ob) : F__law_names [.int x, .int (n : Nat)] hp = .ok (.fr ((nmsI x n).map D.str)) hp := by
  have al := abc_len
  unfold abc at al
  have eb : L2.atI [D.str "abcdefgh", .str "stopstop", .str "zyxwvuts", .str "aaaaaaaa"] (x % 4) = some (.str (baseS x)) := by
    have q : x % 4 = 0 ∨ x % 4 = 1 ∨ x % 4 = 2 ∨ x % 4 = 3 := by omega
    unfold baseS
    rcases q with q | q | q | q <;> rw [q] <;> rfl
  have k0 : gCutS (.str (baseS x)) none (some (1 + x / 4 % 8)) = some (.w (.str (stemS x))) := by
    have := (base_ok x).1
    show (if (baseS x).length ≤ 1000000 then _ else _) = _
    rw [if_pos (by omega)]; rfl
  have sl := (stem_ok x).1
  have s0 : (0 : Int) < (stemS x).length := by omega
  have s1 : ((stemS x).length : Int) ≠ 0 := by omega
  have s2 : ((stemS x).length : Int) < 1606938044258990275541962092341162602522202993782792835301376 := by omega
  have s4 : 0 < (stemS x).length := by omega
  have s3 : (stemS x).length ≤ 1000000 := by omega
  have k1 : ∀ i, gCutS (.str (stemS x)) none (some i) = some (.w (.str (L2.cutS (stemS x) none (some i)))) := fun i => by
    show (if (stemS x).length ≤ 1000000 then _ else _) = _
    rw [if_pos (by omega)]
  have k2 : ∀ i, gCutS (.str (stemS x)) (some i) none = some (.w (.str (L2.cutS (stemS x) (some i) none))) := fun i => by
    show (if (stemS x).length ≤ 1000000 then _ else _) = _
    rw [if_pos (by omega)]
  have c1 := fun i => L2.cutS_length (stemS x) none (some i)
  have c2 := fun i => L2.cutS_length (stemS x) (some i) none
  have nme : ∀ j, nmS x j = L2.cutS (stemS x) none (some (x / 32 % (stemS x).length)) ++ ⟨#[nmL x j]⟩ ++ L2.cutS (stemS x) (some (x / 32 % (stemS x).length + 1)) none := fun j => rfl
  have g1 : ∀ l : Nat, gAdd (.str (L2.cutS (stemS x) none (some (x / 32 % (stemS x).length)))) (.str ⟨#[l]⟩) = some (.w (.str (L2.cutS (stemS x) none (some (x / 32 % (stemS x).length)) ++ ⟨#[l]⟩))) := fun l => gAdd_s _ _ (by have := c1 (x / 32 % (stemS x).length); show _ + 1 ≤ 1000000; omega)
  have g2 : ∀ l : Nat, gAdd (.str (L2.cutS (stemS x) none (some (x / 32 % (stemS x).length)) ++ ⟨#[l]⟩)) (.str (L2.cutS (stemS x) (some (x / 32 % (stemS x).length + 1)) none)) = some (.w (.str (L2.cutS (stemS x) none (some (x / 32 % (stemS x).length)) ++ ⟨#[l]⟩ ++ L2.cutS (stemS x) (some (x / 32 % (stemS x).length + 1)) none))) := fun l => gAdd_s _ _ (by rw [app_len]; have := c1 (x / 32 % (stemS x).length); have := c2 (x / 32 % (stemS x).length + 1); show _ + 1 + _ ≤ 1000000; omega)
  generalize stemS x = W at *
  generalize baseS x = Bs at *
  generalize hA : x / 32 % (W.length : Int) = A at *
  generalize hM : 1 + x / 4 % 8 = M at *
  unfold F__law_names; refine ws_fnE rfl ?_; unfold m__law_names; simp only [List.map_cons, List.map_nil, List.cons_append, List.nil_append, List.replicate]
  ((try with_reducible apply ws_seq); first | (with_reducible first | apply ws_if_and | apply ws_if_or | apply ws_if_not | apply ws_ret_and | apply ws_ret_or | apply ws_ret_if | apply ws_set_and | apply ws_set_or | apply ws_set_if) | ((first | (with_reducible apply ws_next) | ((with_reducible first | refine ws_if fun rZ hZ => ?_ | refine ws_at fun rZ hZ => ?_); simp (disch := first | (simp; done) | assumption | omega | rfl | (simp; omega)) [mkFn,iIfS,iSeq,iOr,iAnd,iNot,iIf,iIsT,iVar,thenS,Rs.bind,Lk.hold,rdv,rdvs,isTy,isB,iRet,iChain,gLe,gLt,gGt,gGe,gCmp,retv,iNext,iC,op2,gAdd_i,gAdd_t,gAdd_l,gAdd_s,mulOk_b,dec_of,gSub,gMod,gDiv,iSet,iOwn,Lk.arg,Lk.args,Lk.pargs,Lk.settle,setv,iDrop,iTup,iLst,iB,rdvL,rdvLs,gLen,gList,gTuple,gMax,iCall,backR,ofRV,iMeth,lookM,iNew,iFld,iSetF,getF,putFl,gEq,gNe,gIs,notL,gIx,iNeg,iMut,mutTail,getL,putL,gApp,iDct,iHeap,noRef,noRefs,isFlat,tgN,tgT,tgs,iSl,pNo,pSome,gCut,iTgt,gPow,gMul,Lk.qE,iRaise,isSub,isKeyD,iSlS,iSetK,isTup,op2k, eb, hM, k0] at hZ; subst hZ)); first | (with_reducible first | apply c_T | apply c_F | refine c_D (fun hz => ?_) (fun hz => ?_) | refine c_N (fun hz => ?_) (fun hz => ?_) | refine c_B (fun hz => ?_) (fun hz => ?_) | apply c_X) | (repeat1' (with_reducible first | apply q_nx | apply q_ret | apply q_exc | apply q_brk | apply q_cnt | apply l_nx | apply l_cnt | apply l_brk | apply l_ret | apply l_exc | apply f_nx | apply f_ret | apply f_exc))))
  ((try with_reducible apply ws_seq); first | (with_reducible first | apply ws_if_and | apply ws_if_or | apply ws_if_not | apply ws_ret_and | apply ws_ret_or | apply ws_ret_if | apply ws_set_and | apply ws_set_or | apply ws_set_if) | ((first | (with_reducible apply ws_next) | ((with_reducible first | refine ws_if fun rZ hZ => ?_ | refine ws_at fun rZ hZ => ?_); simp (disch := first | (simp; done) | assumption | omega | rfl | (simp; omega)) [mkFn,iIfS,iSeq,iOr,iAnd,iNot,iIf,iIsT,iVar,thenS,Rs.bind,Lk.hold,rdv,rdvs,isTy,isB,iRet,iChain,gLe,gLt,gGt,gGe,gCmp,retv,iNext,iC,op2,gAdd_i,gAdd_t,gAdd_l,gAdd_s,mulOk_b,dec_of,gSub,gMod,gDiv,iSet,iOwn,Lk.arg,Lk.args,Lk.pargs,Lk.settle,setv,iDrop,iTup,iLst,iB,rdvL,rdvLs,gLen,gList,gTuple,gMax,iCall,backR,ofRV,iMeth,lookM,iNew,iFld,iSetF,getF,putFl,gEq,gNe,gIs,notL,gIx,iNeg,iMut,mutTail,getL,putL,gApp,iDct,iHeap,noRef,noRefs,isFlat,tgN,tgT,tgs,iSl,pNo,pSome,gCut,iTgt,gPow,gMul,Lk.qE,iRaise,isSub,isKeyD,iSlS,iSetK,isTup,op2k, hA, s4, s3] at hZ; subst hZ)); first | (with_reducible first | apply c_T | apply c_F | refine c_D (fun hz => ?_) (fun hz => ?_) | refine c_N (fun hz => ?_) (fun hz => ?_) | refine c_B (fun hz => ?_) (fun hz => ?_) | apply c_X) | (repeat1' (with_reducible first | apply q_nx | apply q_ret | apply q_exc | apply q_brk | apply q_cnt | apply l_nx | apply l_cnt | apply l_brk | apply l_ret | apply l_exc | apply f_nx | apply f_ret | apply f_exc))))
  ((try with_reducible apply ws_seq); first | (with_reducible first | apply ws_if_and | apply ws_if_or | apply ws_if_not | apply ws_ret_and | apply ws_ret_or | apply ws_ret_if | apply ws_set_and | apply ws_set_or | apply ws_set_if) | ((first | (with_reducible apply ws_next) | ((with_reducible first | refine ws_if fun rZ hZ => ?_ | refine ws_at fun rZ hZ => ?_); simp (disch := first | (simp; done) | assumption | omega | rfl | (simp; omega)) [mkFn,iIfS,iSeq,iOr,iAnd,iNot,iIf,iIsT,iVar,thenS,Rs.bind,Lk.hold,rdv,rdvs,isTy,isB,iRet,iChain,gLe,gLt,gGt,gGe,gCmp,retv,iNext,iC,op2,gAdd_i,gAdd_t,gAdd_l,gAdd_s,mulOk_b,dec_of,gSub,gMod,gDiv,iSet,iOwn,Lk.arg,Lk.args,Lk.pargs,Lk.settle,setv,iDrop,iTup,iLst,iB,rdvL,rdvLs,gLen,gList,gTuple,gMax,iCall,backR,ofRV,iMeth,lookM,iNew,iFld,iSetF,getF,putFl,gEq,gNe,gIs,notL,gIx,iNeg,iMut,mutTail,getL,putL,gApp,iDct,iHeap,noRef,noRefs,isFlat,tgN,tgT,tgs,iSl,pNo,pSome,gCut,iTgt,gPow,gMul,Lk.qE,iRaise,isSub,isKeyD,iSlS,iSetK,isTup,op2k] at hZ; subst hZ)); first | (with_reducible first | apply c_T | apply c_F | refine c_D (fun hz => ?_) (fun hz => ?_) | refine c_N (fun hz => ?_) (fun hz => ?_) | refine c_B (fun hz => ?_) (fun hz => ?_) | apply c_X) | (repeat1' (with_reducible first | apply q_nx | apply q_ret | apply q_exc | apply q_brk | apply q_cnt | apply l_nx | apply l_cnt | apply l_brk | apply l_ret | apply l_exc | apply f_nx | apply f_ret | apply f_exc))))
  have hq : qR1 (iVar 1) ⟨[.v (.int x), .v (.int (n : Nat)), .v (.str W), .v (.int A), .own [], .no, .no], hp⟩ = .ok (rngD 0 n, .val) ⟨[.v (.int x), .v (.int (n : Nat)), .v (.str W), .v (.int A), .own [], .no, .no], hp⟩ := r1_ok (j := n) (by simp [mkFn,iIfS,iSeq,iOr,iAnd,iNot,iIf,iIsT,iVar,thenS,Rs.bind,Lk.hold,rdv,rdvs,isTy,isB,iRet,iChain,gLe,gLt,gGt,gGe,gCmp,retv,iNext,iC,op2,gAdd_i,gAdd_t,gAdd_l,gAdd_s,mulOk_b,dec_of,gSub,gMod,gDiv,iSet,iOwn,Lk.arg,Lk.args,Lk.pargs,Lk.settle,setv,iDrop,iTup,iLst,iB,rdvL,rdvLs,gLen,gList,gTuple,gMax,iCall,backR,ofRV,iMeth,lookM,iNew,iFld,iSetF,getF,putFl,gEq,gNe,gIs,notL,gIx,iNeg,iMut,mutTail,getL,putL,gApp,iDct,iHeap,noRef,noRefs,isFlat,tgN,tgT,tgs,iSl,pNo,pSome,gCut,iTgt,gPow,gMul,Lk.qE,iRaise,isSub,isKeyD,iSlS,iSetK,isTup,op2k]) rfl (by omega)
  with_reducible refine ws_seq ?_
  refine ws_forN (rngD 0 n) _ hq (fun i s => ∃ a b, s = ⟨[.v (.int x), .v (.int (n : Nat)), .v (.str W), .v (.int A), .own ((nmsI x i).map D.str), a, b], hp⟩) ⟨_, _, rfl⟩ ?_ ?_
  · rintro i d s1 hx ⟨a, b, rfl⟩
    obtain ⟨hi, rfl⟩ := rngD_get hx
    rw [Int.zero_add]
    have snoc : (nmsI x (i + 1)).map D.str = (nmsI x i).map D.str ++ [.str (nmS x i)] := by unfold nmsI; rw [List.range_succ]; simp
    rw [snoc, nme]
    have ll : ((nmsI x i).map D.str).length < 1000000 := by simp [nmsI]; omega
    generalize (nmsI x i).map D.str = V at *
    have sg := abc_at ((x / 256 + 3 * (i : Int)) % 26) (by omega) (by omega)
    unfold abc at sg
    have hl : ltr ((x / 256 + 3 * (i : Int)) % 26) = nmL x i := rfl
    rw [hl] at sg
    generalize nmL x i = l at *
    have m2 : mulOk 3 (i : Int) = true := mulOk_b (by omega) (by omega) (by omega) (by omega)
    unfold b__law_names_1
    simp only [Lk.setv, List.set]
    ((try with_reducible apply ws_seq); first | (with_reducible first | apply ws_if_and | apply ws_if_or | apply ws_if_not | apply ws_ret_and | apply ws_ret_or | apply ws_ret_if | apply ws_set_and | apply ws_set_or | apply ws_set_if) | ((first | (with_reducible apply ws_next) | ((with_reducible first | refine ws_if fun rZ hZ => ?_ | refine ws_at fun rZ hZ => ?_); simp (disch := first | (simp; done) | assumption | omega | rfl | (simp; omega)) [mkFn,iIfS,iSeq,iOr,iAnd,iNot,iIf,iIsT,iVar,thenS,Rs.bind,Lk.hold,rdv,rdvs,isTy,isB,iRet,iChain,gLe,gLt,gGt,gGe,gCmp,retv,iNext,iC,op2,gAdd_i,gAdd_t,gAdd_l,gAdd_s,mulOk_b,dec_of,gSub,gMod,gDiv,iSet,iOwn,Lk.arg,Lk.args,Lk.pargs,Lk.settle,setv,iDrop,iTup,iLst,iB,rdvL,rdvLs,gLen,gList,gTuple,gMax,iCall,backR,ofRV,iMeth,lookM,iNew,iFld,iSetF,getF,putFl,gEq,gNe,gIs,notL,gIx,iNeg,iMut,mutTail,getL,putL,gApp,iDct,iHeap,noRef,noRefs,isFlat,tgN,tgT,tgs,iSl,pNo,pSome,gCut,iTgt,gPow,gMul,Lk.qE,iRaise,isSub,isKeyD,iSlS,iSetK,isTup,op2k, al, sg, m2] at hZ; subst hZ)); first | (with_reducible first | apply c_T | apply c_F | refine c_D (fun hz => ?_) (fun hz => ?_) | refine c_N (fun hz => ?_) (fun hz => ?_) | refine c_B (fun hz => ?_) (fun hz => ?_) | apply c_X) | (repeat1' (with_reducible first | apply q_nx | apply q_ret | apply q_exc | apply q_brk | apply q_cnt | apply l_nx | apply l_cnt | apply l_brk | apply l_ret | apply l_exc | apply f_nx | apply f_ret | apply f_exc))))
    (repeat' ((try with_reducible apply ws_seq); first | (with_reducible first | apply ws_if_and | apply ws_if_or | apply ws_if_not | apply ws_ret_and | apply ws_ret_or | apply ws_ret_if | apply ws_set_and | apply ws_set_or | apply ws_set_if) | ((first | (with_reducible apply ws_next) | ((with_reducible first | refine ws_if fun rZ hZ => ?_ | refine ws_at fun rZ hZ => ?_); simp (disch := first | (simp; done) | assumption | omega | rfl | (simp; omega)) [mkFn,iIfS,iSeq,iOr,iAnd,iNot,iIf,iIsT,iVar,thenS,Rs.bind,Lk.hold,rdv,rdvs,isTy,isB,iRet,iChain,gLe,gLt,gGt,gGe,gCmp,retv,iNext,iC,op2,gAdd_i,gAdd_t,gAdd_l,gAdd_s,mulOk_b,dec_of,gSub,gMod,gDiv,iSet,iOwn,Lk.arg,Lk.args,Lk.pargs,Lk.settle,setv,iDrop,iTup,iLst,iB,rdvL,rdvLs,gLen,gList,gTuple,gMax,iCall,backR,ofRV,iMeth,lookM,iNew,iFld,iSetF,getF,putFl,gEq,gNe,gIs,notL,gIx,iNeg,iMut,mutTail,getL,putL,gApp,iDct,iHeap,noRef,noRefs,isFlat,tgN,tgT,tgs,iSl,pNo,pSome,gCut,iTgt,gPow,gMul,Lk.qE,iRaise,isSub,isKeyD,iSlS,iSetK,isTup,op2k, k1, k2, g1, g2, ll] at hZ; subst hZ)); first | (with_reducible first | apply c_T | apply c_F | refine c_D (fun hz => ?_) (fun hz => ?_) | refine c_N (fun hz => ?_) (fun hz => ?_) | refine c_B (fun hz => ?_) (fun hz => ?_) | apply c_X) | (repeat1' (with_reducible first | apply q_nx | apply q_ret | apply q_exc | apply q_brk | apply q_cnt | apply l_nx | apply l_cnt | apply l_brk | apply l_ret | apply l_exc | apply f_nx | apply f_ret | apply f_exc)))))
    exact ⟨_, _, rfl⟩
  · rintro s1 ⟨a, b, rfl⟩
    have l6 : (rngD 0 n).length = n := by simp [rngD]
    rw [l6]
    generalize (nmsI x n).map D.str = V at *
    (repeat1' (with_reducible first | apply q_nx | apply q_ret | apply q_exc | apply q_brk | apply q_cnt | apply l_nx | apply l_cnt | apply l_brk | apply l_ret | apply l_exc | apply f_nx | apply f_ret | apply f_exc))
    (repeat' ((try with_reducible apply ws_seq); first | (with_reducible first | apply ws_if_and | apply ws_if_or | apply ws_if_not | apply ws_ret_and | apply ws_ret_or | apply ws_ret_if | apply ws_set_and | apply ws_set_or | apply ws_set_if) | ((first | (with_reducible apply ws_next) | ((with_reducible first | refine ws_if fun rZ hZ => ?_ | refine ws_at fun rZ hZ => ?_); simp (disch := first | (simp; done) | assumption | omega | rfl | (simp; omega)) [mkFn,iIfS,iSeq,iOr,iAnd,iNot,iIf,iIsT,iVar,thenS,Rs.bind,Lk.hold,rdv,rdvs,isTy,isB,iRet,iChain,gLe,gLt,gGt,gGe,gCmp,retv,iNext,iC,op2,gAdd_i,gAdd_t,gAdd_l,gAdd_s,mulOk_b,dec_of,gSub,gMod,gDiv,iSet,iOwn,Lk.arg,Lk.args,Lk.pargs,Lk.settle,setv,iDrop,iTup,iLst,iB,rdvL,rdvLs,gLen,gList,gTuple,gMax,iCall,backR,ofRV,iMeth,lookM,iNew,iFld,iSetF,getF,putFl,gEq,gNe,gIs,notL,gIx,iNeg,iMut,mutTail,getL,putL,gApp,iDct,iHeap,noRef,noRefs,isFlat,tgN,tgT,tgs,iSl,pNo,pSome,gCut,iTgt,gPow,gMul,Lk.qE,iRaise,isSub,isKeyD,iSlS,iSetK,isTup,op2k] at hZ; subst hZ)); first | (with_reducible first | apply c_T | apply c_F | refine c_D (fun hz => ?_) (fun hz => ?_) | refine c_N (fun hz => ?_) (fun hz => ?_) | refine c_B (fun hz => ?_) (fun hz => ?_) | apply c_X) | (repeat1' (with_reducible first | apply q_nx | apply q_ret | apply q_exc | apply q_brk | apply q_cnt | apply l_nx | apply l_cnt | apply l_brk | apply l_ret | apply l_exc | apply f_nx | apply f_ret | apply f_exc)))))
    (all_goals first | with_reducible rfl | (simp [*]; done) | (exfalso; omega) | skip)
end Pf
namespace Pf
open Lk
open PySem (Str)
theorem idx_i (st : List Int) (i : Int) (h0 : 0 ≤ i) (h : i < st.length) : L2.atI (st.map D.int) i = some (.int (st.getD i.toNat 0)) := by
  obtain ⟨n, rfl⟩ := Int.eq_ofNat_of_zero_le h0
  rw [atI_nat, List.getElem?_map, Int.toNat_natCast, List.getD_eq_getElem?_getD, List.getElem?_eq_getElem (by omega)]
  rfl
theorem idx_s (st : List Str) (i : Int) (h0 : 0 ≤ i) (h : i < st.length) : L2.atI (st.map D.str) i = some (.str (st.getD i.toNat "")) := by
  obtain ⟨n, rfl⟩ := Int.eq_ofNat_of_zero_le h0
  rw [atI_nat, List.getElem?_map, Int.toNat_natCast, List.getD_eq_getElem?_getD, List.getElem?_eq_getElem (by omega)]
  rfl
theorem in_getD {α : Type} (l : List α) (i : Nat) (a0 : α) (h : i < l.length) : l.getD i a0 ∈ l := by
  rw [List.getD_eq_getElem?_getD, List.getElem?_eq_getElem h]; exact List.getElem_mem h
theorem row_nms (x : Int) (n : Nat) (hn : 0 < n ∧ n ≤ 8) : RowK (nmsI x n) := by
  obtain ⟨l, ok, nd⟩ := nms_ok x n hn.2
  exact ⟨by omega, nd, ok⟩
theorem r_start (ns : List Int) (hb : ∀ z ∈ ns, PySem.Builtin.Int.intBits z ≤ 1048576) (hp : List Ob) :
    (∃ k A, (0 < k ∧ k ≤ 6) ∧ Bo.Places k A ∧ F__law_start [.rol ns] hp = .ok (.v (.tup [.str "line", tI A])) hp) ∨
    (∃ A, RowK A ∧ F__law_start [.rol ns] hp = .ok (.v (.tup [.str "shelf", tS A])) hp) ∨
    (∃ R, (1 ≤ R ∧ R ≤ 1000000000000000000) ∧ F__law_start [.rol ns] hp = .ok (.v (.tup [.str "hire", .tup [.int R]])) hp) ∨
    (∃ (k : Nat) (t : Int) (h : Nat), (0 < k ∧ k ≤ 8) ∧ Ch.Amt t ∧ h < k ∧ F__law_start [.rol ns] hp = .ok (.v (.tup [.str "ways", .tup [.int (k : Nat), .int t, .int (h : Nat)]])) hp) ∨
    (∃ A, RowK A ∧ F__law_start [.rol ns] hp = .ok (.v (.tup [.str "store", tS A])) hp) ∨
    (∃ R, (1 ≤ R ∧ R ≤ 1000000000000000000) ∧ F__law_start [.rol ns] hp = .ok (.v (.tup [.str "bags", .tup [.int R]])) hp) := by
  have c0 := r_cell ns 0 (by decide) hp
  have c1 := r_cell ns 1 (by decide) hp
  have hB := bits_cell hb 1
  generalize cellI ns 0 = d at *
  generalize cellI ns 1 = c at *
  have m0 := r_mixed d 0 (by decide) (by decide) hp
  have m1 := r_mixed c 1 (by decide) (by decide) hp
  have mb := mix_b c 1
  have am := r_amt c 3 hB (by decide) (by decide) hp
  have ab := amt_b c 3
  have mx : (1 ≤ (if 1 < amtI c 3 then amtI c 3 else 1) ∧ (if 1 < amtI c 3 then amtI c 3 else 1) ≤ 1000000000000000000) := by split <;> omega
  generalize mixI d 0 = u at *
  generalize mixI c 1 = x at *
  generalize amtI c 3 = am3 at *
  obtain ⟨n6, h6⟩ := Int.eq_ofNat_of_zero_le (show (0 : Int) ≤ 1 + x % 6 by omega)
  obtain ⟨n8, h8⟩ := Int.eq_ofNat_of_zero_le (show (0 : Int) ≤ 1 + x % 8 by omega)
  have nm := r_lnames (x / 8) n8 (by omega) (by omega) hp
  have q : u % 6 = 0 ∨ u % 6 = 1 ∨ u % 6 = 2 ∨ u % 6 = 3 ∨ u % 6 = 4 ∨ u % 6 = 5 := by omega
  rcases q with q | q | q | q | q | q
  · have ew : L2.atI [D.str "line", .str "shelf", .str "hire", .str "ways", .str "store", .str "bags"] (u % 6) = some (.str "line") := by rw [q]; rfl
    obtain ⟨q1, q2, q3, q4, q5, q6⟩ := wq_line
    have e : c__law_start_1 ⟨[.v (.rol ns), .v (.int c), .v (.int x), .v (.str "line"), .no], hp⟩ = .ok (.fr (((List.range n6).map fun j : Nat => placeI c (20 + j)).map D.int)) ⟨[.v (.rol ns), .v (.int c), .v (.int x), .v (.str "line"), .no], hp⟩ := by
      rw [List.map_map]
      unfold c__law_start_1
      exact lc_rng (s1 := ⟨[.v (.rol ns), .v (.int c), .v (.int x), .v (.str "line"), .no], hp⟩) (fun j => .int (placeI c (20 + (j : Nat)))) (by simp [mkFn,iIfS,iSeq,iOr,iAnd,iNot,iIf,iIsT,iVar,thenS,Rs.bind,Lk.hold,rdv,rdvs,isTy,isB,iRet,iChain,gLe,gLt,gGt,gGe,gCmp,retv,iNext,iC,op2,gAdd_i,gAdd_t,gAdd_l,gAdd_s,mulOk_b,dec_of,gSub,gMod,gDiv,iSet,iOwn,Lk.arg,Lk.args,Lk.pargs,Lk.settle,setv,iDrop,iTup,iLst,iB,rdvL,rdvLs,gLen,gList,gTuple,gMax,iCall,backR,ofRV,iMeth,lookM,iNew,iFld,iSetF,getF,putFl,gEq,gNe,gIs,notL,gIx,iNeg,iMut,mutTail,getL,putL,gApp,iDct,iHeap,noRef,noRefs,isFlat,tgN,tgT,tgs,iSl,pNo,pSome,gCut,iTgt,gPow,gMul,Lk.qE,iRaise,isSub,isKeyD,iSlS,iSetK,isTup,op2k, h6]) (by omega) (fun j hj => by
        have p := r_place c (20 + (j : Nat)) hB (by omega) (by omega)
        simp (disch := first | (simp; done) | assumption | omega | rfl | (simp; omega)) [mkFn,iIfS,iSeq,iOr,iAnd,iNot,iIf,iIsT,iVar,thenS,Rs.bind,Lk.hold,rdv,rdvs,isTy,isB,iRet,iChain,gLe,gLt,gGt,gGe,gCmp,retv,iNext,iC,op2,gAdd_i,gAdd_t,gAdd_l,gAdd_s,mulOk_b,dec_of,gSub,gMod,gDiv,iSet,iOwn,Lk.arg,Lk.args,Lk.pargs,Lk.settle,setv,iDrop,iTup,iLst,iB,rdvL,rdvLs,gLen,gList,gTuple,gMax,iCall,backR,ofRV,iMeth,lookM,iNew,iFld,iSetF,getF,putFl,gEq,gNe,gIs,notL,gIx,iNeg,iMut,mutTail,getL,putL,gApp,iDct,iHeap,noRef,noRefs,isFlat,tgN,tgT,tgs,iSl,pNo,pSome,gCut,iTgt,gPow,gMul,Lk.qE,iRaise,isSub,isKeyD,iSlS,iSetK,isTup,op2k, Lk.Sx.wipe, wipeE, p])
    have so := sort_ints ((List.range n6).map fun j : Nat => placeI c (20 + j)) (by simp; omega)
    have p := sortI_perm ((List.range n6).map fun j : Nat => placeI c (20 + j))
    refine .inl ⟨n6, sortI ((List.range n6).map fun j : Nat => placeI c (20 + j)), by omega, ⟨by rw [p.length_eq]; simp, sortI_pw _, fun y hy => ?_⟩, ?_⟩
    · obtain ⟨j, _, rfl⟩ := List.mem_map.mp (p.mem_iff.mp hy)
      exact place_b _ _
    · generalize ((List.range n6).map fun j : Nat => placeI c (20 + j)) = L at *
      unfold tI
      generalize L.map D.int = L1 at *
      generalize (sortI L).map D.int = L2' at *
      unfold F__law_start; refine ws_fnE rfl ?_; unfold m__law_start; simp only [List.map_cons, List.map_nil, List.cons_append, List.nil_append, List.replicate]
      (repeat' ((try with_reducible apply ws_seq); first | (with_reducible first | apply ws_if_and | apply ws_if_or | apply ws_if_not | apply ws_ret_and | apply ws_ret_or | apply ws_ret_if | apply ws_set_and | apply ws_set_or | apply ws_set_if) | ((first | (with_reducible apply ws_next) | ((with_reducible first | refine ws_if fun rZ hZ => ?_ | refine ws_at fun rZ hZ => ?_); simp (disch := first | (simp; done) | assumption | omega | rfl | (simp; omega)) [mkFn,iIfS,iSeq,iOr,iAnd,iNot,iIf,iIsT,iVar,thenS,Rs.bind,Lk.hold,rdv,rdvs,isTy,isB,iRet,iChain,gLe,gLt,gGt,gGe,gCmp,retv,iNext,iC,op2,gAdd_i,gAdd_t,gAdd_l,gAdd_s,mulOk_b,dec_of,gSub,gMod,gDiv,iSet,iOwn,Lk.arg,Lk.args,Lk.pargs,Lk.settle,setv,iDrop,iTup,iLst,iB,rdvL,rdvLs,gLen,gList,gTuple,gMax,iCall,backR,ofRV,iMeth,lookM,iNew,iFld,iSetF,getF,putFl,gEq,gNe,gIs,notL,gIx,iNeg,iMut,mutTail,getL,putL,gApp,iDct,iHeap,noRef,noRefs,isFlat,tgN,tgT,tgs,iSl,pNo,pSome,gCut,iTgt,gPow,gMul,Lk.qE,iRaise,isSub,isKeyD,iSlS,iSetK,isTup,op2k, c0, c1, m0, m1, ew, e, so, mixed, q1, q2, q3, q4, q5, q6] at hZ; subst hZ)); first | (with_reducible first | apply c_T | apply c_F | refine c_D (fun hz => ?_) (fun hz => ?_) | refine c_N (fun hz => ?_) (fun hz => ?_) | refine c_B (fun hz => ?_) (fun hz => ?_) | apply c_X) | (repeat1' (with_reducible first | apply q_nx | apply q_ret | apply q_exc | apply q_brk | apply q_cnt | apply l_nx | apply l_cnt | apply l_brk | apply l_ret | apply l_exc | apply f_nx | apply f_ret | apply f_exc)))))
      (all_goals first | with_reducible rfl | (simp [*]; done) | (exfalso; omega) | skip)
  · have ew : L2.atI [D.str "line", .str "shelf", .str "hire", .str "ways", .str "store", .str "bags"] (u % 6) = some (.str "shelf") := by rw [q]; rfl
    obtain ⟨q1, q2, q3, q4, q5, q6⟩ := wq_shelf
    refine .inr (.inl ⟨nmsI (x / 8) n8, row_nms _ _ (by omega), ?_⟩)
    unfold tS
    generalize (nmsI (x / 8) n8).map D.str = L1 at *
    unfold F__law_start; refine ws_fnE rfl ?_; unfold m__law_start; simp only [List.map_cons, List.map_nil, List.cons_append, List.nil_append, List.replicate]
    (repeat' ((try with_reducible apply ws_seq); first | (with_reducible first | apply ws_if_and | apply ws_if_or | apply ws_if_not | apply ws_ret_and | apply ws_ret_or | apply ws_ret_if | apply ws_set_and | apply ws_set_or | apply ws_set_if) | ((first | (with_reducible apply ws_next) | ((with_reducible first | refine ws_if fun rZ hZ => ?_ | refine ws_at fun rZ hZ => ?_); simp (disch := first | (simp; done) | assumption | omega | rfl | (simp; omega)) [mkFn,iIfS,iSeq,iOr,iAnd,iNot,iIf,iIsT,iVar,thenS,Rs.bind,Lk.hold,rdv,rdvs,isTy,isB,iRet,iChain,gLe,gLt,gGt,gGe,gCmp,retv,iNext,iC,op2,gAdd_i,gAdd_t,gAdd_l,gAdd_s,mulOk_b,dec_of,gSub,gMod,gDiv,iSet,iOwn,Lk.arg,Lk.args,Lk.pargs,Lk.settle,setv,iDrop,iTup,iLst,iB,rdvL,rdvLs,gLen,gList,gTuple,gMax,iCall,backR,ofRV,iMeth,lookM,iNew,iFld,iSetF,getF,putFl,gEq,gNe,gIs,notL,gIx,iNeg,iMut,mutTail,getL,putL,gApp,iDct,iHeap,noRef,noRefs,isFlat,tgN,tgT,tgs,iSl,pNo,pSome,gCut,iTgt,gPow,gMul,Lk.qE,iRaise,isSub,isKeyD,iSlS,iSetK,isTup,op2k, c0, c1, m0, m1, ew, h8, nm, mixed, q1, q2, q3, q4, q5, q6] at hZ; subst hZ)); first | (with_reducible first | apply c_T | apply c_F | refine c_D (fun hz => ?_) (fun hz => ?_) | refine c_N (fun hz => ?_) (fun hz => ?_) | refine c_B (fun hz => ?_) (fun hz => ?_) | apply c_X) | (repeat1' (with_reducible first | apply q_nx | apply q_ret | apply q_exc | apply q_brk | apply q_cnt | apply l_nx | apply l_cnt | apply l_brk | apply l_ret | apply l_exc | apply f_nx | apply f_ret | apply f_exc)))))
    (all_goals first | with_reducible rfl | (simp [*]; done) | (exfalso; omega) | skip)
  · have ew : L2.atI [D.str "line", .str "shelf", .str "hire", .str "ways", .str "store", .str "bags"] (u % 6) = some (.str "hire") := by rw [q]; rfl
    obtain ⟨q1, q2, q3, q4, q5, q6⟩ := wq_hire
    refine .inr (.inr (.inl ⟨_, mx, ?_⟩))
    unfold F__law_start; refine ws_fnE rfl ?_; unfold m__law_start; simp only [List.map_cons, List.map_nil, List.cons_append, List.nil_append, List.replicate]
    (repeat' ((try with_reducible apply ws_seq); first | (with_reducible first | apply ws_if_and | apply ws_if_or | apply ws_if_not | apply ws_ret_and | apply ws_ret_or | apply ws_ret_if | apply ws_set_and | apply ws_set_or | apply ws_set_if) | ((first | (with_reducible apply ws_next) | ((with_reducible first | refine ws_if fun rZ hZ => ?_ | refine ws_at fun rZ hZ => ?_); simp (disch := first | (simp; done) | assumption | omega | rfl | (simp; omega)) [mkFn,iIfS,iSeq,iOr,iAnd,iNot,iIf,iIsT,iVar,thenS,Rs.bind,Lk.hold,rdv,rdvs,isTy,isB,iRet,iChain,gLe,gLt,gGt,gGe,gCmp,retv,iNext,iC,op2,gAdd_i,gAdd_t,gAdd_l,gAdd_s,mulOk_b,dec_of,gSub,gMod,gDiv,iSet,iOwn,Lk.arg,Lk.args,Lk.pargs,Lk.settle,setv,iDrop,iTup,iLst,iB,rdvL,rdvLs,gLen,gList,gTuple,gMax,iCall,backR,ofRV,iMeth,lookM,iNew,iFld,iSetF,getF,putFl,gEq,gNe,gIs,notL,gIx,iNeg,iMut,mutTail,getL,putL,gApp,iDct,iHeap,noRef,noRefs,isFlat,tgN,tgT,tgs,iSl,pNo,pSome,gCut,iTgt,gPow,gMul,Lk.qE,iRaise,isSub,isKeyD,iSlS,iSetK,isTup,op2k, c0, c1, m0, m1, ew, am, mixed, q1, q2, q3, q4, q5, q6] at hZ; subst hZ)); first | (with_reducible first | apply c_T | apply c_F | refine c_D (fun hz => ?_) (fun hz => ?_) | refine c_N (fun hz => ?_) (fun hz => ?_) | refine c_B (fun hz => ?_) (fun hz => ?_) | apply c_X) | (repeat1' (with_reducible first | apply q_nx | apply q_ret | apply q_exc | apply q_brk | apply q_cnt | apply l_nx | apply l_cnt | apply l_brk | apply l_ret | apply l_exc | apply f_nx | apply f_ret | apply f_exc)))))
    (all_goals first | with_reducible rfl | (simp [*]; done) | (exfalso; omega) | skip)
  · have ew : L2.atI [D.str "line", .str "shelf", .str "hire", .str "ways", .str "store", .str "bags"] (u % 6) = some (.str "ways") := by rw [q]; rfl
    obtain ⟨q1, q2, q3, q4, q5, q6⟩ := wq_ways
    have k0 : 0 < n8 := by omega
    have z1 : (0 : Int) < (n8 : Int) := by omega
    obtain ⟨h, hh⟩ := Int.eq_ofNat_of_zero_le (Int.emod_nonneg (x / 8) (show ((n8 : Nat) : Int) ≠ 0 by omega))
    have hl := Int.emod_lt_of_pos (x / 8) z1
    refine .inr (.inr (.inr (.inl ⟨n8, am3, h, by omega, ab, by omega, ?_⟩)))
    unfold F__law_start; refine ws_fnE rfl ?_; unfold m__law_start; simp only [List.map_cons, List.map_nil, List.cons_append, List.nil_append, List.replicate]
    (repeat' ((try with_reducible apply ws_seq); first | (with_reducible first | apply ws_if_and | apply ws_if_or | apply ws_if_not | apply ws_ret_and | apply ws_ret_or | apply ws_ret_if | apply ws_set_and | apply ws_set_or | apply ws_set_if) | ((first | (with_reducible apply ws_next) | ((with_reducible first | refine ws_if fun rZ hZ => ?_ | refine ws_at fun rZ hZ => ?_); simp (disch := first | (simp; done) | assumption | omega | rfl | (simp; omega)) [mkFn,iIfS,iSeq,iOr,iAnd,iNot,iIf,iIsT,iVar,thenS,Rs.bind,Lk.hold,rdv,rdvs,isTy,isB,iRet,iChain,gLe,gLt,gGt,gGe,gCmp,retv,iNext,iC,op2,gAdd_i,gAdd_t,gAdd_l,gAdd_s,mulOk_b,dec_of,gSub,gMod,gDiv,iSet,iOwn,Lk.arg,Lk.args,Lk.pargs,Lk.settle,setv,iDrop,iTup,iLst,iB,rdvL,rdvLs,gLen,gList,gTuple,gMax,iCall,backR,ofRV,iMeth,lookM,iNew,iFld,iSetF,getF,putFl,gEq,gNe,gIs,notL,gIx,iNeg,iMut,mutTail,getL,putL,gApp,iDct,iHeap,noRef,noRefs,isFlat,tgN,tgT,tgs,iSl,pNo,pSome,gCut,iTgt,gPow,gMul,Lk.qE,iRaise,isSub,isKeyD,iSlS,iSetK,isTup,op2k, c0, c1, m0, m1, ew, h8, k0, z1, hh, am, mixed, q1, q2, q3, q4, q5, q6] at hZ; subst hZ)); first | (with_reducible first | apply c_T | apply c_F | refine c_D (fun hz => ?_) (fun hz => ?_) | refine c_N (fun hz => ?_) (fun hz => ?_) | refine c_B (fun hz => ?_) (fun hz => ?_) | apply c_X) | (repeat1' (with_reducible first | apply q_nx | apply q_ret | apply q_exc | apply q_brk | apply q_cnt | apply l_nx | apply l_cnt | apply l_brk | apply l_ret | apply l_exc | apply f_nx | apply f_ret | apply f_exc)))))
    (all_goals first | with_reducible rfl | (simp [*]; done) | (exfalso; omega) | skip)
  · have ew : L2.atI [D.str "line", .str "shelf", .str "hire", .str "ways", .str "store", .str "bags"] (u % 6) = some (.str "store") := by rw [q]; rfl
    obtain ⟨q1, q2, q3, q4, q5, q6⟩ := wq_store
    refine .inr (.inr (.inr (.inr (.inl ⟨nmsI (x / 8) n8, row_nms _ _ (by omega), ?_⟩))))
    unfold tS
    generalize (nmsI (x / 8) n8).map D.str = L1 at *
    unfold F__law_start; refine ws_fnE rfl ?_; unfold m__law_start; simp only [List.map_cons, List.map_nil, List.cons_append, List.nil_append, List.replicate]
    (repeat' ((try with_reducible apply ws_seq); first | (with_reducible first | apply ws_if_and | apply ws_if_or | apply ws_if_not | apply ws_ret_and | apply ws_ret_or | apply ws_ret_if | apply ws_set_and | apply ws_set_or | apply ws_set_if) | ((first | (with_reducible apply ws_next) | ((with_reducible first | refine ws_if fun rZ hZ => ?_ | refine ws_at fun rZ hZ => ?_); simp (disch := first | (simp; done) | assumption | omega | rfl | (simp; omega)) [mkFn,iIfS,iSeq,iOr,iAnd,iNot,iIf,iIsT,iVar,thenS,Rs.bind,Lk.hold,rdv,rdvs,isTy,isB,iRet,iChain,gLe,gLt,gGt,gGe,gCmp,retv,iNext,iC,op2,gAdd_i,gAdd_t,gAdd_l,gAdd_s,mulOk_b,dec_of,gSub,gMod,gDiv,iSet,iOwn,Lk.arg,Lk.args,Lk.pargs,Lk.settle,setv,iDrop,iTup,iLst,iB,rdvL,rdvLs,gLen,gList,gTuple,gMax,iCall,backR,ofRV,iMeth,lookM,iNew,iFld,iSetF,getF,putFl,gEq,gNe,gIs,notL,gIx,iNeg,iMut,mutTail,getL,putL,gApp,iDct,iHeap,noRef,noRefs,isFlat,tgN,tgT,tgs,iSl,pNo,pSome,gCut,iTgt,gPow,gMul,Lk.qE,iRaise,isSub,isKeyD,iSlS,iSetK,isTup,op2k, c0, c1, m0, m1, ew, h8, nm, mixed, q1, q2, q3, q4, q5, q6] at hZ; subst hZ)); first | (with_reducible first | apply c_T | apply c_F | refine c_D (fun hz => ?_) (fun hz => ?_) | refine c_N (fun hz => ?_) (fun hz => ?_) | refine c_B (fun hz => ?_) (fun hz => ?_) | apply c_X) | (repeat1' (with_reducible first | apply q_nx | apply q_ret | apply q_exc | apply q_brk | apply q_cnt | apply l_nx | apply l_cnt | apply l_brk | apply l_ret | apply l_exc | apply f_nx | apply f_ret | apply f_exc)))))
    (all_goals first | with_reducible rfl | (simp [*]; done) | (exfalso; omega) | skip)
  · have ew : L2.atI [D.str "line", .str "shelf", .str "hire", .str "ways", .str "store", .str "bags"] (u % 6) = some (.str "bags") := by rw [q]; rfl
    obtain ⟨q1, q2, q3, q4, q5, q6⟩ := wq_bags
    refine .inr (.inr (.inr (.inr (.inr ⟨_, mx, ?_⟩))))
    unfold F__law_start; refine ws_fnE rfl ?_; unfold m__law_start; simp only [List.map_cons, List.map_nil, List.cons_append, List.nil_append, List.replicate]
    (repeat' ((try with_reducible apply ws_seq); first | (with_reducible first | apply ws_if_and | apply ws_if_or | apply ws_if_not | apply ws_ret_and | apply ws_ret_or | apply ws_ret_if | apply ws_set_and | apply ws_set_or | apply ws_set_if) | ((first | (with_reducible apply ws_next) | ((with_reducible first | refine ws_if fun rZ hZ => ?_ | refine ws_at fun rZ hZ => ?_); simp (disch := first | (simp; done) | assumption | omega | rfl | (simp; omega)) [mkFn,iIfS,iSeq,iOr,iAnd,iNot,iIf,iIsT,iVar,thenS,Rs.bind,Lk.hold,rdv,rdvs,isTy,isB,iRet,iChain,gLe,gLt,gGt,gGe,gCmp,retv,iNext,iC,op2,gAdd_i,gAdd_t,gAdd_l,gAdd_s,mulOk_b,dec_of,gSub,gMod,gDiv,iSet,iOwn,Lk.arg,Lk.args,Lk.pargs,Lk.settle,setv,iDrop,iTup,iLst,iB,rdvL,rdvLs,gLen,gList,gTuple,gMax,iCall,backR,ofRV,iMeth,lookM,iNew,iFld,iSetF,getF,putFl,gEq,gNe,gIs,notL,gIx,iNeg,iMut,mutTail,getL,putL,gApp,iDct,iHeap,noRef,noRefs,isFlat,tgN,tgT,tgs,iSl,pNo,pSome,gCut,iTgt,gPow,gMul,Lk.qE,iRaise,isSub,isKeyD,iSlS,iSetK,isTup,op2k, c0, c1, m0, m1, ew, am, mixed, q1, q2, q3, q4, q5, q6] at hZ; subst hZ)); first | (with_reducible first | apply c_T | apply c_F | refine c_D (fun hz => ?_) (fun hz => ?_) | refine c_N (fun hz => ?_) (fun hz => ?_) | refine c_B (fun hz => ?_) (fun hz => ?_) | apply c_X) | (repeat1' (with_reducible first | apply q_nx | apply q_ret | apply q_exc | apply q_brk | apply q_cnt | apply l_nx | apply l_cnt | apply l_brk | apply l_ret | apply l_exc | apply f_nx | apply f_ret | apply f_exc)))))
    (all_goals first | with_reducible rfl | (simp [*]; done) | (exfalso; omega) | skip)
def wLine (A : List Int) (c k : Int) : Int := if mixI c k % 2 = 0 then A.getD (mixI c k / 2 % A.length).toNat 0 else placeI c (k + 90)
theorem w_line (word : Str) (W : Wq word true false false false false false) (n : Nat) (A : List Int) (hn : 0 < n) (pA : Bo.Places n A) (c k : Int) (hB : Bits 1048577 c) (h0 : 0 ≤ k) (hk : k < 1000) (hp : List Ob) : Bo.Place (wLine A c k) ∧ F__law_wish [.str word, tI A, .int c, .int k] hp = .ok (.v (.int (wLine A c k))) hp := by
  obtain ⟨q1, q2, q3, q4, q5, q6⟩ := W
  have lA := pA.1
  have m0 := r_mixed c k h0 (by omega) hp
  have pl := r_place c (k + 90) hB (by omega) (by omega) hp
  have pb := place_b c (k + 90)
  have z0 : 0 < A.length := by omega
  have h1 := Int.emod_nonneg (mixI c k / 2) (show (A.length : Int) ≠ 0 by omega)
  have h2 := Int.emod_lt_of_pos (mixI c k / 2) (show (0 : Int) < (A.length : Int) by omega)
  have ix := idx_i A _ h1 h2
  have g := in_getD A (mixI c k / 2 % A.length).toNat 0 (by omega)
  have lm : (A.map D.int).length = A.length := List.length_map _
  refine ⟨?_, ?_⟩
  · unfold wLine
    split
    · exact pA.2.2 _ g
    · exact pb
  · have lst : ∀ a b : Int, L2.atI [D.int a, .int b] (mixI c k % 2) = some (.int (if mixI c k % 2 = 0 then a else b)) := fun a b => by
      have q : mixI c k % 2 = 0 ∨ mixI c k % 2 = 1 := by omega
      rcases q with q | q <;> rw [q] <;> rfl
    unfold wLine
    unfold tI
    generalize A.getD (mixI c k / 2 % A.length).toNat 0 = v at *
    generalize A.map D.int = SA at *
    generalize A.length = n1 at *
    unfold F__law_wish; refine ws_fnE rfl ?_; unfold m__law_wish; simp only [List.map_cons, List.map_nil, List.cons_append, List.nil_append, List.replicate]
    (repeat' ((try with_reducible apply ws_seq); first | (with_reducible first | apply ws_if_and | apply ws_if_or | apply ws_if_not | apply ws_ret_and | apply ws_ret_or | apply ws_ret_if | apply ws_set_and | apply ws_set_or | apply ws_set_if) | ((first | (with_reducible apply ws_next) | ((with_reducible first | refine ws_if fun rZ hZ => ?_ | refine ws_at fun rZ hZ => ?_); simp (disch := first | (simp; done) | assumption | omega | rfl | (simp; omega)) [mkFn,iIfS,iSeq,iOr,iAnd,iNot,iIf,iIsT,iVar,thenS,Rs.bind,Lk.hold,rdv,rdvs,isTy,isB,iRet,iChain,gLe,gLt,gGt,gGe,gCmp,retv,iNext,iC,op2,gAdd_i,gAdd_t,gAdd_l,gAdd_s,mulOk_b,dec_of,gSub,gMod,gDiv,iSet,iOwn,Lk.arg,Lk.args,Lk.pargs,Lk.settle,setv,iDrop,iTup,iLst,iB,rdvL,rdvLs,gLen,gList,gTuple,gMax,iCall,backR,ofRV,iMeth,lookM,iNew,iFld,iSetF,getF,putFl,gEq,gNe,gIs,notL,gIx,iNeg,iMut,mutTail,getL,putL,gApp,iDct,iHeap,noRef,noRefs,isFlat,tgN,tgT,tgs,iSl,pNo,pSome,gCut,iTgt,gPow,gMul,Lk.qE,iRaise,isSub,isKeyD,iSlS,iSetK,isTup,op2k, m0, pl, ix, lst, lm, z0, mixed, q1, q2, q3, q4, q5, q6] at hZ; subst hZ)); first | (with_reducible first | apply c_T | apply c_F | refine c_D (fun hz => ?_) (fun hz => ?_) | refine c_N (fun hz => ?_) (fun hz => ?_) | refine c_B (fun hz => ?_) (fun hz => ?_) | apply c_X) | (repeat1' (with_reducible first | apply q_nx | apply q_ret | apply q_exc | apply q_brk | apply q_cnt | apply l_nx | apply l_cnt | apply l_brk | apply l_ret | apply l_exc | apply f_nx | apply f_ret | apply f_exc)))))
    (all_goals first | with_reducible rfl | (simp [*]; done) | (exfalso; omega) | skip)
def wShelf (A : List Str) (c k : Int) : Str := A.getD (mixI c k % A.length).toNat ""
theorem w_shelf (word : Str) (W : Wq word false true false false false false) (A : List Str) (rA : RowK A) (c k : Int) (h0 : 0 ≤ k) (hk : k < 1000) (hp : List Ob) : wShelf A c k ∈ A ∧ F__law_wish [.str word, tS A, .int c, .int k] hp = .ok (.v (.str (wShelf A c k))) hp := by
  obtain ⟨q1, q2, q3, q4, q5, q6⟩ := W
  have lA := rA.1
  have m0 := r_mixed c k h0 (by omega) hp
  have z0 : 0 < A.length := by omega
  have h1 := Int.emod_nonneg (mixI c k) (show (A.length : Int) ≠ 0 by omega)
  have h2 := Int.emod_lt_of_pos (mixI c k) (show (0 : Int) < (A.length : Int) by omega)
  have ix := idx_s A _ h1 h2
  have g := in_getD A (mixI c k % A.length).toNat "" (by omega)
  have lm : (A.map D.str).length = A.length := List.length_map _
  refine ⟨g, ?_⟩
  unfold wShelf tS
  generalize A.getD (mixI c k % A.length).toNat "" = v at *
  generalize A.map D.str = SA at *
  generalize A.length = n1 at *
  unfold F__law_wish; refine ws_fnE rfl ?_; unfold m__law_wish; simp only [List.map_cons, List.map_nil, List.cons_append, List.nil_append, List.replicate]
  (repeat' ((try with_reducible apply ws_seq); first | (with_reducible first | apply ws_if_and | apply ws_if_or | apply ws_if_not | apply ws_ret_and | apply ws_ret_or | apply ws_ret_if | apply ws_set_and | apply ws_set_or | apply ws_set_if) | ((first | (with_reducible apply ws_next) | ((with_reducible first | refine ws_if fun rZ hZ => ?_ | refine ws_at fun rZ hZ => ?_); simp (disch := first | (simp; done) | assumption | omega | rfl | (simp; omega)) [mkFn,iIfS,iSeq,iOr,iAnd,iNot,iIf,iIsT,iVar,thenS,Rs.bind,Lk.hold,rdv,rdvs,isTy,isB,iRet,iChain,gLe,gLt,gGt,gGe,gCmp,retv,iNext,iC,op2,gAdd_i,gAdd_t,gAdd_l,gAdd_s,mulOk_b,dec_of,gSub,gMod,gDiv,iSet,iOwn,Lk.arg,Lk.args,Lk.pargs,Lk.settle,setv,iDrop,iTup,iLst,iB,rdvL,rdvLs,gLen,gList,gTuple,gMax,iCall,backR,ofRV,iMeth,lookM,iNew,iFld,iSetF,getF,putFl,gEq,gNe,gIs,notL,gIx,iNeg,iMut,mutTail,getL,putL,gApp,iDct,iHeap,noRef,noRefs,isFlat,tgN,tgT,tgs,iSl,pNo,pSome,gCut,iTgt,gPow,gMul,Lk.qE,iRaise,isSub,isKeyD,iSlS,iSetK,isTup,op2k, m0, ix, lm, z0, mixed, q1, q2, q3, q4, q5, q6] at hZ; subst hZ)); first | (with_reducible first | apply c_T | apply c_F | refine c_D (fun hz => ?_) (fun hz => ?_) | refine c_N (fun hz => ?_) (fun hz => ?_) | refine c_B (fun hz => ?_) (fun hz => ?_) | apply c_X) | (repeat1' (with_reducible first | apply q_nx | apply q_ret | apply q_exc | apply q_brk | apply q_cnt | apply l_nx | apply l_cnt | apply l_brk | apply l_ret | apply l_exc | apply f_nx | apply f_ret | apply f_exc)))))
  (all_goals first | with_reducible rfl | (simp [*]; done) | (exfalso; omega) | skip)
def wStore (A : List Str) (c k : Int) : Str := (A ++ nmsI (mixI c k / 16) 8).getD (mixI c k % (A.length + 8)).toNat ""
theorem w_store (word : Str) (W : Wq word false false false false true false) (A : List Str) (rA : RowK A) (c k : Int) (h0 : 0 ≤ k) (hk : k < 1000) (hp : List Ob) : nameOk (wStore A c k) ∧ F__law_wish [.str word, tS A, .int c, .int k] hp = .ok (.v (.str (wStore A c k))) hp := by
  obtain ⟨q1, q2, q3, q4, q5, q6⟩ := W
  have lA := rA.1
  have m0 := r_mixed c k h0 (by omega) hp
  have mb := mix_b c k
  have nm := r_lnames (mixI c k / 16) 8 (by omega) (by decide) hp
  obtain ⟨nl, nok, _⟩ := nms_ok (mixI c k / 16) 8 (by decide)
  have z0 : (0 : Int) < (A.length : Int) + 8 := by omega
  have h1 := Int.emod_nonneg (mixI c k) (show (A.length : Int) + 8 ≠ 0 by omega)
  have h2 := Int.emod_lt_of_pos (mixI c k) z0
  have ix := idx_s (A ++ nmsI (mixI c k / 16) 8) _ h1 (by rw [List.length_append, nl]; omega)
  have g := in_getD (A ++ nmsI (mixI c k / 16) 8) (mixI c k % (A.length + 8)).toNat "" (by rw [List.length_append, nl]; omega)
  have lm : (A.map D.str).length = A.length := List.length_map _
  have ga := gAdd_l (A.map D.str) ((nmsI (mixI c k / 16) 8).map D.str) (by rw [List.length_map, List.length_map, nl]; omega)
  rw [← List.map_append] at ga
  refine ⟨?_, ?_⟩
  · rcases List.mem_append.mp g with h | h
    · exact rA.2.2 _ h
    · exact nok _ h
  unfold wStore tS
  generalize (A ++ nmsI (mixI c k / 16) 8).getD (mixI c k % (A.length + 8)).toNat "" = v at *
  generalize (A ++ nmsI (mixI c k / 16) 8).map D.str = SB at *
  generalize (nmsI (mixI c k / 16) 8).map D.str = SN at *
  generalize A.map D.str = SA at *
  generalize A.length = n1 at *
  have nm : F__law_names [.int (mixI c k / 16), .int 8] hp = .ok (.fr SN) hp := nm
  unfold F__law_wish; refine ws_fnE rfl ?_; unfold m__law_wish; simp only [List.map_cons, List.map_nil, List.cons_append, List.nil_append, List.replicate]
  (repeat' ((try with_reducible apply ws_seq); first | (with_reducible first | apply ws_if_and | apply ws_if_or | apply ws_if_not | apply ws_ret_and | apply ws_ret_or | apply ws_ret_if | apply ws_set_and | apply ws_set_or | apply ws_set_if) | ((first | (with_reducible apply ws_next) | ((with_reducible first | refine ws_if fun rZ hZ => ?_ | refine ws_at fun rZ hZ => ?_); simp (disch := first | (simp; done) | assumption | omega | rfl | (simp; omega)) [mkFn,iIfS,iSeq,iOr,iAnd,iNot,iIf,iIsT,iVar,thenS,Rs.bind,Lk.hold,rdv,rdvs,isTy,isB,iRet,iChain,gLe,gLt,gGt,gGe,gCmp,retv,iNext,iC,op2,gAdd_i,gAdd_t,gAdd_l,gAdd_s,mulOk_b,dec_of,gSub,gMod,gDiv,iSet,iOwn,Lk.arg,Lk.args,Lk.pargs,Lk.settle,setv,iDrop,iTup,iLst,iB,rdvL,rdvLs,gLen,gList,gTuple,gMax,iCall,backR,ofRV,iMeth,lookM,iNew,iFld,iSetF,getF,putFl,gEq,gNe,gIs,notL,gIx,iNeg,iMut,mutTail,getL,putL,gApp,iDct,iHeap,noRef,noRefs,isFlat,tgN,tgT,tgs,iSl,pNo,pSome,gCut,iTgt,gPow,gMul,Lk.qE,iRaise,isSub,isKeyD,iSlS,iSetK,isTup,op2k, m0, nm, ga, ix, lm, z0, mixed, q1, q2, q3, q4, q5, q6] at hZ; subst hZ)); first | (with_reducible first | apply c_T | apply c_F | refine c_D (fun hz => ?_) (fun hz => ?_) | refine c_N (fun hz => ?_) (fun hz => ?_) | refine c_B (fun hz => ?_) (fun hz => ?_) | apply c_X) | (repeat1' (with_reducible first | apply q_nx | apply q_ret | apply q_exc | apply q_brk | apply q_cnt | apply l_nx | apply l_cnt | apply l_brk | apply l_ret | apply l_exc | apply f_nx | apply f_ret | apply f_exc)))))
  (all_goals first | with_reducible rfl | (simp [*]; done) | (exfalso; omega) | skip)
theorem w_hire (word : Str) (W : Wq word false false true false false false) (start : D) (c k : Int) (hB : Bits 1048577 c) (h0 : 0 ≤ k) (hk : k < 1000) (hp : List Ob) : F__law_wish [.str word, start, .int c, .int k] hp = .ok (.v (.int (amtI c (k + 90)))) hp := by
  obtain ⟨q1, q2, q3, q4, q5, q6⟩ := W
  have m0 := r_mixed c k h0 (by omega) hp
  have am := r_amt c (k + 90) hB (by omega) (by omega) hp
  unfold F__law_wish; refine ws_fnE rfl ?_; unfold m__law_wish; simp only [List.map_cons, List.map_nil, List.cons_append, List.nil_append, List.replicate]
  (repeat' ((try with_reducible apply ws_seq); first | (with_reducible first | apply ws_if_and | apply ws_if_or | apply ws_if_not | apply ws_ret_and | apply ws_ret_or | apply ws_ret_if | apply ws_set_and | apply ws_set_or | apply ws_set_if) | ((first | (with_reducible apply ws_next) | ((with_reducible first | refine ws_if fun rZ hZ => ?_ | refine ws_at fun rZ hZ => ?_); simp (disch := first | (simp; done) | assumption | omega | rfl | (simp; omega)) [mkFn,iIfS,iSeq,iOr,iAnd,iNot,iIf,iIsT,iVar,thenS,Rs.bind,Lk.hold,rdv,rdvs,isTy,isB,iRet,iChain,gLe,gLt,gGt,gGe,gCmp,retv,iNext,iC,op2,gAdd_i,gAdd_t,gAdd_l,gAdd_s,mulOk_b,dec_of,gSub,gMod,gDiv,iSet,iOwn,Lk.arg,Lk.args,Lk.pargs,Lk.settle,setv,iDrop,iTup,iLst,iB,rdvL,rdvLs,gLen,gList,gTuple,gMax,iCall,backR,ofRV,iMeth,lookM,iNew,iFld,iSetF,getF,putFl,gEq,gNe,gIs,notL,gIx,iNeg,iMut,mutTail,getL,putL,gApp,iDct,iHeap,noRef,noRefs,isFlat,tgN,tgT,tgs,iSl,pNo,pSome,gCut,iTgt,gPow,gMul,Lk.qE,iRaise,isSub,isKeyD,iSlS,iSetK,isTup,op2k, m0, am, mixed, q1, q2, q3, q4, q5, q6] at hZ; subst hZ)); first | (with_reducible first | apply c_T | apply c_F | refine c_D (fun hz => ?_) (fun hz => ?_) | refine c_N (fun hz => ?_) (fun hz => ?_) | refine c_B (fun hz => ?_) (fun hz => ?_) | apply c_X) | (repeat1' (with_reducible first | apply q_nx | apply q_ret | apply q_exc | apply q_brk | apply q_cnt | apply l_nx | apply l_cnt | apply l_brk | apply l_ret | apply l_exc | apply f_nx | apply f_ret | apply f_exc)))))
  (all_goals first | with_reducible rfl | (simp [*]; done) | (exfalso; omega) | skip)
theorem w_bags (word : Str) (W : Wq word false false false false false true) (R : Int) (hR : 1 ≤ R ∧ R ≤ 1000000000000000000) (c k : Int) (hB : Bits 1048577 c) (h0 : 0 ≤ k) (hk : k < 1000) (hp : List Ob) : F__law_wish [.str word, .tup [.int R], .int c, .int k] hp = .ok (.v (.int (1 + amtI c (k + 90) % R))) hp := by
  obtain ⟨q1, q2, q3, q4, q5, q6⟩ := W
  have m0 := r_mixed c k h0 (by omega) hp
  have am := r_amt c (k + 90) hB (by omega) (by omega) hp
  have t0 : L2.atI [D.int R] 0 = some (.int R) := rfl
  have z0 : 0 < R := by omega
  unfold F__law_wish; refine ws_fnE rfl ?_; unfold m__law_wish; simp only [List.map_cons, List.map_nil, List.cons_append, List.nil_append, List.replicate]
  (repeat' ((try with_reducible apply ws_seq); first | (with_reducible first | apply ws_if_and | apply ws_if_or | apply ws_if_not | apply ws_ret_and | apply ws_ret_or | apply ws_ret_if | apply ws_set_and | apply ws_set_or | apply ws_set_if) | ((first | (with_reducible apply ws_next) | ((with_reducible first | refine ws_if fun rZ hZ => ?_ | refine ws_at fun rZ hZ => ?_); simp (disch := first | (simp; done) | assumption | omega | rfl | (simp; omega)) [mkFn,iIfS,iSeq,iOr,iAnd,iNot,iIf,iIsT,iVar,thenS,Rs.bind,Lk.hold,rdv,rdvs,isTy,isB,iRet,iChain,gLe,gLt,gGt,gGe,gCmp,retv,iNext,iC,op2,gAdd_i,gAdd_t,gAdd_l,gAdd_s,mulOk_b,dec_of,gSub,gMod,gDiv,iSet,iOwn,Lk.arg,Lk.args,Lk.pargs,Lk.settle,setv,iDrop,iTup,iLst,iB,rdvL,rdvLs,gLen,gList,gTuple,gMax,iCall,backR,ofRV,iMeth,lookM,iNew,iFld,iSetF,getF,putFl,gEq,gNe,gIs,notL,gIx,iNeg,iMut,mutTail,getL,putL,gApp,iDct,iHeap,noRef,noRefs,isFlat,tgN,tgT,tgs,iSl,pNo,pSome,gCut,iTgt,gPow,gMul,Lk.qE,iRaise,isSub,isKeyD,iSlS,iSetK,isTup,op2k, m0, am, t0, z0, mixed, q1, q2, q3, q4, q5, q6] at hZ; subst hZ)); first | (with_reducible first | apply c_T | apply c_F | refine c_D (fun hz => ?_) (fun hz => ?_) | refine c_N (fun hz => ?_) (fun hz => ?_) | refine c_B (fun hz => ?_) (fun hz => ?_) | apply c_X) | (repeat1' (with_reducible first | apply q_nx | apply q_ret | apply q_exc | apply q_brk | apply q_cnt | apply l_nx | apply l_cnt | apply l_brk | apply l_ret | apply l_exc | apply f_nx | apply f_ret | apply f_exc)))))
  (all_goals first | with_reducible rfl | (simp [*]; done) | (exfalso; omega) | skip)
def wWays (n : Nat) (c k : Int) : List Int := (List.range n).map fun j : Nat => amtI c (9 * k + 90 + j)
theorem w_ways (word : Str) (W : Wq word false false false true false false) (n : Nat) (t : Int) (h : Nat) (hn : n ≤ 8) (c k : Int) (hB : Bits 1048577 c) (h0 : 0 ≤ k) (hk : k < 1000) (hp : List Ob) : Ch.Chg n (wWays n c k) ∧ F__law_wish [.str word, .tup [.int (n : Nat), .int t, .int (h : Nat)], .int c, .int k] hp = .ok (.v (tI (wWays n c k))) hp := by
  obtain ⟨q1, q2, q3, q4, q5, q6⟩ := W
  have m0 := r_mixed c k h0 (by omega) hp
  have t0 : L2.atI [D.int (n : Nat), .int t, .int (h : Nat)] 0 = some (.int (n : Nat)) := rfl
  have m9 : mulOk 9 k = true := mulOk_b (by omega) (by omega) (by omega) (by omega)
  refine ⟨⟨by simp [wWays], fun y hy => ?_⟩, ?_⟩
  · obtain ⟨j, _, rfl⟩ := List.mem_map.mp hy
    exact amt_b _ _
  have e : c__law_wish_1 ⟨[.v (.str word), .v (.tup [.int (n : Nat), .int t, .int (h : Nat)]), .v (.int c), .v (.int k), .v (.int (mixI c k)), .no], hp⟩ = .ok (.fr ((wWays n c k).map D.int)) ⟨[.v (.str word), .v (.tup [.int (n : Nat), .int t, .int (h : Nat)]), .v (.int c), .v (.int k), .v (.int (mixI c k)), .no], hp⟩ := by
    unfold wWays
    rw [List.map_map]
    unfold c__law_wish_1
    exact lc_rng (s1 := ⟨[.v (.str word), .v (.tup [.int (n : Nat), .int t, .int (h : Nat)]), .v (.int c), .v (.int k), .v (.int (mixI c k)), .no], hp⟩) (fun j => .int (amtI c (9 * k + 90 + (j : Nat)))) (by simp [mkFn,iIfS,iSeq,iOr,iAnd,iNot,iIf,iIsT,iVar,thenS,Rs.bind,Lk.hold,rdv,rdvs,isTy,isB,iRet,iChain,gLe,gLt,gGt,gGe,gCmp,retv,iNext,iC,op2,gAdd_i,gAdd_t,gAdd_l,gAdd_s,mulOk_b,dec_of,gSub,gMod,gDiv,iSet,iOwn,Lk.arg,Lk.args,Lk.pargs,Lk.settle,setv,iDrop,iTup,iLst,iB,rdvL,rdvLs,gLen,gList,gTuple,gMax,iCall,backR,ofRV,iMeth,lookM,iNew,iFld,iSetF,getF,putFl,gEq,gNe,gIs,notL,gIx,iNeg,iMut,mutTail,getL,putL,gApp,iDct,iHeap,noRef,noRefs,isFlat,tgN,tgT,tgs,iSl,pNo,pSome,gCut,iTgt,gPow,gMul,Lk.qE,iRaise,isSub,isKeyD,iSlS,iSetK,isTup,op2k, t0]) (by omega) (fun j hj => by
      have p := r_amt c (9 * k + 90 + (j : Nat)) hB (by omega) (by omega)
      simp (disch := first | (simp; done) | assumption | omega | rfl | (simp; omega)) [mkFn,iIfS,iSeq,iOr,iAnd,iNot,iIf,iIsT,iVar,thenS,Rs.bind,Lk.hold,rdv,rdvs,isTy,isB,iRet,iChain,gLe,gLt,gGt,gGe,gCmp,retv,iNext,iC,op2,gAdd_i,gAdd_t,gAdd_l,gAdd_s,mulOk_b,dec_of,gSub,gMod,gDiv,iSet,iOwn,Lk.arg,Lk.args,Lk.pargs,Lk.settle,setv,iDrop,iTup,iLst,iB,rdvL,rdvLs,gLen,gList,gTuple,gMax,iCall,backR,ofRV,iMeth,lookM,iNew,iFld,iSetF,getF,putFl,gEq,gNe,gIs,notL,gIx,iNeg,iMut,mutTail,getL,putL,gApp,iDct,iHeap,noRef,noRefs,isFlat,tgN,tgT,tgs,iSl,pNo,pSome,gCut,iTgt,gPow,gMul,Lk.qE,iRaise,isSub,isKeyD,iSlS,iSetK,isTup,op2k, Lk.Sx.wipe, wipeE, m9, p])
  unfold tI
  generalize (wWays n c k).map D.int = SV at *
  generalize mixI c k = M at *
  unfold F__law_wish; refine ws_fnE rfl ?_; unfold m__law_wish; simp only [List.map_cons, List.map_nil, List.cons_append, List.nil_append, List.replicate]
  (repeat' ((try with_reducible apply ws_seq); first | (with_reducible first | apply ws_if_and | apply ws_if_or | apply ws_if_not | apply ws_ret_and | apply ws_ret_or | apply ws_ret_if | apply ws_set_and | apply ws_set_or | apply ws_set_if) | ((first | (with_reducible apply ws_next) | ((with_reducible first | refine ws_if fun rZ hZ => ?_ | refine ws_at fun rZ hZ => ?_); simp (disch := first | (simp; done) | assumption | omega | rfl | (simp; omega)) [mkFn,iIfS,iSeq,iOr,iAnd,iNot,iIf,iIsT,iVar,thenS,Rs.bind,Lk.hold,rdv,rdvs,isTy,isB,iRet,iChain,gLe,gLt,gGt,gGe,gCmp,retv,iNext,iC,op2,gAdd_i,gAdd_t,gAdd_l,gAdd_s,mulOk_b,dec_of,gSub,gMod,gDiv,iSet,iOwn,Lk.arg,Lk.args,Lk.pargs,Lk.settle,setv,iDrop,iTup,iLst,iB,rdvL,rdvLs,gLen,gList,gTuple,gMax,iCall,backR,ofRV,iMeth,lookM,iNew,iFld,iSetF,getF,putFl,gEq,gNe,gIs,notL,gIx,iNeg,iMut,mutTail,getL,putL,gApp,iDct,iHeap,noRef,noRefs,isFlat,tgN,tgT,tgs,iSl,pNo,pSome,gCut,iTgt,gPow,gMul,Lk.qE,iRaise,isSub,isKeyD,iSlS,iSetK,isTup,op2k, m0, e, mixed, q1, q2, q3, q4, q5, q6] at hZ; subst hZ)); first | (with_reducible first | apply c_T | apply c_F | refine c_D (fun hz => ?_) (fun hz => ?_) | refine c_N (fun hz => ?_) (fun hz => ?_) | refine c_B (fun hz => ?_) (fun hz => ?_) | apply c_X) | (repeat1' (with_reducible first | apply q_nx | apply q_ret | apply q_exc | apply q_brk | apply q_cnt | apply l_nx | apply l_cnt | apply l_brk | apply l_ret | apply l_exc | apply f_nx | apply f_ret | apply f_exc)))))
  (all_goals first | with_reducible rfl | (simp [*]; done) | (exfalso; omega) | skip)
theorem rep_flat {α : Type} (x : α) : ∀ k : Nat, (List.replicate k [x]).flatten = List.replicate k x
  | 0 => rfl
  | k + 1 => by rw [List.replicate_succ, List.flatten_cons, rep_flat x k]; rfl
theorem repV_one (x : D) (k : Int) (h : 0 ≤ k ∧ k ≤ 1000) : gRepV (.lst [x]) (.int k) = some (.fr (List.replicate k.toNat x)) := by
  show (if 0 ≤ k ∧ k ≤ 1000 ∧ [x].length ≤ 1000 then some (RX.fr (List.replicate k.toNat [x]).flatten) else none) = _
  rw [if_pos ⟨h.1, h.2, by simp⟩, rep_flat]
def cntI (z : Int) : Nat := if z % 5 = 3 then 1 else if z % 5 = 4 then 2 else 0
theorem cnt_le (z : Int) : cntI z ≤ 2 := by unfold cntI; repeat' split
                                            all_goals omega
theorem cnt_at (z : Int) : L2.atI [D.int 0, .int 0, .int 0, .int 1, .int 2] (z % 5) = some (.int (cntI z : Nat)) := by
  have q : z % 5 = 0 ∨ z % 5 = 1 ∨ z % 5 = 2 ∨ z % 5 = 3 ∨ z % 5 = 4 := by omega
  unfold cntI
  rcases q with q | q | q | q | q <;> rw [q] <;> rfl
def sprI (b : Nat → Nat) (L : List Str) : Nat → List Str
  | 0 => []
  | i + 1 => sprI b L i ++ List.replicate (b i) ("" : Str) ++ [L.getD i ""]
theorem spr_len (b : Nat → Nat) (hb : ∀ i, b i ≤ 2) (L : List Str) : ∀ i, (sprI b L i).length ≤ 3 * i
  | 0 => by simp [sprI]
  | i + 1 => by
    have ih := spr_len b hb L i
    have := hb i
    simp only [sprI, List.length_append, List.length_replicate, List.length_cons, List.length_nil]
    omega
theorem filt_rep (k : Nat) : (List.replicate k ("" : Str)).filter nb = [] := List.filter_eq_nil_iff.mpr fun x hx => by
  rw [(List.mem_replicate.mp hx).2]; simp [nb]
theorem spr_filt (b : Nat → Nat) (L : List Str) (hL : ∀ x ∈ L, x ≠ "") : ∀ i, i ≤ L.length → (sprI b L i).filter nb = L.take i
  | 0, _ => by simp [sprI]
  | i + 1, h => by
    have ih := spr_filt b L hL i (by omega)
    have g : L.getD i "" = L[i] := by rw [List.getD_eq_getElem?_getD, List.getElem?_eq_getElem (by omega)]; rfl
    have n : nb L[i] = true := by unfold nb; rw [decide_eq_false (hL _ (List.getElem_mem (by omega)))]; rfl
    unfold sprI
    rw [List.filter_append, List.filter_append, ih, filt_rep, g, List.filter_cons_of_pos n, List.append_nil, take_snoc L i (by omega)]
    rfl
theorem r_text (ns : List Int) (L : List Str) (hL : ∀ x ∈ L, x ≠ "" ∧ x.length ≤ 200) (hl : L.length ≤ 300) (H : List Ob) :
    ∃ Ls : List Str, Ls.filter nb = L ∧ Ls.length ≤ 2000 ∧ F__law_text [.rol ns, .lst (L.map D.str)] H = .ok (.v (.str (PySem.Txt.join "\n" Ls))) H := by
  have c0 := r_cell ns 0 (by decide) H
  generalize cellI ns 0 = d at *
  have mk := fun k (h0 : (0 : Int) ≤ k) (hk : k < 1000000) => r_mixed d k h0 hk H
  have mb := mix_b d 299
  let b : Nat → Nat := fun i => cntI (mixI d (300 + (i : Int)))
  have hb : ∀ i, b i ≤ 2 := fun i => cnt_le _
  have sl := spr_len b hb L
  have sf := spr_filt b L (fun x hx => (hL x hx).1)
  obtain ⟨e, he⟩ := Int.eq_ofNat_of_zero_le (show (0 : Int) ≤ mixI d 299 % 3 by omega)
  have he3 : e ≤ 2 := by omega
  have lm : (L.map D.str).length = L.length := List.length_map _
  refine ⟨sprI b L L.length ++ List.replicate e ("" : Str), by rw [List.filter_append, filt_rep, sf _ (Nat.le_refl _), List.take_of_length_le (Nat.le_refl _), List.append_nil], by rw [List.length_append, List.length_replicate]; have := sl L.length; omega, ?_⟩
  have all : ∀ x ∈ sprI b L L.length ++ List.replicate e ("" : Str), x.length ≤ 200 := fun x hx => by
    by_cases z : x = ""
    · rw [z, emp_len]; omega
    · rcases List.mem_append.mp hx with h | h
      · have : x ∈ (sprI b L L.length).filter nb := List.mem_filter.mpr ⟨h, by unfold nb; rw [decide_eq_false z]; rfl⟩
        rw [sf _ (Nat.le_refl _)] at this
        exact (hL x (List.mem_of_mem_take this)).2
      · exact absurd (List.mem_replicate.mp h).2 z
  have jn := join_ok "\n" (sprI b L L.length ++ List.replicate e ("" : Str)) (by
    have a := sum_le _ 200 all
    have l := sl L.length
    rw [nl_len]
    rw [List.length_append, List.length_replicate] at a ⊢
    omega)
  have m299 := mk 299 (by decide) (by decide)
  have rp := repV_one (.str "") (e : Int) (by omega)
  rw [Int.toNat_natCast] at rp
  have ga : gAdd (.lst ((sprI b L L.length).map D.str)) (.lst (List.replicate e (.str ""))) = some (.fr ((sprI b L L.length ++ List.replicate e ("" : Str)).map D.str)) := by
    rw [gAdd_l _ _ (by rw [List.length_map, List.length_replicate]; have := sl L.length; omega), List.map_append, List.map_replicate]
  generalize PySem.Txt.join "\n" (sprI b L L.length ++ List.replicate e ("" : Str)) = text at *
  generalize (sprI b L L.length ++ List.replicate e ("" : Str)).map D.str = T at *
  have hq : qR1 (iB gLen [(iVar 1)]) ⟨[.v (.rol ns), .v (.lst (L.map D.str)), .own [], .no], H⟩ = .ok (rngD 0 L.length, .val) ⟨[.v (.rol ns), .v (.lst (L.map D.str)), .own [], .no], H⟩ := r1_ok (j := L.length) (by
    generalize L.map D.str = P at *
    simp [mkFn,iIfS,iSeq,iOr,iAnd,iNot,iIf,iIsT,iVar,thenS,Rs.bind,Lk.hold,rdv,rdvs,isTy,isB,iRet,iChain,gLe,gLt,gGt,gGe,gCmp,retv,iNext,iC,op2,gAdd_i,gAdd_t,gAdd_l,gAdd_s,mulOk_b,dec_of,gSub,gMod,gDiv,iSet,iOwn,Lk.arg,Lk.args,Lk.pargs,Lk.settle,setv,iDrop,iTup,iLst,iB,rdvL,rdvLs,gLen,gList,gTuple,gMax,iCall,backR,ofRV,iMeth,lookM,iNew,iFld,iSetF,getF,putFl,gEq,gNe,gIs,notL,gIx,iNeg,iMut,mutTail,getL,putL,gApp,iDct,iHeap,noRef,noRefs,isFlat,tgN,tgT,tgs,iSl,pNo,pSome,gCut,iTgt,gPow,gMul,Lk.qE,iRaise,isSub,isKeyD,iSlS,iSetK,isTup,op2k, lm]) rfl (by omega)
  have loop : WS (iSeq (iFor (qR1 (iB gLen [(iVar 1)])) (tgN 3) b__law_text_1)
    (iRet (op2k isStr gJoin (iC (.str "\n")) (op2 gAdd (iVar 2) (op2 gRepV (iLst [(iC (.str ""))]) (op2 gMod (iCall F__law_mixed [(iCall F__law_cell [(iVar 0), (iC (.int 0))]), (iC (.int 299))]) (iC (.int 3)))))))) ⟨[.v (.rol ns), .v (.lst (L.map D.str)), .own [], .no], H⟩ (endF fun r => r = .ok (.v (.str text)) H) := by
    with_reducible refine ws_seq ?_
    refine ws_forN (rngD 0 L.length) _ hq (fun i s => ∃ a, s = ⟨[.v (.rol ns), .v (.lst (L.map D.str)), .own ((sprI b L i).map D.str), a], H⟩) ⟨_, rfl⟩ ?_ ?_
    · rintro i x s1 hx ⟨a, rfl⟩
      obtain ⟨hi, rfl⟩ := rngD_get hx
      rw [Int.zero_add]
      have mi := mk (300 + (i : Int)) (by omega) (by omega)
      have ca := cnt_at (mixI d (300 + (i : Int)))
      have hc := hb i
      have rp2 := repV_one (.str "") (b i : Int) (by omega)
      rw [Int.toNat_natCast] at rp2
      have sli := sl i
      have ga2 : gAdd (.lst ((sprI b L i).map D.str)) (.lst (List.replicate (b i) (.str ""))) = some (.fr ((sprI b L i ++ List.replicate (b i) ("" : Str)).map D.str)) := by
        rw [gAdd_l _ _ (by rw [List.length_map, List.length_replicate]; omega), List.map_append, List.map_replicate]
      have li := idx_s L (i : Int) (by omega) (by omega)
      rw [Int.toNat_natCast] at li
      have nx : (sprI b L (i + 1)).map D.str = (sprI b L i ++ List.replicate (b i) ("" : Str)).map D.str ++ [.str (L.getD i "")] := by rw [← List.map_singleton (f := D.str), ← List.map_append]; rfl
      have ll : ((sprI b L i ++ List.replicate (b i) ("" : Str)).map D.str).length < 1000000 := by rw [List.length_map, List.length_append, List.length_replicate]; omega
      rw [nx]
      have ca : L2.atI [D.int 0, .int 0, .int 0, .int 1, .int 2] (mixI d (300 + (i : Int)) % 5) = some (.int (b i : Nat)) := ca
      generalize (sprI b L i ++ List.replicate (b i) ("" : Str)).map D.str = Q at *
      generalize (sprI b L i).map D.str = Q0 at *
      generalize L.getD i "" = y at *
      generalize L.map D.str = P at *
      generalize mixI d (300 + (i : Int)) = z at *
      generalize b i = bi at *
      generalize List.replicate bi (D.str "") = Rp at *
      clear jn rp ga m299 hq all sf sl
      unfold b__law_text_1
      simp only [Lk.setv, List.set]
      (repeat' ((try with_reducible apply ws_seq); first | (with_reducible first | apply ws_if_and | apply ws_if_or | apply ws_if_not | apply ws_ret_and | apply ws_ret_or | apply ws_ret_if | apply ws_set_and | apply ws_set_or | apply ws_set_if) | ((first | (with_reducible apply ws_next) | ((with_reducible first | refine ws_if fun rZ hZ => ?_ | refine ws_at fun rZ hZ => ?_); simp (disch := first | (simp; done) | assumption | omega | rfl | (simp; omega)) [mkFn,iIfS,iSeq,iOr,iAnd,iNot,iIf,iIsT,iVar,thenS,Rs.bind,Lk.hold,rdv,rdvs,isTy,isB,iRet,iChain,gLe,gLt,gGt,gGe,gCmp,retv,iNext,iC,op2,gAdd_i,gAdd_t,gAdd_l,gAdd_s,mulOk_b,dec_of,gSub,gMod,gDiv,iSet,iOwn,Lk.arg,Lk.args,Lk.pargs,Lk.settle,setv,iDrop,iTup,iLst,iB,rdvL,rdvLs,gLen,gList,gTuple,gMax,iCall,backR,ofRV,iMeth,lookM,iNew,iFld,iSetF,getF,putFl,gEq,gNe,gIs,notL,gIx,iNeg,iMut,mutTail,getL,putL,gApp,iDct,iHeap,noRef,noRefs,isFlat,tgN,tgT,tgs,iSl,pNo,pSome,gCut,iTgt,gPow,gMul,Lk.qE,iRaise,isSub,isKeyD,iSlS,iSetK,isTup,op2k, c0, mi, ca, rp2, ga2, li, ll] at hZ; subst hZ)); first | (with_reducible first | apply c_T | apply c_F | refine c_D (fun hz => ?_) (fun hz => ?_) | refine c_N (fun hz => ?_) (fun hz => ?_) | refine c_B (fun hz => ?_) (fun hz => ?_) | apply c_X) | (repeat1' (with_reducible first | apply q_nx | apply q_ret | apply q_exc | apply q_brk | apply q_cnt | apply l_nx | apply l_cnt | apply l_brk | apply l_ret | apply l_exc | apply f_nx | apply f_ret | apply f_exc)))))
      exact ⟨_, rfl⟩
    · rintro s1 ⟨a, rfl⟩
      have l6 : (rngD 0 L.length).length = L.length := by simp [rngD]
      rw [l6]
      generalize (sprI b L L.length).map D.str = Q0 at *
      generalize List.replicate e (D.str "") = Rp at *
      generalize L.map D.str = P at *
      generalize mixI d 299 = z at *
      clear hq all sf sl mk
      (repeat1' (with_reducible first | apply q_nx | apply q_ret | apply q_exc | apply q_brk | apply q_cnt | apply l_nx | apply l_cnt | apply l_brk | apply l_ret | apply l_exc | apply f_nx | apply f_ret | apply f_exc))
      (repeat' ((try with_reducible apply ws_seq); first | (with_reducible first | apply ws_if_and | apply ws_if_or | apply ws_if_not | apply ws_ret_and | apply ws_ret_or | apply ws_ret_if | apply ws_set_and | apply ws_set_or | apply ws_set_if) | ((first | (with_reducible apply ws_next) | ((with_reducible first | refine ws_if fun rZ hZ => ?_ | refine ws_at fun rZ hZ => ?_); simp (disch := first | (simp; done) | assumption | omega | rfl | (simp; omega)) [mkFn,iIfS,iSeq,iOr,iAnd,iNot,iIf,iIsT,iVar,thenS,Rs.bind,Lk.hold,rdv,rdvs,isTy,isB,iRet,iChain,gLe,gLt,gGt,gGe,gCmp,retv,iNext,iC,op2,gAdd_i,gAdd_t,gAdd_l,gAdd_s,mulOk_b,dec_of,gSub,gMod,gDiv,iSet,iOwn,Lk.arg,Lk.args,Lk.pargs,Lk.settle,setv,iDrop,iTup,iLst,iB,rdvL,rdvLs,gLen,gList,gTuple,gMax,iCall,backR,ofRV,iMeth,lookM,iNew,iFld,iSetF,getF,putFl,gEq,gNe,gIs,notL,gIx,iNeg,iMut,mutTail,getL,putL,gApp,iDct,iHeap,noRef,noRefs,isFlat,tgN,tgT,tgs,iSl,pNo,pSome,gCut,iTgt,gPow,gMul,Lk.qE,iRaise,isSub,isKeyD,iSlS,iSetK,isTup,op2k, c0, m299, he, rp, ga, jn, isStr] at hZ; subst hZ)); first | (with_reducible first | apply c_T | apply c_F | refine c_D (fun hz => ?_) (fun hz => ?_) | refine c_N (fun hz => ?_) (fun hz => ?_) | refine c_B (fun hz => ?_) (fun hz => ?_) | apply c_X) | (repeat1' (with_reducible first | apply q_nx | apply q_ret | apply q_exc | apply q_brk | apply q_cnt | apply l_nx | apply l_cnt | apply l_brk | apply l_ret | apply l_exc | apply f_nx | apply f_ret | apply f_exc)))))
      (all_goals first | with_reducible rfl | (simp [*]; done) | (exfalso; omega) | skip)
  generalize L.map D.str = P at *
  unfold F__law_text; refine ws_fnE rfl ?_; unfold m__law_text; simp only [List.map_cons, List.map_nil, List.cons_append, List.nil_append, List.replicate]
  clear hq all sf sl mk
  (repeat' ((try with_reducible apply ws_seq); first | (with_reducible first | apply ws_if_and | apply ws_if_or | apply ws_if_not | apply ws_ret_and | apply ws_ret_or | apply ws_ret_if | apply ws_set_and | apply ws_set_or | apply ws_set_if) | ((first | (with_reducible apply ws_next) | ((with_reducible first | refine ws_if fun rZ hZ => ?_ | refine ws_at fun rZ hZ => ?_); simp (disch := first | (simp; done) | assumption | omega | rfl | (simp; omega)) [mkFn,iIfS,iSeq,iOr,iAnd,iNot,iIf,iIsT,iVar,thenS,Rs.bind,Lk.hold,rdv,rdvs,isTy,isB,iRet,iChain,gLe,gLt,gGt,gGe,gCmp,retv,iNext,iC,op2,gAdd_i,gAdd_t,gAdd_l,gAdd_s,mulOk_b,dec_of,gSub,gMod,gDiv,iSet,iOwn,Lk.arg,Lk.args,Lk.pargs,Lk.settle,setv,iDrop,iTup,iLst,iB,rdvL,rdvLs,gLen,gList,gTuple,gMax,iCall,backR,ofRV,iMeth,lookM,iNew,iFld,iSetF,getF,putFl,gEq,gNe,gIs,notL,gIx,iNeg,iMut,mutTail,getL,putL,gApp,iDct,iHeap,noRef,noRefs,isFlat,tgN,tgT,tgs,iSl,pNo,pSome,gCut,iTgt,gPow,gMul,Lk.qE,iRaise,isSub,isKeyD,iSlS,iSetK,isTup,op2k] at hZ; subst hZ)); first | (with_reducible first | apply c_T | apply c_F | refine c_D (fun hz => ?_) (fun hz => ?_) | refine c_N (fun hz => ?_) (fun hz => ?_) | refine c_B (fun hz => ?_) (fun hz => ?_) | apply c_X) | (repeat1' (with_reducible first | apply q_nx | apply q_ret | apply q_exc | apply q_brk | apply q_cnt | apply l_nx | apply l_cnt | apply l_brk | apply l_ret | apply l_exc | apply f_nx | apply f_ret | apply f_exc)))))
  exact loop
section
variable {word : Str} {start : D} {sp : List Str} {wob : Ob} {wc : Cl} {N : Nat} {w : Nat → D} {wp : Nat → List Str}
noncomputable def lineD (H : List Ob) (d : D) : D := match F__law_words [d] H with
  | .ok (.v (.str s)) _ => .str ("ask " ++ s)
  | _ => .non
theorem r_lines (G : RD word start sp wob wc N w wp) (hN : N ≤ 200) (H : List Ob) : F__law_lines [.str word, start, .lst ((List.range N).map w)] H = .ok (.fr ((linesS word sp N wp).map D.str)) H := by
  have sw := G.swords H
  have f := (line_facts G.kw.1 G.sparts).2.2.2
  have kp := G.kw.1.1
  have ga : gAdd (.str word) (.str " ") = some (.w (.str (word ++ " "))) := gAdd_s _ _ (by rw [sp_len]; omega)
  have el : ∀ i, i < N → F__law_words [w i] H = .ok (.v (.str (PySem.Txt.join " " (wp i)))) H ∧ gAdd (.str "ask ") (.str (PySem.Txt.join " " (wp i))) = some (.w (.str (lineS "ask" (wp i)))) ∧ lineD H (w i) = .str (lineS "ask" (wp i)) := fun i hi => by
    have a := G.wwords i H hi
    have b := (line_facts ask_part (G.wparts i hi)).2.2.2
    rw [← ask_eq] at b
    refine ⟨a, b, ?_⟩
    unfold lineD
    rw [a]
    show D.str ("ask " ++ PySem.Txt.join " " (wp i)) = _
    rw [ask_eq]
    congr 1
    exact (join_cons " " "ask" (wp i) (G.wparts i hi).1).symm
  have e : c__law_lines_1 ⟨[.v (.str word), .v start, .v (.lst ((List.range N).map w)), .no], H⟩ = .ok (.fr (((List.range N).map fun i => lineS "ask" (wp i)).map D.str)) ⟨[.v (.str word), .v start, .v (.lst ((List.range N).map w)), .no], H⟩ := by
    have em : ((List.range N).map fun i => lineS "ask" (wp i)).map D.str = ((List.range N).map w).map (lineD H) := by
      rw [List.map_map, List.map_map]
      exact List.map_congr_left fun i hi => (el i (List.mem_range.mp hi)).2.2.symm
    rw [em]
    have mem : ∀ d ∈ (List.range N).map w, ∃ s, F__law_words [d] H = .ok (.v (.str s)) H ∧ gAdd (.str "ask ") (.str s) = some (.w (lineD H d)) := fun d hd => by
      obtain ⟨i, hi, rfl⟩ := List.mem_map.mp hd
      obtain ⟨a, b, c⟩ := el i (List.mem_range.mp hi)
      exact ⟨_, a, by rw [b, c]⟩
    have lN : ((List.range N).map w).length = N := by simp
    generalize (List.range N).map w = W at *
    unfold c__law_lines_1
    exact lc_listA (i := 3) (s1 := ⟨[.v (.str word), .v start, .v (.lst W), .no], H⟩) (lineD H) (by simp [mkFn,iIfS,iSeq,iOr,iAnd,iNot,iIf,iIsT,iVar,thenS,Rs.bind,Lk.hold,rdv,rdvs,isTy,isB,iRet,iChain,gLe,gLt,gGt,gGe,gCmp,retv,iNext,iC,op2,gAdd_i,gAdd_t,gAdd_l,gAdd_s,mulOk_b,dec_of,gSub,gMod,gDiv,iSet,iOwn,Lk.arg,Lk.args,Lk.pargs,Lk.settle,setv,iDrop,iTup,iLst,iB,rdvL,rdvLs,gLen,gList,gTuple,gMax,iCall,backR,ofRV,iMeth,lookM,iNew,iFld,iSetF,getF,putFl,gEq,gNe,gIs,notL,gIx,iNeg,iMut,mutTail,getL,putL,gApp,iDct,iHeap,noRef,noRefs,isFlat,tgN,tgT,tgs,iSl,pNo,pSome,gCut,iTgt,gPow,gMul,Lk.qE,iRaise,isSub,isKeyD,iSlS,iSetK,isTup,op2k]) (by omega) fun d hd => by
      obtain ⟨s, a, b⟩ := mem d hd
      simp [mkFn,iIfS,iSeq,iOr,iAnd,iNot,iIf,iIsT,iVar,thenS,Rs.bind,Lk.hold,rdv,rdvs,isTy,isB,iRet,iChain,gLe,gLt,gGt,gGe,gCmp,retv,iNext,iC,op2,gAdd_i,gAdd_t,gAdd_l,gAdd_s,mulOk_b,dec_of,gSub,gMod,gDiv,iSet,iOwn,Lk.arg,Lk.args,Lk.pargs,Lk.settle,setv,iDrop,iTup,iLst,iB,rdvL,rdvLs,gLen,gList,gTuple,gMax,iCall,backR,ofRV,iMeth,lookM,iNew,iFld,iSetF,getF,putFl,gEq,gNe,gIs,notL,gIx,iNeg,iMut,mutTail,getL,putL,gApp,iDct,iHeap,noRef,noRefs,isFlat,tgN,tgT,tgs,iSl,pNo,pSome,gCut,iTgt,gPow,gMul,Lk.qE,iRaise,isSub,isKeyD,iSlS,iSetK,isTup,op2k, Lk.Sx.wipe, wipeE, a, b]
  have gl : gAdd (.lst [.str (lineS word sp)]) (.lst (((List.range N).map fun i => lineS "ask" (wp i)).map D.str)) = some (.fr ((linesS word sp N wp).map D.str)) := gAdd_l _ _ (by simp; omega)
  clear el G
  generalize (linesS word sp N wp).map D.str = T at *
  generalize ((List.range N).map fun i => lineS "ask" (wp i)).map D.str = Q at *
  generalize (List.range N).map w = W at *
  generalize PySem.Txt.join " " sp = s0 at *
  unfold F__law_lines; refine ws_fnE rfl ?_; unfold m__law_lines; simp only [List.map_cons, List.map_nil, List.cons_append, List.nil_append, List.replicate]
  (repeat' ((try with_reducible apply ws_seq); first | (with_reducible first | apply ws_if_and | apply ws_if_or | apply ws_if_not | apply ws_ret_and | apply ws_ret_or | apply ws_ret_if | apply ws_set_and | apply ws_set_or | apply ws_set_if) | ((first | (with_reducible apply ws_next) | ((with_reducible first | refine ws_if fun rZ hZ => ?_ | refine ws_at fun rZ hZ => ?_); simp (disch := first | (simp; done) | assumption | omega | rfl | (simp; omega)) [mkFn,iIfS,iSeq,iOr,iAnd,iNot,iIf,iIsT,iVar,thenS,Rs.bind,Lk.hold,rdv,rdvs,isTy,isB,iRet,iChain,gLe,gLt,gGt,gGe,gCmp,retv,iNext,iC,op2,gAdd_i,gAdd_t,gAdd_l,gAdd_s,mulOk_b,dec_of,gSub,gMod,gDiv,iSet,iOwn,Lk.arg,Lk.args,Lk.pargs,Lk.settle,setv,iDrop,iTup,iLst,iB,rdvL,rdvLs,gLen,gList,gTuple,gMax,iCall,backR,ofRV,iMeth,lookM,iNew,iFld,iSetF,getF,putFl,gEq,gNe,gIs,notL,gIx,iNeg,iMut,mutTail,getL,putL,gApp,iDct,iHeap,noRef,noRefs,isFlat,tgN,tgT,tgs,iSl,pNo,pSome,gCut,iTgt,gPow,gMul,Lk.qE,iRaise,isSub,isKeyD,iSlS,iSetK,isTup,op2k, ga, sw, f, e, gl] at hZ; subst hZ)); first | (with_reducible first | apply c_T | apply c_F | refine c_D (fun hz => ?_) (fun hz => ?_) | refine c_N (fun hz => ?_) (fun hz => ?_) | refine c_B (fun hz => ?_) (fun hz => ?_) | apply c_X) | (repeat1' (with_reducible first | apply q_nx | apply q_ret | apply q_exc | apply q_brk | apply q_cnt | apply l_nx | apply l_cnt | apply l_brk | apply l_ret | apply l_exc | apply f_nx | apply f_ret | apply f_exc)))))
  (all_goals first | with_reducible rfl | (simp [*]; done) | (exfalso; omega) | skip)
end
theorem cut_cells (ns : List Int) : ∃ cs : List Int, cs.length ≤ 60 ∧ (∀ i, i < cs.length → cs.getD i 0 ∈ ns) ∧ cutD (ns.map D.int) (some 2) (some 62) = cs.map D.int := by
  refine ⟨(ns.drop (HT.sIx (ns.map D.int).length 0 (some 2))).take (HT.sIx (ns.map D.int).length (ns.map D.int).length (some 62) - HT.sIx (ns.map D.int).length 0 (some 2)), ?_, fun i hi => ?_, ?_⟩
  · have a : HT.sIx (ns.map D.int).length 0 (some 2) = min 2 (ns.map D.int).length := HT.sIx_nat (ns.map D.int).length 0 2
    have b : HT.sIx (ns.map D.int).length (ns.map D.int).length (some 62) = min 62 (ns.map D.int).length := HT.sIx_nat (ns.map D.int).length (ns.map D.int).length 62
    rw [a, b, List.length_take]
    omega
  · exact List.mem_of_mem_drop (List.mem_of_mem_take (in_getD _ i 0 hi))
  · unfold cutD
    rw [List.map_take, List.map_drop]
theorem map_cells (cs : List Int) (j : Nat) (h : j < cs.length) : L2.atI (cs.map D.int) (j : Int) = some (.int (cs.getD j 0)) := by
  have := idx_i cs (j : Int) (by omega) (by omega)
  rw [Int.toNat_natCast] at this
  exact this
theorem r_sameR5 (a : Nat) (xs : List D) (hp : List Ob) (h : ∀ x ∈ xs, plainN 4 x = true) (ha : hp[a]? = some (.lst xs)) : F__law_same 5 [.ref a, .lst xs] hp = .ok (.v (.bl true)) hp := r_sameR 4 a xs hp (List.all_eq_true.mpr h) ha
theorem r_same3 (x y : D) (a : Nat) (xs : List D) (hp : List Ob) (hx : plainN 5 x = true) (hy : plainN 5 y = true) (h : ∀ x ∈ xs, plainN 4 x = true) (ha : hp[a]? = some (.lst xs)) : F__law_same 6 [.tup [x, y, .ref a], .tup [x, y, .lst xs]] hp = .ok (.v (.bl true)) hp := by
  have s1 := r_same 5 x hp hx
  have s2 := r_same 5 y hp hy
  have s3 := r_sameR5 a xs hp h ha
  have al : G__law_all_same (F__law_same 5) [.lst [x, y, .ref a], .lst [x, y, .lst xs]] hp = .ok (.v (.bl true)) hp := by
    have hq : qZipH (iVar 0) (iVar 1) ⟨[.v (.lst [x, y, .ref a]), .v (.lst [x, y, .lst xs]), .no, .no], hp⟩ = .ok ([.pr [x, x], .pr [y, y], .pr [.ref a, .lst xs]], .val) ⟨[.v (.lst [x, y, .ref a]), .v (.lst [x, y, .lst xs]), .no, .no], hp⟩ := by
      simp [mkFn,iIfS,iSeq,iOr,iAnd,iNot,iIf,iIsT,iVar,thenS,Rs.bind,Lk.hold,rdv,rdvs,isTy,isB,iRet,iChain,gLe,gLt,gGt,gGe,gCmp,retv,iNext,iC,op2,gAdd_i,gAdd_t,gAdd_l,gAdd_s,mulOk_b,dec_of,gSub,gMod,gDiv,iSet,iOwn,Lk.arg,Lk.args,Lk.pargs,Lk.settle,setv,iDrop,iTup,iLst,iB,rdvL,rdvLs,gLen,gList,gTuple,gMax,iCall,backR,ofRV,iMeth,lookM,iNew,iFld,iSetF,getF,putFl,gEq,gNe,gIs,notL,gIx,iNeg,iMut,mutTail,getL,putL,gApp,iDct,iHeap,noRef,noRefs,isFlat,tgN,tgT,tgs,iSl,pNo,pSome,gCut,iTgt,gPow,gMul,Lk.qE,iRaise,isSub,isKeyD,iSlS,iSetK,isTup,op2k, Lk.qZipH, Lk.lstAt, Lk.srcZ, zipD]
    unfold G__law_all_same
    refine ws_fnE rfl ?_
    unfold m__law_all_same
    simp only [List.map_cons, List.map_nil, List.cons_append, List.nil_append, List.replicate]
    generalize hL1 : [x, y, .ref a] = L1 at *
    generalize hL2 : [x, y, .lst xs] = L2 at *
    with_reducible refine ws_seq ?_
    refine ws_for _ _ hq (fun i s => ∃ a1 b1, s = ⟨[.v (.lst L1), .v (.lst L2), a1, b1], hp⟩) ⟨_, _, rfl⟩ ?_ ?_
    · rintro i z s1 hx ⟨a1, b1, rfl⟩
      have hm := List.mem_of_getElem? hx
      simp only [List.mem_cons, List.not_mem_nil, or_false] at hm
      unfold b__law_all_same_1
      rcases hm with rfl | rfl | rfl
      · refine ⟨⟨[.v (.lst L1), .v (.lst L2), .v x, .v x], hp⟩, rfl, ?_⟩
        (repeat' ((try with_reducible apply ws_seq); first | (with_reducible first | apply ws_if_and | apply ws_if_or | apply ws_if_not | apply ws_ret_and | apply ws_ret_or | apply ws_ret_if | apply ws_set_and | apply ws_set_or | apply ws_set_if) | ((first | (with_reducible apply ws_next) | ((with_reducible first | refine ws_if fun rZ hZ => ?_ | refine ws_at fun rZ hZ => ?_); simp (disch := first | (simp; done) | assumption | omega | rfl | (simp; omega)) [mkFn,iIfS,iSeq,iOr,iAnd,iNot,iIf,iIsT,iVar,thenS,Rs.bind,Lk.hold,rdv,rdvs,isTy,isB,iRet,iChain,gLe,gLt,gGt,gGe,gCmp,retv,iNext,iC,op2,gAdd_i,gAdd_t,gAdd_l,gAdd_s,mulOk_b,dec_of,gSub,gMod,gDiv,iSet,iOwn,Lk.arg,Lk.args,Lk.pargs,Lk.settle,setv,iDrop,iTup,iLst,iB,rdvL,rdvLs,gLen,gList,gTuple,gMax,iCall,backR,ofRV,iMeth,lookM,iNew,iFld,iSetF,getF,putFl,gEq,gNe,gIs,notL,gIx,iNeg,iMut,mutTail,getL,putL,gApp,iDct,iHeap,noRef,noRefs,isFlat,tgN,tgT,tgs,iSl,pNo,pSome,gCut,iTgt,gPow,gMul,Lk.qE,iRaise,isSub,isKeyD,iSlS,iSetK,isTup,op2k, s1] at hZ; subst hZ)); first | (with_reducible first | apply c_T | apply c_F | refine c_D (fun hz => ?_) (fun hz => ?_) | refine c_N (fun hz => ?_) (fun hz => ?_) | refine c_B (fun hz => ?_) (fun hz => ?_) | apply c_X) | (repeat1' (with_reducible first | apply q_nx | apply q_ret | apply q_exc | apply q_brk | apply q_cnt | apply l_nx | apply l_cnt | apply l_brk | apply l_ret | apply l_exc | apply f_nx | apply f_ret | apply f_exc)))))
        exact ⟨_, _, rfl⟩
      · refine ⟨⟨[.v (.lst L1), .v (.lst L2), .v y, .v y], hp⟩, rfl, ?_⟩
        (repeat' ((try with_reducible apply ws_seq); first | (with_reducible first | apply ws_if_and | apply ws_if_or | apply ws_if_not | apply ws_ret_and | apply ws_ret_or | apply ws_ret_if | apply ws_set_and | apply ws_set_or | apply ws_set_if) | ((first | (with_reducible apply ws_next) | ((with_reducible first | refine ws_if fun rZ hZ => ?_ | refine ws_at fun rZ hZ => ?_); simp (disch := first | (simp; done) | assumption | omega | rfl | (simp; omega)) [mkFn,iIfS,iSeq,iOr,iAnd,iNot,iIf,iIsT,iVar,thenS,Rs.bind,Lk.hold,rdv,rdvs,isTy,isB,iRet,iChain,gLe,gLt,gGt,gGe,gCmp,retv,iNext,iC,op2,gAdd_i,gAdd_t,gAdd_l,gAdd_s,mulOk_b,dec_of,gSub,gMod,gDiv,iSet,iOwn,Lk.arg,Lk.args,Lk.pargs,Lk.settle,setv,iDrop,iTup,iLst,iB,rdvL,rdvLs,gLen,gList,gTuple,gMax,iCall,backR,ofRV,iMeth,lookM,iNew,iFld,iSetF,getF,putFl,gEq,gNe,gIs,notL,gIx,iNeg,iMut,mutTail,getL,putL,gApp,iDct,iHeap,noRef,noRefs,isFlat,tgN,tgT,tgs,iSl,pNo,pSome,gCut,iTgt,gPow,gMul,Lk.qE,iRaise,isSub,isKeyD,iSlS,iSetK,isTup,op2k, s2] at hZ; subst hZ)); first | (with_reducible first | apply c_T | apply c_F | refine c_D (fun hz => ?_) (fun hz => ?_) | refine c_N (fun hz => ?_) (fun hz => ?_) | refine c_B (fun hz => ?_) (fun hz => ?_) | apply c_X) | (repeat1' (with_reducible first | apply q_nx | apply q_ret | apply q_exc | apply q_brk | apply q_cnt | apply l_nx | apply l_cnt | apply l_brk | apply l_ret | apply l_exc | apply f_nx | apply f_ret | apply f_exc)))))
        exact ⟨_, _, rfl⟩
      · refine ⟨⟨[.v (.lst L1), .v (.lst L2), .v (.ref a), .v (.lst xs)], hp⟩, rfl, ?_⟩
        (repeat' ((try with_reducible apply ws_seq); first | (with_reducible first | apply ws_if_and | apply ws_if_or | apply ws_if_not | apply ws_ret_and | apply ws_ret_or | apply ws_ret_if | apply ws_set_and | apply ws_set_or | apply ws_set_if) | ((first | (with_reducible apply ws_next) | ((with_reducible first | refine ws_if fun rZ hZ => ?_ | refine ws_at fun rZ hZ => ?_); simp (disch := first | (simp; done) | assumption | omega | rfl | (simp; omega)) [mkFn,iIfS,iSeq,iOr,iAnd,iNot,iIf,iIsT,iVar,thenS,Rs.bind,Lk.hold,rdv,rdvs,isTy,isB,iRet,iChain,gLe,gLt,gGt,gGe,gCmp,retv,iNext,iC,op2,gAdd_i,gAdd_t,gAdd_l,gAdd_s,mulOk_b,dec_of,gSub,gMod,gDiv,iSet,iOwn,Lk.arg,Lk.args,Lk.pargs,Lk.settle,setv,iDrop,iTup,iLst,iB,rdvL,rdvLs,gLen,gList,gTuple,gMax,iCall,backR,ofRV,iMeth,lookM,iNew,iFld,iSetF,getF,putFl,gEq,gNe,gIs,notL,gIx,iNeg,iMut,mutTail,getL,putL,gApp,iDct,iHeap,noRef,noRefs,isFlat,tgN,tgT,tgs,iSl,pNo,pSome,gCut,iTgt,gPow,gMul,Lk.qE,iRaise,isSub,isKeyD,iSlS,iSetK,isTup,op2k, s3] at hZ; subst hZ)); first | (with_reducible first | apply c_T | apply c_F | refine c_D (fun hz => ?_) (fun hz => ?_) | refine c_N (fun hz => ?_) (fun hz => ?_) | refine c_B (fun hz => ?_) (fun hz => ?_) | apply c_X) | (repeat1' (with_reducible first | apply q_nx | apply q_ret | apply q_exc | apply q_brk | apply q_cnt | apply l_nx | apply l_cnt | apply l_brk | apply l_ret | apply l_exc | apply f_nx | apply f_ret | apply f_exc)))))
        exact ⟨_, _, rfl⟩
    · rintro s1 ⟨a1, b1, rfl⟩
      (repeat1' (with_reducible first | apply q_nx | apply q_ret | apply q_exc | apply q_brk | apply q_cnt | apply l_nx | apply l_cnt | apply l_brk | apply l_ret | apply l_exc | apply f_nx | apply f_ret | apply f_exc))
      (repeat' ((try with_reducible apply ws_seq); first | (with_reducible first | apply ws_if_and | apply ws_if_or | apply ws_if_not | apply ws_ret_and | apply ws_ret_or | apply ws_ret_if | apply ws_set_and | apply ws_set_or | apply ws_set_if) | ((first | (with_reducible apply ws_next) | ((with_reducible first | refine ws_if fun rZ hZ => ?_ | refine ws_at fun rZ hZ => ?_); simp (disch := first | (simp; done) | assumption | omega | rfl | (simp; omega)) [mkFn,iIfS,iSeq,iOr,iAnd,iNot,iIf,iIsT,iVar,thenS,Rs.bind,Lk.hold,rdv,rdvs,isTy,isB,iRet,iChain,gLe,gLt,gGt,gGe,gCmp,retv,iNext,iC,op2,gAdd_i,gAdd_t,gAdd_l,gAdd_s,mulOk_b,dec_of,gSub,gMod,gDiv,iSet,iOwn,Lk.arg,Lk.args,Lk.pargs,Lk.settle,setv,iDrop,iTup,iLst,iB,rdvL,rdvLs,gLen,gList,gTuple,gMax,iCall,backR,ofRV,iMeth,lookM,iNew,iFld,iSetF,getF,putFl,gEq,gNe,gIs,notL,gIx,iNeg,iMut,mutTail,getL,putL,gApp,iDct,iHeap,noRef,noRefs,isFlat,tgN,tgT,tgs,iSl,pNo,pSome,gCut,iTgt,gPow,gMul,Lk.qE,iRaise,isSub,isKeyD,iSlS,iSetK,isTup,op2k] at hZ; subst hZ)); first | (with_reducible first | apply c_T | apply c_F | refine c_D (fun hz => ?_) (fun hz => ?_) | refine c_N (fun hz => ?_) (fun hz => ?_) | refine c_B (fun hz => ?_) (fun hz => ?_) | apply c_X) | (repeat1' (with_reducible first | apply q_nx | apply q_ret | apply q_exc | apply q_brk | apply q_cnt | apply l_nx | apply l_cnt | apply l_brk | apply l_ret | apply l_exc | apply f_nx | apply f_ret | apply f_exc)))))
      (all_goals first | with_reducible rfl | (simp [*]; done) | (exfalso; omega) | skip)
  show mkFn 2 0 (m__law_same (F__law_same 5)) [.tup [x, y, .ref a], .tup [x, y, .lst xs]] hp = _
  refine ws_fnE rfl ?_
  unfold m__law_same
  simp only [List.map_cons, List.map_nil, List.cons_append, List.nil_append, List.replicate]
  (repeat' ((try with_reducible apply ws_seq); first | (with_reducible first | apply ws_if_and | apply ws_if_or | apply ws_if_not | apply ws_ret_and | apply ws_ret_or | apply ws_ret_if | apply ws_set_and | apply ws_set_or | apply ws_set_if) | ((first | (with_reducible apply ws_next) | ((with_reducible first | refine ws_if fun rZ hZ => ?_ | refine ws_at fun rZ hZ => ?_); simp (disch := first | (simp; done) | assumption | omega | rfl | (simp; omega)) [mkFn,iIfS,iSeq,iOr,iAnd,iNot,iIf,iIsT,iVar,thenS,Rs.bind,Lk.hold,rdv,rdvs,isTy,isB,iRet,iChain,gLe,gLt,gGt,gGe,gCmp,retv,iNext,iC,op2,gAdd_i,gAdd_t,gAdd_l,gAdd_s,mulOk_b,dec_of,gSub,gMod,gDiv,iSet,iOwn,Lk.arg,Lk.args,Lk.pargs,Lk.settle,setv,iDrop,iTup,iLst,iB,rdvL,rdvLs,gLen,gList,gTuple,gMax,iCall,backR,ofRV,iMeth,lookM,iNew,iFld,iSetF,getF,putFl,gEq,gNe,gIs,notL,gIx,iNeg,iMut,mutTail,getL,putL,gApp,iDct,iHeap,noRef,noRefs,isFlat,tgN,tgT,tgs,iSl,pNo,pSome,gCut,iTgt,gPow,gMul,Lk.qE,iRaise,isSub,isKeyD,iSlS,iSetK,isTup,op2k, al] at hZ; subst hZ)); first | (with_reducible first | apply c_T | apply c_F | refine c_D (fun hz => ?_) (fun hz => ?_) | refine c_N (fun hz => ?_) (fun hz => ?_) | refine c_B (fun hz => ?_) (fun hz => ?_) | apply c_X) | (repeat1' (with_reducible first | apply q_nx | apply q_ret | apply q_exc | apply q_brk | apply q_cnt | apply l_nx | apply l_cnt | apply l_brk | apply l_ret | apply l_exc | apply f_nx | apply f_ret | apply f_exc)))))
  (all_goals first | with_reducible rfl | (simp [*]; done) | (exfalso; omega) | skip)
theorem rd_small : RD "hire" (.tup [.int 7]) ([7].map nS) (Bu.hireOb 7) .hire 2 (fun i => .int (if i = 0 then 5 else 0)) (fun i => [nS (if i = 0 then 5 else 0)]) := Bu.rd _ wq_hire p_hire 7 2 (fun i => if i = 0 then 5 else 0) (by omega) fun i _ => by
  show 0 ≤ (if i = 0 then (5 : Int) else 0) ∧ (if i = 0 then (5 : Int) else 0) ≤ _
  split <;> omega
theorem small_text : PySem.Txt.join "\n" ["hire 7", "", "ask 5", "ask 0"] = "hire 7\n\nask 5\nask 0" := by rw [TL.join_eq]; decide +kernel
theorem small_lines : (["hire 7", "", "ask 5", "ask 0"] : List Str).filter nb = linesS "hire" ([7].map nS) 2 (fun i => [nS (if i = 0 then 5 else 0)]) := by
  have a : lineS "hire" ([7].map nS) = "hire 7" := by unfold lineS; rw [TL.join_eq]; decide +kernel
  have b : lineS "ask" [nS 5] = "ask 5" := by unfold lineS; rw [TL.join_eq]; decide +kernel
  have c : lineS "ask" [nS 0] = "ask 0" := by unfold lineS; rw [TL.join_eq]; decide +kernel
  have r : List.range 2 = [0, 1] := rfl
  have e : linesS "hire" ([7].map nS) 2 (fun i => [nS (if i = 0 then 5 else 0)]) = (["hire 7", "ask 5", "ask 0"] : List Str) := by
    unfold linesS
    rw [r, a]
    show (["hire 7", lineS "ask" [nS 5], lineS "ask" [nS 0]] : List Str) = _
    rw [b, c]
  rw [e]
  decide +kernel
theorem r_small (H : List Ob) : ∃ H', F_read_game [.str "hire 7\n\nask 5\nask 0"] H = .ok (.v (.tup [.str "hire", .tup [.int 7], .ref H.length])) H' ∧ H'[H.length]? = some (.lst [.int 5, .int 0]) ∧ ∀ m o, m < H.length → H[m]? = some o → H'[m]? = some o := by
  have g := g_read rd_small (by omega) ["hire 7", "", "ask 5", "ask 0"] small_lines (by simp) H
  rw [small_text] at g
  exact g
section
variable {word : Str} {start : D} {sp : List Str} {wob : Ob} {wc : Cl} {N : Nat} {w : Nat → D} {wp : Nat → List Str}
theorem rd_re (G : RD word start sp wob wc N w wp) (M : Nat) (f : Nat → Nat) (hf : ∀ i, i < M → f i < N) : RD word start sp wob wc M (fun i => w (f i)) (fun i => wp (f i)) :=
  ⟨G.kw, G.sparts, fun i hi => G.wparts _ (hf i hi), G.wcl, G.sread, G.world, fun i H m hi em => G.wish _ H m (hf i hi) em, fun i hi => G.nonon _ (hf i hi), G.swords, fun i H hi => G.wwords _ H (hf i hi), G.splain, fun i hi => G.wplain _ (hf i hi)⟩
theorem l_rest (G : RD word start sp wob wc N w wp) (hN : N ≤ 200) (ns : List Int) (cs : D) (num : D) : WS (iSeq (iSet 6 (iCall F__law_text [(iVar 0), (iCall F__law_lines [(iVar 1), (iVar 2), (iVar 4)])]))
    (iSeq (iSet 7 (iCall F_read_game [(iVar 6)]))
    (iSeq (iIfS (iNot (iCall (F__law_same 6) [(iVar 7), (iTup [(iVar 1), (iVar 2), (iVar 4)])])) (iRet (iC (.bl false))) iNext)
    (iSeq (iIfS (iNot (iCall (F__law_same 6) [(iCall F_read_game [(iC (.str "hire 7\n\nask 5\nask 0"))]), (iTup [(iC (.str "hire")), (iTup [(iC (.int 7))]), (iLst [(iC (.int 5)), (iC (.int 0))])])])) (iRet (iC (.bl false))) iNext)
    (iSeq (iDrop (iMut gApp (op2 gIx (iVar 7) (iC (.int 2))) [(iC (.int 0))]))
    (iRet (iAnd (iCall (F__law_same 6) [(iCall F_read_game [(iVar 6)]), (iTup [(iVar 1), (iVar 2), (iVar 4)])]) (op2 gEq (iB gLen [(op2 gIx (iVar 7) (iC (.int 2)))]) (op2 gAdd (iB gLen [(iVar 4)]) (iC (.int 1)))))))))))
      ⟨[.v (.rol ns), .v (.str word), .v start, .v cs, .v (.lst ((List.range N).map w)), .v num, .no, .no, .no], []⟩ (endF fun r => ∃ hp, r = .ok (.v (.bl true)) hp) := by
  have rl := r_lines G hN []
  have lf := lines_facts G
  have lL : (linesS word sp N wp).length = N + 1 := by unfold linesS; simp
  obtain ⟨Ls, hf, hl, rt⟩ := r_text ns (linesS word sp N wp) (fun x hx => ⟨(lf x hx).1.2, (lf x hx).1.1⟩) (by omega) []
  obtain ⟨H1, g1, a1, _⟩ := g_read G hN Ls hf hl []
  obtain ⟨H2, g2, a2, k2⟩ := r_small H1
  have l0 : 0 < H1.length := (List.getElem?_eq_some_iff.mp a1).1
  have b2 := k2 0 _ l0 a1
  obtain ⟨H4, g4, a4, k4⟩ := g_read G hN Ls hf hl (H2.set 0 (.lst ((List.range N).map w ++ [.int 0])))
  have b3 := gset b2 (.lst ((List.range N).map w ++ [.int 0]))
  have b4 := k4 0 _ (List.getElem?_eq_some_iff.mp b3).1 b3
  have wpl : ∀ x ∈ (List.range N).map w, plainN 4 x = true := fun x hx => by
    obtain ⟨i, hi, rfl⟩ := List.mem_map.mp hx
    exact G.wplain i (List.mem_range.mp hi)
  have e1 := r_same3 (.str word) start 0 ((List.range N).map w) H1 rfl G.splain wpl a1
  have e2 := r_same3 (.str "hire") (.tup [.int 7]) H1.length [.int 5, .int 0] H2 rfl rfl (fun x hx => by
    simp only [List.mem_cons, List.not_mem_nil, or_false] at hx
    rcases hx with rfl | rfl <;> rfl) a2
  have e4 := r_same3 (.str word) start _ ((List.range N).map w) H4 rfl G.splain wpl a4
  have t2 : ∀ a b c : D, L2.atI [a, b, c] 2 = some c := fun a b c => rfl
  have lW : ((List.range N).map w).length = N := by simp
  have lW2 : ((List.range N).map w ++ [D.int 0]).length = N + 1 := by simp
  have fin : ∀ hp, ∃ hp', (FR.ok (RV.v (D.bl true)) hp) = .ok (.v (.bl true)) hp' := fun hp => ⟨hp, rfl⟩
  have nl : N < 1000000 := by omega
  simp only [List.length_nil] at g1
  clear wpl lf G hf hl k2 k4 b3 a1 a2 a4
  generalize (linesS word sp N wp).map D.str = LS at *
  generalize PySem.Txt.join "\n" Ls = text at *
  generalize hH3 : H2.set 0 (.lst ((List.range N).map w ++ [.int 0])) = H3 at *
  generalize hW2 : (List.range N).map w ++ [D.int 0] = W2 at *
  generalize (List.range N).map w = W at *
  (repeat' ((try with_reducible apply ws_seq); first | (with_reducible first | apply ws_if_and | apply ws_if_or | apply ws_if_not | apply ws_ret_and | apply ws_ret_or | apply ws_ret_if | apply ws_set_and | apply ws_set_or | apply ws_set_if) | ((first | (with_reducible apply ws_next) | ((with_reducible first | refine ws_if fun rZ hZ => ?_ | refine ws_at fun rZ hZ => ?_); simp (disch := first | (simp; done) | assumption | omega | rfl | (simp; omega)) [mkFn,iIfS,iSeq,iOr,iAnd,iNot,iIf,iIsT,iVar,thenS,Rs.bind,Lk.hold,rdv,rdvs,isTy,isB,iRet,iChain,gLe,gLt,gGt,gGe,gCmp,retv,iNext,iC,op2,gAdd_i,gAdd_t,gAdd_l,gAdd_s,mulOk_b,dec_of,gSub,gMod,gDiv,iSet,iOwn,Lk.arg,Lk.args,Lk.pargs,Lk.settle,setv,iDrop,iTup,iLst,iB,rdvL,rdvLs,gLen,gList,gTuple,gMax,iCall,backR,ofRV,iMeth,lookM,iNew,iFld,iSetF,getF,putFl,gEq,gNe,gIs,notL,gIx,iNeg,iMut,mutTail,getL,putL,gApp,iDct,iHeap,noRef,noRefs,isFlat,tgN,tgT,tgs,iSl,pNo,pSome,gCut,iTgt,gPow,gMul,Lk.qE,iRaise,isSub,isKeyD,iSlS,iSetK,isTup,op2k, rl, rt] at hZ; subst hZ)); first | (with_reducible first | apply c_T | apply c_F | refine c_D (fun hz => ?_) (fun hz => ?_) | refine c_N (fun hz => ?_) (fun hz => ?_) | refine c_B (fun hz => ?_) (fun hz => ?_) | apply c_X) | (repeat1' (with_reducible first | apply q_nx | apply q_ret | apply q_exc | apply q_brk | apply q_cnt | apply l_nx | apply l_cnt | apply l_brk | apply l_ret | apply l_exc | apply f_nx | apply f_ret | apply f_exc)))))
  (repeat' ((try with_reducible apply ws_seq); first | (with_reducible first | apply ws_if_and | apply ws_if_or | apply ws_if_not | apply ws_ret_and | apply ws_ret_or | apply ws_ret_if | apply ws_set_and | apply ws_set_or | apply ws_set_if) | ((first | (with_reducible apply ws_next) | ((with_reducible first | refine ws_if fun rZ hZ => ?_ | refine ws_at fun rZ hZ => ?_); simp (disch := first | (simp; done) | assumption | omega | rfl | (simp; omega)) [mkFn,iIfS,iSeq,iOr,iAnd,iNot,iIf,iIsT,iVar,thenS,Rs.bind,Lk.hold,rdv,rdvs,isTy,isB,iRet,iChain,gLe,gLt,gGt,gGe,gCmp,retv,iNext,iC,op2,gAdd_i,gAdd_t,gAdd_l,gAdd_s,mulOk_b,dec_of,gSub,gMod,gDiv,iSet,iOwn,Lk.arg,Lk.args,Lk.pargs,Lk.settle,setv,iDrop,iTup,iLst,iB,rdvL,rdvLs,gLen,gList,gTuple,gMax,iCall,backR,ofRV,iMeth,lookM,iNew,iFld,iSetF,getF,putFl,gEq,gNe,gIs,notL,gIx,iNeg,iMut,mutTail,getL,putL,gApp,iDct,iHeap,noRef,noRefs,isFlat,tgN,tgT,tgs,iSl,pNo,pSome,gCut,iTgt,gPow,gMul,Lk.qE,iRaise,isSub,isKeyD,iSlS,iSetK,isTup,op2k, g1, e1] at hZ; subst hZ)); first | (with_reducible first | apply c_T | apply c_F | refine c_D (fun hz => ?_) (fun hz => ?_) | refine c_N (fun hz => ?_) (fun hz => ?_) | refine c_B (fun hz => ?_) (fun hz => ?_) | apply c_X) | (repeat1' (with_reducible first | apply q_nx | apply q_ret | apply q_exc | apply q_brk | apply q_cnt | apply l_nx | apply l_cnt | apply l_brk | apply l_ret | apply l_exc | apply f_nx | apply f_ret | apply f_exc)))))
  (repeat' ((try with_reducible apply ws_seq); first | (with_reducible first | apply ws_if_and | apply ws_if_or | apply ws_if_not | apply ws_ret_and | apply ws_ret_or | apply ws_ret_if | apply ws_set_and | apply ws_set_or | apply ws_set_if) | ((first | (with_reducible apply ws_next) | ((with_reducible first | refine ws_if fun rZ hZ => ?_ | refine ws_at fun rZ hZ => ?_); simp (disch := first | (simp; done) | assumption | omega | rfl | (simp; omega)) [mkFn,iIfS,iSeq,iOr,iAnd,iNot,iIf,iIsT,iVar,thenS,Rs.bind,Lk.hold,rdv,rdvs,isTy,isB,iRet,iChain,gLe,gLt,gGt,gGe,gCmp,retv,iNext,iC,op2,gAdd_i,gAdd_t,gAdd_l,gAdd_s,mulOk_b,dec_of,gSub,gMod,gDiv,iSet,iOwn,Lk.arg,Lk.args,Lk.pargs,Lk.settle,setv,iDrop,iTup,iLst,iB,rdvL,rdvLs,gLen,gList,gTuple,gMax,iCall,backR,ofRV,iMeth,lookM,iNew,iFld,iSetF,getF,putFl,gEq,gNe,gIs,notL,gIx,iNeg,iMut,mutTail,getL,putL,gApp,iDct,iHeap,noRef,noRefs,isFlat,tgN,tgT,tgs,iSl,pNo,pSome,gCut,iTgt,gPow,gMul,Lk.qE,iRaise,isSub,isKeyD,iSlS,iSetK,isTup,op2k, g2, e2] at hZ; subst hZ)); first | (with_reducible first | apply c_T | apply c_F | refine c_D (fun hz => ?_) (fun hz => ?_) | refine c_N (fun hz => ?_) (fun hz => ?_) | refine c_B (fun hz => ?_) (fun hz => ?_) | apply c_X) | (repeat1' (with_reducible first | apply q_nx | apply q_ret | apply q_exc | apply q_brk | apply q_cnt | apply l_nx | apply l_cnt | apply l_brk | apply l_ret | apply l_exc | apply f_nx | apply f_ret | apply f_exc)))))
  ((try with_reducible apply ws_seq); first | (with_reducible first | apply ws_if_and | apply ws_if_or | apply ws_if_not | apply ws_ret_and | apply ws_ret_or | apply ws_ret_if | apply ws_set_and | apply ws_set_or | apply ws_set_if) | ((first | (with_reducible apply ws_next) | ((with_reducible first | refine ws_if fun rZ hZ => ?_ | refine ws_at fun rZ hZ => ?_); simp (disch := first | (simp; done) | assumption | omega | rfl | (simp; omega)) [mkFn,iIfS,iSeq,iOr,iAnd,iNot,iIf,iIsT,iVar,thenS,Rs.bind,Lk.hold,rdv,rdvs,isTy,isB,iRet,iChain,gLe,gLt,gGt,gGe,gCmp,retv,iNext,iC,op2,gAdd_i,gAdd_t,gAdd_l,gAdd_s,mulOk_b,dec_of,gSub,gMod,gDiv,iSet,iOwn,Lk.arg,Lk.args,Lk.pargs,Lk.settle,setv,iDrop,iTup,iLst,iB,rdvL,rdvLs,gLen,gList,gTuple,gMax,iCall,backR,ofRV,iMeth,lookM,iNew,iFld,iSetF,getF,putFl,gEq,gNe,gIs,notL,gIx,iNeg,iMut,mutTail,getL,putL,gApp,iDct,iHeap,noRef,noRefs,isFlat,tgN,tgT,tgs,iSl,pNo,pSome,gCut,iTgt,gPow,gMul,Lk.qE,iRaise,isSub,isKeyD,iSlS,iSetK,isTup,op2k, t2, b2, nl, lW, hW2] at hZ; subst hZ)); first | (with_reducible first | apply c_T | apply c_F | refine c_D (fun hz => ?_) (fun hz => ?_) | refine c_N (fun hz => ?_) (fun hz => ?_) | refine c_B (fun hz => ?_) (fun hz => ?_) | apply c_X) | (repeat1' (with_reducible first | apply q_nx | apply q_ret | apply q_exc | apply q_brk | apply q_cnt | apply l_nx | apply l_cnt | apply l_brk | apply l_ret | apply l_exc | apply f_nx | apply f_ret | apply f_exc))))
  rw [hH3]
  (repeat' ((try with_reducible apply ws_seq); first | (with_reducible first | apply ws_if_and | apply ws_if_or | apply ws_if_not | apply ws_ret_and | apply ws_ret_or | apply ws_ret_if | apply ws_set_and | apply ws_set_or | apply ws_set_if) | ((first | (with_reducible apply ws_next) | ((with_reducible first | refine ws_if fun rZ hZ => ?_ | refine ws_at fun rZ hZ => ?_); simp (disch := first | (simp; done) | assumption | omega | rfl | (simp; omega)) [mkFn,iIfS,iSeq,iOr,iAnd,iNot,iIf,iIsT,iVar,thenS,Rs.bind,Lk.hold,rdv,rdvs,isTy,isB,iRet,iChain,gLe,gLt,gGt,gGe,gCmp,retv,iNext,iC,op2,gAdd_i,gAdd_t,gAdd_l,gAdd_s,mulOk_b,dec_of,gSub,gMod,gDiv,iSet,iOwn,Lk.arg,Lk.args,Lk.pargs,Lk.settle,setv,iDrop,iTup,iLst,iB,rdvL,rdvLs,gLen,gList,gTuple,gMax,iCall,backR,ofRV,iMeth,lookM,iNew,iFld,iSetF,getF,putFl,gEq,gNe,gIs,notL,gIx,iNeg,iMut,mutTail,getL,putL,gApp,iDct,iHeap,noRef,noRefs,isFlat,tgN,tgT,tgs,iSl,pNo,pSome,gCut,iTgt,gPow,gMul,Lk.qE,iRaise,isSub,isKeyD,iSlS,iSetK,isTup,op2k, g4, e4, t2, b4, lW, lW2] at hZ; subst hZ)); first | (with_reducible first | apply c_T | apply c_F | refine c_D (fun hz => ?_) (fun hz => ?_) | refine c_N (fun hz => ?_) (fun hz => ?_) | refine c_B (fun hz => ?_) (fun hz => ?_) | apply c_X) | (repeat1' (with_reducible first | apply q_nx | apply q_ret | apply q_exc | apply q_brk | apply q_cnt | apply l_nx | apply l_cnt | apply l_brk | apply l_ret | apply l_exc | apply f_nx | apply f_ret | apply f_exc)))))
  all_goals exact fin _
end
section
variable {word : Str} {start : D} {sp : List Str} {wob : Ob} {wc : Cl} {N : Nat} {w : Nat → D} {wp : Nat → List Str}
theorem rng_rep (N M : Nat) (w : Nat → D) (h : 0 < N) (hM : N ≤ M) : (List.range N).map w ++ List.replicate (M - N) (w (N - 1)) = (List.range M).map fun i => w (min i (N - 1)) := by
  apply List.ext_getElem
  · simp; omega
  · intro i h1 h2
    rw [List.getElem_map, List.getElem_range]
    by_cases z : i < N
    · rw [List.getElem_append_left (by simpa using z), List.getElem_map, List.getElem_range, Nat.min_eq_left (by omega)]
    · rw [List.getElem_append_right (by simp; omega), List.getElem_replicate, Nat.min_eq_right (by omega)]
theorem last_at (N : Nat) (w : Nat → D) (h : 0 < N) : L2.atI ((List.range N).map w) (-1) = some (w (N - 1)) := by
  obtain ⟨m, rfl⟩ : ∃ m, N = m + 1 := ⟨N - 1, by omega⟩
  have e : L2.ixN ((List.range (m + 1)).map w).length (-1) = some m := by
    unfold L2.ixN
    rw [if_neg (by decide), if_pos (by simp; omega)]
    congr 1
    simp
    omega
  unfold L2.atI
  rw [e]
  show ((List.range (m + 1)).map w)[m]? = _
  rw [List.getElem?_map, List.getElem?_range (by omega)]
  rfl
theorem weqS_empty (N : Nat) (w : Nat → D) : weqL (weqF 19) ((List.range N).map w) [] = some (decide (N = 0)) := by
  cases N with
  | zero => rfl
  | succ m => rw [List.range_succ_eq_map]; rfl
theorem l_core (G : RD word start sp wob wc N w wp) (hN : N ≤ 60) (hw : weqS (.str word) (.str "ways") = some false ∨ weqS (.str word) (.str "ways") = some true ∧ ∃ ds k, start = .tup ds ∧ L2.atI ds 0 = some (.int k)) (ns cs : List Int) (hC : cs.length = N) (hcut : cutD (ns.map D.int) (some 2) (some 62) = cs.map D.int) (es : F__law_start [.rol ns] [] = .ok (.v (.tup [.str word, start])) [])
    (ew : ∀ j, j < N → F__law_wish [.str word, start, .int (cs.getD j 0), .int ((j : Int) + 5)] [] = .ok (.v (w j)) []) : ∃ hp, F_law [.rol ns] [] = .ok (.v (.bl true)) hp := by
  have lC : (cs.map D.int).length = N := by rw [List.length_map, hC]
  have e4 : c_law_1 ⟨[.v (.rol ns), .v (.str word), .v start, .v (.lst (cs.map D.int)), .no, .no, .no, .no, .no], []⟩ = .ok (.fr ((List.range N).map w)) ⟨[.v (.rol ns), .v (.str word), .v start, .v (.lst (cs.map D.int)), .no, .no, .no, .no, .no], []⟩ := by
    have cj : ∀ j : Nat, j < N → L2.atI (cs.map D.int) (j : Int) = some (.int (cs.getD j 0)) := fun j hj => map_cells cs j (by omega)
    generalize cs.map D.int = CD at *
    unfold c_law_1
    exact lc_rng (s1 := ⟨[.v (.rol ns), .v (.str word), .v start, .v (.lst CD), .no, .no, .no, .no, .no], []⟩) w (by simp [mkFn,iIfS,iSeq,iOr,iAnd,iNot,iIf,iIsT,iVar,thenS,Rs.bind,Lk.hold,rdv,rdvs,isTy,isB,iRet,iChain,gLe,gLt,gGt,gGe,gCmp,retv,iNext,iC,op2,gAdd_i,gAdd_t,gAdd_l,gAdd_s,mulOk_b,dec_of,gSub,gMod,gDiv,iSet,iOwn,Lk.arg,Lk.args,Lk.pargs,Lk.settle,setv,iDrop,iTup,iLst,iB,rdvL,rdvLs,gLen,gList,gTuple,gMax,iCall,backR,ofRV,iMeth,lookM,iNew,iFld,iSetF,getF,putFl,gEq,gNe,gIs,notL,gIx,iNeg,iMut,mutTail,getL,putL,gApp,iDct,iHeap,noRef,noRefs,isFlat,tgN,tgT,tgs,iSl,pNo,pSome,gCut,iTgt,gPow,gMul,Lk.qE,iRaise,isSub,isKeyD,iSlS,iSetK,isTup,op2k, lC]) (by omega) (fun j hj => by
      have p := ew j hj
      have c := cj j hj
      generalize cs.getD j 0 = g at *
      simp (disch := first | (simp; done) | assumption | omega | rfl | (simp; omega)) [mkFn,iIfS,iSeq,iOr,iAnd,iNot,iIf,iIsT,iVar,thenS,Rs.bind,Lk.hold,rdv,rdvs,isTy,isB,iRet,iChain,gLe,gLt,gGt,gGe,gCmp,retv,iNext,iC,op2,gAdd_i,gAdd_t,gAdd_l,gAdd_s,mulOk_b,dec_of,gSub,gMod,gDiv,iSet,iOwn,Lk.arg,Lk.args,Lk.pargs,Lk.settle,setv,iDrop,iTup,iLst,iB,rdvL,rdvLs,gLen,gList,gTuple,gMax,iCall,backR,ofRV,iMeth,lookM,iNew,iFld,iSetF,getF,putFl,gEq,gNe,gIs,notL,gIx,iNeg,iMut,mutTail,getL,putL,gApp,iDct,iHeap,noRef,noRefs,isFlat,tgN,tgT,tgs,iSl,pNo,pSome,gCut,iTgt,gPow,gMul,Lk.qE,iRaise,isSub,isKeyD,iSlS,iSetK,isTup,op2k, Lk.Sx.wipe, wipeE, c, p])
  have c0 := r_cell ns 0 (by decide) []
  have m0 := r_mixed (cellI ns 0) 2 (by decide) (by decide) []
  generalize cellI ns 0 = d at *
  generalize mixI d 2 = x at *
  have rest := l_rest G (by omega) ns (.lst (cs.map D.int)) (.int x)
  have rest2 : 0 < N → WS (iSeq (iSet 6 (iCall F__law_text [(iVar 0), (iCall F__law_lines [(iVar 1), (iVar 2), (iVar 4)])]))
    (iSeq (iSet 7 (iCall F_read_game [(iVar 6)]))
    (iSeq (iIfS (iNot (iCall (F__law_same 6) [(iVar 7), (iTup [(iVar 1), (iVar 2), (iVar 4)])])) (iRet (iC (.bl false))) iNext)
    (iSeq (iIfS (iNot (iCall (F__law_same 6) [(iCall F_read_game [(iC (.str "hire 7\n\nask 5\nask 0"))]), (iTup [(iC (.str "hire")), (iTup [(iC (.int 7))]), (iLst [(iC (.int 5)), (iC (.int 0))])])])) (iRet (iC (.bl false))) iNext)
    (iSeq (iDrop (iMut gApp (op2 gIx (iVar 7) (iC (.int 2))) [(iC (.int 0))]))
    (iRet (iAnd (iCall (F__law_same 6) [(iCall F_read_game [(iVar 6)]), (iTup [(iVar 1), (iVar 2), (iVar 4)])]) (op2 gEq (iB gLen [(op2 gIx (iVar 7) (iC (.int 2)))]) (op2 gAdd (iB gLen [(iVar 4)]) (iC (.int 1)))))))))))
      ⟨[.v (.rol ns), .v (.str word), .v start, .v (.lst (cs.map D.int)), .v (.lst ((List.range N).map w ++ List.replicate (200 - x / 8 % 4 - (N : Int)).toNat (w (N - 1)))), .v (.int x), .no, .no, .no], []⟩ (endF fun r => ∃ hp, r = .ok (.v (.bl true)) hp) := fun h => by
    obtain ⟨q, hq⟩ := Int.eq_ofNat_of_zero_le (show (0 : Int) ≤ x / 8 % 4 by omega)
    have e : (200 - x / 8 % 4 - (N : Int)).toNat = (200 - q) - N := by omega
    rw [e, rng_rep N (200 - q) w h (by omega)]
    exact l_rest (rd_re G (200 - q) (fun i => min i (N - 1)) fun i hi => by have := Nat.min_le_right i (N - 1); omega) (by omega) ns (.lst (cs.map D.int)) (.int x)
  have la := fun h => last_at N w h
  have rp := repV_one (w (N - 1)) (200 - x / 8 % 4 - (N : Int)) (by omega)
  have ga := gAdd_l ((List.range N).map w) (List.replicate (200 - x / 8 % 4 - (N : Int)).toNat (w (N - 1))) (by rw [List.length_map, List.length_range, List.length_replicate]; omega)
  have lW : ((List.range N).map w).length = N := by simp
  have wz := weqS_empty N w
  clear ew G
  generalize hCD : cs.map D.int = CD at *
  generalize (List.range N).map w ++ List.replicate (200 - x / 8 % 4 - (N : Int)).toNat (w (N - 1)) = W2 at *
  generalize List.replicate (200 - x / 8 % 4 - (N : Int)).toNat (w (N - 1)) = Rp at *
  generalize (List.range N).map w = Wl at *
  generalize w (N - 1) = V at *
  have goal : WS m_law ⟨[.v (.rol ns), .no, .no, .no, .no, .no, .no, .no, .no], []⟩ (endF fun r => ∃ hp, r = .ok (.v (.bl true)) hp) := by
    unfold m_law
    ((try with_reducible apply ws_seq); first | (with_reducible first | apply ws_if_and | apply ws_if_or | apply ws_if_not | apply ws_ret_and | apply ws_ret_or | apply ws_ret_if | apply ws_set_and | apply ws_set_or | apply ws_set_if) | ((first | (with_reducible apply ws_next) | ((with_reducible first | refine ws_if fun rZ hZ => ?_ | refine ws_at fun rZ hZ => ?_); simp (disch := first | (simp; done) | assumption | omega | rfl | (simp; omega)) [mkFn,iIfS,iSeq,iOr,iAnd,iNot,iIf,iIsT,iVar,thenS,Rs.bind,Lk.hold,rdv,rdvs,isTy,isB,iRet,iChain,gLe,gLt,gGt,gGe,gCmp,retv,iNext,iC,op2,gAdd_i,gAdd_t,gAdd_l,gAdd_s,mulOk_b,dec_of,gSub,gMod,gDiv,iSet,iOwn,Lk.arg,Lk.args,Lk.pargs,Lk.settle,setv,iDrop,iTup,iLst,iB,rdvL,rdvLs,gLen,gList,gTuple,gMax,iCall,backR,ofRV,iMeth,lookM,iNew,iFld,iSetF,getF,putFl,gEq,gNe,gIs,notL,gIx,iNeg,iMut,mutTail,getL,putL,gApp,iDct,iHeap,noRef,noRefs,isFlat,tgN,tgT,tgs,iSl,pNo,pSome,gCut,iTgt,gPow,gMul,Lk.qE,iRaise,isSub,isKeyD,iSlS,iSetK,isTup,op2k, es] at hZ; subst hZ)); first | (with_reducible first | apply c_T | apply c_F | refine c_D (fun hz => ?_) (fun hz => ?_) | refine c_N (fun hz => ?_) (fun hz => ?_) | refine c_B (fun hz => ?_) (fun hz => ?_) | apply c_X) | (repeat1' (with_reducible first | apply q_nx | apply q_ret | apply q_exc | apply q_brk | apply q_cnt | apply l_nx | apply l_cnt | apply l_brk | apply l_ret | apply l_exc | apply f_nx | apply f_ret | apply f_exc))))
    ((try with_reducible apply ws_seq); first | (with_reducible first | apply ws_if_and | apply ws_if_or | apply ws_if_not | apply ws_ret_and | apply ws_ret_or | apply ws_ret_if | apply ws_set_and | apply ws_set_or | apply ws_set_if) | ((first | (with_reducible apply ws_next) | ((with_reducible first | refine ws_if fun rZ hZ => ?_ | refine ws_at fun rZ hZ => ?_); simp (disch := first | (simp; done) | assumption | omega | rfl | (simp; omega)) [mkFn,iIfS,iSeq,iOr,iAnd,iNot,iIf,iIsT,iVar,thenS,Rs.bind,Lk.hold,rdv,rdvs,isTy,isB,iRet,iChain,gLe,gLt,gGt,gGe,gCmp,retv,iNext,iC,op2,gAdd_i,gAdd_t,gAdd_l,gAdd_s,mulOk_b,dec_of,gSub,gMod,gDiv,iSet,iOwn,Lk.arg,Lk.args,Lk.pargs,Lk.settle,setv,iDrop,iTup,iLst,iB,rdvL,rdvLs,gLen,gList,gTuple,gMax,iCall,backR,ofRV,iMeth,lookM,iNew,iFld,iSetF,getF,putFl,gEq,gNe,gIs,notL,gIx,iNeg,iMut,mutTail,getL,putL,gApp,iDct,iHeap,noRef,noRefs,isFlat,tgN,tgT,tgs,iSl,pNo,pSome,gCut,iTgt,gPow,gMul,Lk.qE,iRaise,isSub,isKeyD,iSlS,iSetK,isTup,op2k, Lk.iSlR, hcut] at hZ; subst hZ)); first | (with_reducible first | apply c_T | apply c_F | refine c_D (fun hz => ?_) (fun hz => ?_) | refine c_N (fun hz => ?_) (fun hz => ?_) | refine c_B (fun hz => ?_) (fun hz => ?_) | apply c_X) | (repeat1' (with_reducible first | apply q_nx | apply q_ret | apply q_exc | apply q_brk | apply q_cnt | apply l_nx | apply l_cnt | apply l_brk | apply l_ret | apply l_exc | apply f_nx | apply f_ret | apply f_exc))))
    ((try with_reducible apply ws_seq); first | (with_reducible first | apply ws_if_and | apply ws_if_or | apply ws_if_not | apply ws_ret_and | apply ws_ret_or | apply ws_ret_if | apply ws_set_and | apply ws_set_or | apply ws_set_if) | ((first | (with_reducible apply ws_next) | ((with_reducible first | refine ws_if fun rZ hZ => ?_ | refine ws_at fun rZ hZ => ?_); simp (disch := first | (simp; done) | assumption | omega | rfl | (simp; omega)) [mkFn,iIfS,iSeq,iOr,iAnd,iNot,iIf,iIsT,iVar,thenS,Rs.bind,Lk.hold,rdv,rdvs,isTy,isB,iRet,iChain,gLe,gLt,gGt,gGe,gCmp,retv,iNext,iC,op2,gAdd_i,gAdd_t,gAdd_l,gAdd_s,mulOk_b,dec_of,gSub,gMod,gDiv,iSet,iOwn,Lk.arg,Lk.args,Lk.pargs,Lk.settle,setv,iDrop,iTup,iLst,iB,rdvL,rdvLs,gLen,gList,gTuple,gMax,iCall,backR,ofRV,iMeth,lookM,iNew,iFld,iSetF,getF,putFl,gEq,gNe,gIs,notL,gIx,iNeg,iMut,mutTail,getL,putL,gApp,iDct,iHeap,noRef,noRefs,isFlat,tgN,tgT,tgs,iSl,pNo,pSome,gCut,iTgt,gPow,gMul,Lk.qE,iRaise,isSub,isKeyD,iSlS,iSetK,isTup,op2k, e4] at hZ; subst hZ)); first | (with_reducible first | apply c_T | apply c_F | refine c_D (fun hz => ?_) (fun hz => ?_) | refine c_N (fun hz => ?_) (fun hz => ?_) | refine c_B (fun hz => ?_) (fun hz => ?_) | apply c_X) | (repeat1' (with_reducible first | apply q_nx | apply q_ret | apply q_exc | apply q_brk | apply q_cnt | apply l_nx | apply l_cnt | apply l_brk | apply l_ret | apply l_exc | apply f_nx | apply f_ret | apply f_exc))))
    ((try with_reducible apply ws_seq); first | (with_reducible first | apply ws_if_and | apply ws_if_or | apply ws_if_not | apply ws_ret_and | apply ws_ret_or | apply ws_ret_if | apply ws_set_and | apply ws_set_or | apply ws_set_if) | ((first | (with_reducible apply ws_next) | ((with_reducible first | refine ws_if fun rZ hZ => ?_ | refine ws_at fun rZ hZ => ?_); simp (disch := first | (simp; done) | assumption | omega | rfl | (simp; omega)) [mkFn,iIfS,iSeq,iOr,iAnd,iNot,iIf,iIsT,iVar,thenS,Rs.bind,Lk.hold,rdv,rdvs,isTy,isB,iRet,iChain,gLe,gLt,gGt,gGe,gCmp,retv,iNext,iC,op2,gAdd_i,gAdd_t,gAdd_l,gAdd_s,mulOk_b,dec_of,gSub,gMod,gDiv,iSet,iOwn,Lk.arg,Lk.args,Lk.pargs,Lk.settle,setv,iDrop,iTup,iLst,iB,rdvL,rdvLs,gLen,gList,gTuple,gMax,iCall,backR,ofRV,iMeth,lookM,iNew,iFld,iSetF,getF,putFl,gEq,gNe,gIs,notL,gIx,iNeg,iMut,mutTail,getL,putL,gApp,iDct,iHeap,noRef,noRefs,isFlat,tgN,tgT,tgs,iSl,pNo,pSome,gCut,iTgt,gPow,gMul,Lk.qE,iRaise,isSub,isKeyD,iSlS,iSetK,isTup,op2k, c0, m0] at hZ; subst hZ)); first | (with_reducible first | apply c_T | apply c_F | refine c_D (fun hz => ?_) (fun hz => ?_) | refine c_N (fun hz => ?_) (fun hz => ?_) | refine c_B (fun hz => ?_) (fun hz => ?_) | apply c_X) | (repeat1' (with_reducible first | apply q_nx | apply q_ret | apply q_exc | apply q_brk | apply q_cnt | apply l_nx | apply l_cnt | apply l_brk | apply l_ret | apply l_exc | apply f_nx | apply f_ret | apply f_exc))))
    by_cases h1 : x % 8 = 1
    · by_cases h2 : N = 0
      · rw [decide_eq_true h2] at wz
        (repeat' ((try with_reducible apply ws_seq); first | (with_reducible first | apply ws_if_and | apply ws_if_or | apply ws_if_not | apply ws_ret_and | apply ws_ret_or | apply ws_ret_if | apply ws_set_and | apply ws_set_or | apply ws_set_if) | ((first | (with_reducible apply ws_next) | ((with_reducible first | refine ws_if fun rZ hZ => ?_ | refine ws_at fun rZ hZ => ?_); simp (disch := first | (simp; done) | assumption | omega | rfl | (simp; omega)) [mkFn,iIfS,iSeq,iOr,iAnd,iNot,iIf,iIsT,iVar,thenS,Rs.bind,Lk.hold,rdv,rdvs,isTy,isB,iRet,iChain,gLe,gLt,gGt,gGe,gCmp,retv,iNext,iC,op2,gAdd_i,gAdd_t,gAdd_l,gAdd_s,mulOk_b,dec_of,gSub,gMod,gDiv,iSet,iOwn,Lk.arg,Lk.args,Lk.pargs,Lk.settle,setv,iDrop,iTup,iLst,iB,rdvL,rdvLs,gLen,gList,gTuple,gMax,iCall,backR,ofRV,iMeth,lookM,iNew,iFld,iSetF,getF,putFl,gEq,gNe,gIs,notL,gIx,iNeg,iMut,mutTail,getL,putL,gApp,iDct,iHeap,noRef,noRefs,isFlat,tgN,tgT,tgs,iSl,pNo,pSome,gCut,iTgt,gPow,gMul,Lk.qE,iRaise,isSub,isKeyD,iSlS,iSetK,isTup,op2k, h1, mixed, wz, Lk.gNeW] at hZ; subst hZ)); first | (with_reducible first | apply c_T | apply c_F | refine c_D (fun hz => ?_) (fun hz => ?_) | refine c_N (fun hz => ?_) (fun hz => ?_) | refine c_B (fun hz => ?_) (fun hz => ?_) | apply c_X) | (repeat1' (with_reducible first | apply q_nx | apply q_ret | apply q_exc | apply q_brk | apply q_cnt | apply l_nx | apply l_cnt | apply l_brk | apply l_ret | apply l_exc | apply f_nx | apply f_ret | apply f_exc)))))
        exact rest
      · rw [decide_eq_false h2] at wz
        have la := la (by omega)
        have rest2 := rest2 (by omega)
        rcases hw with hw | ⟨hw, ds, k, rfl, hk⟩
        · (repeat' ((try with_reducible apply ws_seq); first | (with_reducible first | apply ws_if_and | apply ws_if_or | apply ws_if_not | apply ws_ret_and | apply ws_ret_or | apply ws_ret_if | apply ws_set_and | apply ws_set_or | apply ws_set_if) | ((first | (with_reducible apply ws_next) | ((with_reducible first | refine ws_if fun rZ hZ => ?_ | refine ws_at fun rZ hZ => ?_); simp (disch := first | (simp; done) | assumption | omega | rfl | (simp; omega)) [mkFn,iIfS,iSeq,iOr,iAnd,iNot,iIf,iIsT,iVar,thenS,Rs.bind,Lk.hold,rdv,rdvs,isTy,isB,iRet,iChain,gLe,gLt,gGt,gGe,gCmp,retv,iNext,iC,op2,gAdd_i,gAdd_t,gAdd_l,gAdd_s,mulOk_b,dec_of,gSub,gMod,gDiv,iSet,iOwn,Lk.arg,Lk.args,Lk.pargs,Lk.settle,setv,iDrop,iTup,iLst,iB,rdvL,rdvLs,gLen,gList,gTuple,gMax,iCall,backR,ofRV,iMeth,lookM,iNew,iFld,iSetF,getF,putFl,gEq,gNe,gIs,notL,gIx,iNeg,iMut,mutTail,getL,putL,gApp,iDct,iHeap,noRef,noRefs,isFlat,tgN,tgT,tgs,iSl,pNo,pSome,gCut,iTgt,gPow,gMul,Lk.qE,iRaise,isSub,isKeyD,iSlS,iSetK,isTup,op2k, h1, mixed, wz, Lk.gNeW, hw, la, lW, rp, ga] at hZ; subst hZ)); first | (with_reducible first | apply c_T | apply c_F | refine c_D (fun hz => ?_) (fun hz => ?_) | refine c_N (fun hz => ?_) (fun hz => ?_) | refine c_B (fun hz => ?_) (fun hz => ?_) | apply c_X) | (repeat1' (with_reducible first | apply q_nx | apply q_ret | apply q_exc | apply q_brk | apply q_cnt | apply l_nx | apply l_cnt | apply l_brk | apply l_ret | apply l_exc | apply f_nx | apply f_ret | apply f_exc)))))
          exact rest2
        · by_cases h3 : k < 3
          · (repeat' ((try with_reducible apply ws_seq); first | (with_reducible first | apply ws_if_and | apply ws_if_or | apply ws_if_not | apply ws_ret_and | apply ws_ret_or | apply ws_ret_if | apply ws_set_and | apply ws_set_or | apply ws_set_if) | ((first | (with_reducible apply ws_next) | ((with_reducible first | refine ws_if fun rZ hZ => ?_ | refine ws_at fun rZ hZ => ?_); simp (disch := first | (simp; done) | assumption | omega | rfl | (simp; omega)) [mkFn,iIfS,iSeq,iOr,iAnd,iNot,iIf,iIsT,iVar,thenS,Rs.bind,Lk.hold,rdv,rdvs,isTy,isB,iRet,iChain,gLe,gLt,gGt,gGe,gCmp,retv,iNext,iC,op2,gAdd_i,gAdd_t,gAdd_l,gAdd_s,mulOk_b,dec_of,gSub,gMod,gDiv,iSet,iOwn,Lk.arg,Lk.args,Lk.pargs,Lk.settle,setv,iDrop,iTup,iLst,iB,rdvL,rdvLs,gLen,gList,gTuple,gMax,iCall,backR,ofRV,iMeth,lookM,iNew,iFld,iSetF,getF,putFl,gEq,gNe,gIs,notL,gIx,iNeg,iMut,mutTail,getL,putL,gApp,iDct,iHeap,noRef,noRefs,isFlat,tgN,tgT,tgs,iSl,pNo,pSome,gCut,iTgt,gPow,gMul,Lk.qE,iRaise,isSub,isKeyD,iSlS,iSetK,isTup,op2k, h1, mixed, wz, Lk.gNeW, hw, hk, h3, la, lW, rp, ga] at hZ; subst hZ)); first | (with_reducible first | apply c_T | apply c_F | refine c_D (fun hz => ?_) (fun hz => ?_) | refine c_N (fun hz => ?_) (fun hz => ?_) | refine c_B (fun hz => ?_) (fun hz => ?_) | apply c_X) | (repeat1' (with_reducible first | apply q_nx | apply q_ret | apply q_exc | apply q_brk | apply q_cnt | apply l_nx | apply l_cnt | apply l_brk | apply l_ret | apply l_exc | apply f_nx | apply f_ret | apply f_exc)))))
            exact rest2
          · (repeat' ((try with_reducible apply ws_seq); first | (with_reducible first | apply ws_if_and | apply ws_if_or | apply ws_if_not | apply ws_ret_and | apply ws_ret_or | apply ws_ret_if | apply ws_set_and | apply ws_set_or | apply ws_set_if) | ((first | (with_reducible apply ws_next) | ((with_reducible first | refine ws_if fun rZ hZ => ?_ | refine ws_at fun rZ hZ => ?_); simp (disch := first | (simp; done) | assumption | omega | rfl | (simp; omega)) [mkFn,iIfS,iSeq,iOr,iAnd,iNot,iIf,iIsT,iVar,thenS,Rs.bind,Lk.hold,rdv,rdvs,isTy,isB,iRet,iChain,gLe,gLt,gGt,gGe,gCmp,retv,iNext,iC,op2,gAdd_i,gAdd_t,gAdd_l,gAdd_s,mulOk_b,dec_of,gSub,gMod,gDiv,iSet,iOwn,Lk.arg,Lk.args,Lk.pargs,Lk.settle,setv,iDrop,iTup,iLst,iB,rdvL,rdvLs,gLen,gList,gTuple,gMax,iCall,backR,ofRV,iMeth,lookM,iNew,iFld,iSetF,getF,putFl,gEq,gNe,gIs,notL,gIx,iNeg,iMut,mutTail,getL,putL,gApp,iDct,iHeap,noRef,noRefs,isFlat,tgN,tgT,tgs,iSl,pNo,pSome,gCut,iTgt,gPow,gMul,Lk.qE,iRaise,isSub,isKeyD,iSlS,iSetK,isTup,op2k, h1, mixed, wz, Lk.gNeW, hw, hk, h3, la, lW, rp, ga] at hZ; subst hZ)); first | (with_reducible first | apply c_T | apply c_F | refine c_D (fun hz => ?_) (fun hz => ?_) | refine c_N (fun hz => ?_) (fun hz => ?_) | refine c_B (fun hz => ?_) (fun hz => ?_) | apply c_X) | (repeat1' (with_reducible first | apply q_nx | apply q_ret | apply q_exc | apply q_brk | apply q_cnt | apply l_nx | apply l_cnt | apply l_brk | apply l_ret | apply l_exc | apply f_nx | apply f_ret | apply f_exc)))))
            exact rest
    · (repeat' ((try with_reducible apply ws_seq); first | (with_reducible first | apply ws_if_and | apply ws_if_or | apply ws_if_not | apply ws_ret_and | apply ws_ret_or | apply ws_ret_if | apply ws_set_and | apply ws_set_or | apply ws_set_if) | ((first | (with_reducible apply ws_next) | ((with_reducible first | refine ws_if fun rZ hZ => ?_ | refine ws_at fun rZ hZ => ?_); simp (disch := first | (simp; done) | assumption | omega | rfl | (simp; omega)) [mkFn,iIfS,iSeq,iOr,iAnd,iNot,iIf,iIsT,iVar,thenS,Rs.bind,Lk.hold,rdv,rdvs,isTy,isB,iRet,iChain,gLe,gLt,gGt,gGe,gCmp,retv,iNext,iC,op2,gAdd_i,gAdd_t,gAdd_l,gAdd_s,mulOk_b,dec_of,gSub,gMod,gDiv,iSet,iOwn,Lk.arg,Lk.args,Lk.pargs,Lk.settle,setv,iDrop,iTup,iLst,iB,rdvL,rdvLs,gLen,gList,gTuple,gMax,iCall,backR,ofRV,iMeth,lookM,iNew,iFld,iSetF,getF,putFl,gEq,gNe,gIs,notL,gIx,iNeg,iMut,mutTail,getL,putL,gApp,iDct,iHeap,noRef,noRefs,isFlat,tgN,tgT,tgs,iSl,pNo,pSome,gCut,iTgt,gPow,gMul,Lk.qE,iRaise,isSub,isKeyD,iSlS,iSetK,isTup,op2k, h1, mixed] at hZ; subst hZ)); first | (with_reducible first | apply c_T | apply c_F | refine c_D (fun hz => ?_) (fun hz => ?_) | refine c_N (fun hz => ?_) (fun hz => ?_) | refine c_B (fun hz => ?_) (fun hz => ?_) | apply c_X) | (repeat1' (with_reducible first | apply q_nx | apply q_ret | apply q_exc | apply q_brk | apply q_cnt | apply l_nx | apply l_cnt | apply l_brk | apply l_ret | apply l_exc | apply f_nx | apply f_ret | apply f_exc)))))
      exact rest
  exact ws_fn (n := 1) (k := 8) (ds := [.rol ns]) (hp := []) (P := fun r => ∃ hp, r = .ok (.v (.bl true)) hp) rfl goal
end
theorem law_true (ns : List Int) (hl : ns.length ≤ 63) (hb : ∀ z ∈ ns, PySem.Builtin.Int.intBits z ≤ 1048576) : ∃ hp, F_law [.rol ns] [] = .ok (.v (.bl true)) hp := by
  obtain ⟨cs, c60, cin, hcut⟩ := cut_cells ns
  have bt : ∀ i, i < cs.length → Bits 1048577 (cs.getD i 0) := fun i hi => by
    obtain ⟨k, hk, e⟩ := List.getElem_of_mem (cin i hi)
    have := bits_cell hb (k : Int)
    unfold cellI at this
    rw [Int.toNat_natCast, List.getD_eq_getElem?_getD, List.getElem?_eq_getElem hk] at this
    rw [← e]
    exact this
  rcases r_start ns hb [] with ⟨k, A, h1, h2, e⟩ | ⟨A, h1, e⟩ | ⟨R, h1, e⟩ | ⟨k, t, h, h1, h2, h3, e⟩ | ⟨A, h1, e⟩ | ⟨R, h1, e⟩
  · exact l_core (Bo.rd _ wq_line p_line k A cs.length (fun i => wLine A (cs.getD i 0) ((i : Int) + 5)) h1 h2 fun i hi => (w_line _ wq_line k A h1.1 h2 _ _ (bt i hi) (by omega) (by omega) []).1) c60 (.inl rfl) ns cs rfl hcut e fun i hi => (w_line _ wq_line k A h1.1 h2 _ _ (bt i hi) (by omega) (by omega) []).2
  · exact l_core (Fr.rd _ wq_shelf p_shelf A cs.length (fun i => wShelf A (cs.getD i 0) ((i : Int) + 5)) h1 fun i hi => (w_shelf _ wq_shelf A h1 _ _ (by omega) (by omega) []).1) c60 (.inl rfl) ns cs rfl hcut e fun i hi => (w_shelf _ wq_shelf A h1 _ _ (by omega) (by omega) []).2
  · exact l_core (Bu.rd _ wq_hire p_hire R cs.length (fun i => amtI (cs.getD i 0) ((i : Int) + 5 + 90)) h1 fun i hi => amt_b _ _) c60 (.inl rfl) ns cs rfl hcut e fun i hi => w_hire _ wq_hire _ _ _ (bt i hi) (by omega) (by omega) []
  · exact l_core (Ch.rd _ wq_ways p_ways k t h cs.length (fun i => wWays k (cs.getD i 0) ((i : Int) + 5)) h1 h2 h3 fun i hi => (w_ways _ wq_ways k t h h1.2 _ _ (bt i hi) (by omega) (by omega) []).1) c60 (.inr ⟨rfl, _, _, rfl, rfl⟩) ns cs rfl hcut e fun i hi => (w_ways _ wq_ways k t h h1.2 _ _ (bt i hi) (by omega) (by omega) []).2
  · exact l_core (Ke.rd _ wq_store p_store A cs.length (fun i => wStore A (cs.getD i 0) ((i : Int) + 5)) h1 fun i hi => (w_store _ wq_store A h1 _ _ (by omega) (by omega) []).1) c60 (.inl rfl) ns cs rfl hcut e fun i hi => (w_store _ wq_store A h1 _ _ (by omega) (by omega) []).2
  · exact l_core (Fi.rd _ wq_bags p_bags R cs.length (fun i => 1 + amtI (cs.getD i 0) ((i : Int) + 5 + 90) % R) h1 fun i hi => by
      have a := Int.emod_nonneg (amtI (cs.getD i 0) ((i : Int) + 5 + 90)) (show R ≠ 0 by omega)
      have b := Int.emod_lt_of_pos (amtI (cs.getD i 0) ((i : Int) + 5 + 90)) (show 0 < R by omega)
      exact ⟨by show (1 : Int) ≤ 1 + _; omega, by show 1 + _ ≤ R; omega⟩) c60 (.inl rfl) ns cs rfl hcut e fun i hi => w_bags _ wq_bags R h1 _ _ (bt i hi) (by omega) (by omega) []
end Pf
namespace Pf
open PySem L2 Lk
theorem walk {l : PySem.W.OpenLaw} {q : Program} {loose : List Str} {XP : (Str → Option Value) → Heap → Prop} {YP : World → Heap → Prop} {d : DefRec} {K : Params → PySem.W.Frag} (hn : l.most = some 63) (hdf : d.params.defaults = [])
    (hY : ∀ (w : World) (h : Heap), YP w h → (K w.params).In h)
    (F : ∀ (w : World) (mg : Str → Option Value) (fa : Addr) (h : Heap), (K w.params).In h → h.Ns mainGlobals mg → mg d.name = some (.ref fa) →
      ∃ fd : FuncData, (∀ (s : Shared) (u : Value), BindsTo s fd ⟨[u], []⟩ [("_law_script", u)]) ∧ ∀ (P : Program) (w' : World) (base : Heap), (K w.params).In base → base.Ns mainGlobals mg → FnOk P w' (K w.params) mg base (L2.CX P w') 14 fa fd ["_law_script"] (spF (K w.params) (caOf (K w.params)) 1 F_law)) :
    PySem.W.WalkO q loose XP YP l.row.toRowW d [] (fun f vs => PySem.call f vs) :=
  law_walk (M := F_law) (x := "_law_script") (k := 14) hn hdf ⟨rfl, by decide, by decide⟩ hY (fun w mg fa h a b c => let ⟨fd, h1, h2⟩ := F w mg fa h a b c; ⟨fd, h1, fun base x y => h2 l.prog w base x y⟩) law_true
end Pf
open PySem PySem.W PyProof.Rows in
set_option maxRecDepth 100000 in
set_option maxHeartbeats 0 in
theorem PySem.Challenge.cw_lateknow_k81_game_read_holds : PySem.Challenge.rw_lateknow_k81_game_read.Holds := by
  refine hd0 ?_
  k_fill
  refine Pf.walk (l := PySem.Challenge.rw_lateknow_k81_game_read) rfl rfl (fun w h Y => PySem.W.kIn_of Y) ?F
  case F =>
    intro w mg fa h KX G hmg
    refine' Pf.all_mk KX G hmg ?zb_ValueError ?zb_isinstance ?zb_bool ?zb_int ?zb_str ?zb_len ?zb_tuple ?zb_set ?zb_list ?zb_sorted ?zb_range ?zb_all ?zb_enumerate ?zb_zip ?zb_max ?zg_GREATEST ?zg_LETTERS ?zg_MOST_FIGURES ?zg_FIGURES ?zg_MOST_ASKS ?za_is_between ?za_is_amount ?za_is_name ?za_are_names ?za_is_place ?za_are_places ?za_line_of ?za_sum_read ?za_number_read ?za_rule_of ?za_world_start ?za_many_fit ?za_start_read ?za_wish_read ?za_read_game ?za__law_cell ?za__law_mixed ?za__law_whole ?za__law_same ?za__law_all_same ?za__law_amount ?za__law_place ?za__law_names ?za__law_start ?za__law_wish ?za__law_words ?za__law_lines ?za__law_text ?za_law ?za_Bags ?za_Hire ?za_Line ?za_Shelf ?za_Store ?za_Ways ?za_Filler ?za_Both ?za_Front ?za_Buyer ?za_Changer ?za_Keeper ?za_LateError ?za_NoState ?za_NoText ?za_Bound ?zxi_LateError ?zxi_NoState ?zxi_NoText ?zda_Bound___init__ ?zi_Bags ?zif_Bags ?zi_Hire ?zif_Hire ?zi_Line ?zif_Line ?zi_Shelf ?zif_Shelf ?zi_Store ?zif_Store ?zi_Ways ?zif_Ways ?zi_Filler ?zif_Filler ?zi_Both ?zif_Both ?zi_Front ?zif_Front ?zi_Buyer ?zif_Buyer ?zi_Changer ?zif_Changer ?zi_Keeper ?zif_Keeper ?zm_Bags_is_wish ?zmf_Bags_is_wish ?zm_Hire_is_wish ?zmf_Hire_is_wish ?zm_Line_is_wish ?zmf_Line_is_wish ?zm_Shelf_is_wish ?zmf_Shelf_is_wish ?zm_Store_is_wish ?zmf_Store_is_wish ?zm_Ways_is_wish ?zmf_Ways_is_wish ?zl_LateError___init__ ?zxt ?zc_LateError___init__ ?zk_LateError___init__ ?zl_is_between ?zc_is_between ?zk_is_between ?zl_is_amount ?zc_is_amount ?zk_is_amount ?zl_is_name ?zc_is_name ?zk_is_name ?zl_are_names ?zc_are_names ?zk_are_names ?zl_Rule___init__ ?zc_Rule___init__ ?zk_Rule___init__ ?zl_Bags___init__ ?zc_Bags___init__ ?zk_Bags___init__ ?zl_Bags_is_wish ?zc_Bags_is_wish ?zk_Bags_is_wish ?zl_Filler___init__ ?zc_Filler___init__ ?zk_Filler___init__ ?zl_Hire___init__ ?zc_Hire___init__ ?zk_Hire___init__ ?zl_Hire_is_wish ?zc_Hire_is_wish ?zk_Hire_is_wish ?zl_Buyer___init__ ?zc_Buyer___init__ ?zk_Buyer___init__ ?zl_is_place ?zc_is_place ?zk_is_place ?zl_are_places ?zc_are_places ?zk_are_places ?zl_line_of ?zc_line_of ?zk_line_of ?zl_Line___init__ ?zc_Line___init__ ?zk_Line___init__ ?zl_Line_is_wish ?zc_Line_is_wish ?zk_Line_is_wish ?zl_Both___init__ ?zc_Both___init__ ?zk_Both___init__ ?zl_Shelf___init__ ?zc_Shelf___init__ ?zk_Shelf___init__ ?zl_Shelf_is_wish ?zc_Shelf_is_wish ?zk_Shelf_is_wish ?zl_Front___init__ ?zc_Front___init__ ?zk_Front___init__ ?zl_Store___init__ ?zc_Store___init__ ?zk_Store___init__ ?zl_Store_is_wish ?zc_Store_is_wish ?zk_Store_is_wish ?zl_Keeper___init__ ?zc_Keeper___init__ ?zk_Keeper___init__ ?zl_Ways___init__ ?zc_Ways___init__ ?zk_Ways___init__ ?zl_Ways_is_wish ?zc_Ways_is_wish ?zk_Ways_is_wish ?zl_Changer___init__ ?zyt_Changer___init__ ?zc_Changer___init__ ?zk_Changer___init__ ?zl_sum_read ?zc_sum_read ?zk_sum_read ?zl_number_read ?zc_number_read ?zk_number_read ?zl_rule_of ?zc_rule_of ?zk_rule_of ?zl_world_start ?zc_world_start ?zk_world_start ?zl_many_fit ?zc_many_fit ?zk_many_fit ?zl_start_read ?zc_start_read ?zk_start_read ?zl_wish_read ?zc_wish_read ?zk_wish_read ?zl_read_game ?zc_read_game ?zk_read_game ?zl__law_cell ?zc__law_cell ?zk__law_cell ?zl__law_mixed ?zc__law_mixed ?zk__law_mixed ?zl__law_whole ?zc__law_whole ?zk__law_whole ?zl__law_same ?zc__law_same ?zk__law_same ?zl__law_all_same ?zc__law_all_same ?zk__law_all_same ?zl__law_amount ?zc__law_amount ?zk__law_amount ?zl__law_place ?zc__law_place ?zk__law_place ?zl__law_names ?zc__law_names ?zk__law_names ?zl__law_start ?zc__law_start ?zk__law_start ?zl__law_wish ?zc__law_wish ?zk__law_wish ?zl__law_words ?zc__law_words ?zk__law_words ?zl__law_lines ?zc__law_lines ?zk__law_lines ?zl__law_text ?zc__law_text ?zk__law_text ?zl_law ?zc_law ?zk_law ?zxl_LateError ?zxs_LateError ?zxga_LateError ?zxgg_LateError ?zxr_LateError ?zxk_LateError ?zxe_LateError ?zxv_LateError ?zxty_LateError ?zxh_LateError ?zxc_LateError ?zxcl_LateError ?zxm_LateError ?zxu_LateError_LateError ?zxu_LateError_NoState ?zxu_LateError_NoText ?zxl_NoState ?zxs_NoState ?zxga_NoState ?zxgg_NoState ?zxr_NoState ?zxk_NoState ?zxe_NoState ?zxv_NoState ?zxty_NoState ?zxh_NoState ?zxc_NoState ?zxcl_NoState ?zxm_NoState ?zxu_NoState_LateError ?zxu_NoState_NoState ?zxu_NoState_NoText ?zxl_NoText ?zxs_NoText ?zxga_NoText ?zxgg_NoText ?zxr_NoText ?zxk_NoText ?zxe_NoText ?zxv_NoText ?zxty_NoText ?zxh_NoText ?zxc_NoText ?zxcl_NoText ?zxm_NoText ?zxu_NoText_LateError ?zxu_NoText_NoState ?zxu_NoText_NoText ?zxtI ?zxvV ?zxgn ?zxgt ?zdr_Bound___init__ ?zdg_Bound___init__ ?zpg_Bags ?zhd_Bags ?zpo_Bags ?zsa_Bags ?zmk_Bags ?zkc_Bags ?zpg_Hire ?zhd_Hire ?zpo_Hire ?zsa_Hire ?zmk_Hire ?zkc_Hire ?zpg_Line ?zhd_Line ?zpo_Line ?zsa_Line ?zmk_Line ?zkc_Line ?zpg_Shelf ?zhd_Shelf ?zpo_Shelf ?zsa_Shelf ?zmk_Shelf ?zkc_Shelf ?zpg_Store ?zhd_Store ?zpo_Store ?zsa_Store ?zmk_Store ?zkc_Store ?zpg_Ways ?zhd_Ways ?zpo_Ways ?zsa_Ways ?zmk_Ways ?zkc_Ways ?zpg_Filler ?zhd_Filler ?zpo_Filler ?zsa_Filler ?zmk_Filler ?zkc_Filler ?zpg_Both ?zhd_Both ?zpo_Both ?zsa_Both ?zmk_Both ?zkc_Both ?zpg_Front ?zhd_Front ?zpo_Front ?zsa_Front ?zmk_Front ?zkc_Front ?zpg_Buyer ?zhd_Buyer ?zpo_Buyer ?zsa_Buyer ?zmk_Buyer ?zkc_Buyer ?zpg_Changer ?zhd_Changer ?zpo_Changer ?zsa_Changer ?zmk_Changer ?zkc_Changer ?zpg_Keeper ?zhd_Keeper ?zpo_Keeper ?zsa_Keeper ?zmk_Keeper ?zkc_Keeper ?zn_Bags_room ?zn_Hire_whole ?zn_Line_many ?zn_Shelf_things ?zn_Store_many ?zn_Ways_many ?zn_Ways_toll ?zn_Filler_world ?zn_Filler_now ?zn_Filler_total ?zn_Filler_room ?zn_Filler_opened ?zn_Both_world ?zn_Both_now ?zn_Both_total ?zn_Front_world ?zn_Front_now ?zn_Front_total ?zn_Buyer_world ?zn_Buyer_now ?zn_Buyer_total ?zn_Buyer_whole ?zn_Buyer_hired ?zn_Changer_world ?zn_Changer_now ?zn_Changer_total ?zn_Changer_toll ?zn_Changer_known ?zn_Keeper_world ?zn_Keeper_now ?zn_Keeper_total ?zn_Keeper_kept
    (case zb_ValueError => k_is)
    (case zb_isinstance => k_is)
    (case zb_bool => k_is)
    (case zb_int => k_is)
    (case zb_str => k_is)
    (case zb_len => k_is)
    (case zb_tuple => k_is)
    (case zb_set => k_is)
    (case zb_list => k_is)
    (case zb_sorted => k_is)
    (case zb_range => k_is)
    (case zb_all => k_is)
    (case zb_enumerate => k_is)
    (case zb_zip => k_is)
    (case zb_max => k_is)
    (case zg_GREATEST => k_is)
    (case zg_LETTERS => k_is)
    (case zg_MOST_FIGURES => k_is)
    (case zg_FIGURES => k_is)
    (case zg_MOST_ASKS => k_is)
    (case za_is_between => k_is)
    (case za_is_amount => k_is)
    (case za_is_name => k_is)
    (case za_are_names => k_is)
    (case za_is_place => k_is)
    (case za_are_places => k_is)
    (case za_line_of => k_is)
    (case za_sum_read => k_is)
    (case za_number_read => k_is)
    (case za_rule_of => k_is)
    (case za_world_start => k_is)
    (case za_many_fit => k_is)
    (case za_start_read => k_is)
    (case za_wish_read => k_is)
    (case za_read_game => k_is)
    (case za__law_cell => k_is)
    (case za__law_mixed => k_is)
    (case za__law_whole => k_is)
    (case za__law_same => k_is)
    (case za__law_all_same => k_is)
    (case za__law_amount => k_is)
    (case za__law_place => k_is)
    (case za__law_names => k_is)
    (case za__law_start => k_is)
    (case za__law_wish => k_is)
    (case za__law_words => k_is)
    (case za__law_lines => k_is)
    (case za__law_text => k_is)
    (case za_law => k_is)
    (case za_Bags => k_is)
    (case za_Hire => k_is)
    (case za_Line => k_is)
    (case za_Shelf => k_is)
    (case za_Store => k_is)
    (case za_Ways => k_is)
    (case za_Filler => k_is)
    (case za_Both => k_is)
    (case za_Front => k_is)
    (case za_Buyer => k_is)
    (case za_Changer => k_is)
    (case za_Keeper => k_is)
    (case za_LateError => k_is)
    (case za_NoState => k_is)
    (case za_NoText => k_is)
    (case za_Bound => k_is)
    (case zxi_LateError => k_is)
    (case zxi_NoState => k_is)
    (case zxi_NoText => k_is)
    (case zda_Bound___init__ => k_is)
    (case zi_Bags => k_is)
    (case zif_Bags => k_is)
    (case zi_Hire => k_is)
    (case zif_Hire => k_is)
    (case zi_Line => k_is)
    (case zif_Line => k_is)
    (case zi_Shelf => k_is)
    (case zif_Shelf => k_is)
    (case zi_Store => k_is)
    (case zif_Store => k_is)
    (case zi_Ways => k_is)
    (case zif_Ways => k_is)
    (case zi_Filler => k_is)
    (case zif_Filler => k_is)
    (case zi_Both => k_is)
    (case zif_Both => k_is)
    (case zi_Front => k_is)
    (case zif_Front => k_is)
    (case zi_Buyer => k_is)
    (case zif_Buyer => k_is)
    (case zi_Changer => k_is)
    (case zif_Changer => k_is)
    (case zi_Keeper => k_is)
    (case zif_Keeper => k_is)
    (case zm_Bags_is_wish => k_is)
    (case zmf_Bags_is_wish => k_is)
    (case zm_Hire_is_wish => k_is)
    (case zmf_Hire_is_wish => k_is)
    (case zm_Line_is_wish => k_is)
    (case zmf_Line_is_wish => k_is)
    (case zm_Shelf_is_wish => k_is)
    (case zmf_Shelf_is_wish => k_is)
    (case zm_Store_is_wish => k_is)
    (case zmf_Store_is_wish => k_is)
    (case zm_Ways_is_wish => k_is)
    (case zmf_Ways_is_wish => k_is)
    (case zl_LateError___init__ => k_is)
    (case zxt => k_is)
    (case zc_LateError___init__ => k_is)
    (case zk_LateError___init__ => k_is)
    (case zl_is_between => k_is)
    (case zc_is_between => k_is)
    (case zk_is_between => k_is)
    (case zl_is_amount => k_is)
    (case zc_is_amount => k_is)
    (case zk_is_amount => k_is)
    (case zl_is_name => k_is)
    (case zc_is_name => k_is)
    (case zk_is_name => k_is)
    (case zl_are_names => k_is)
    (case zc_are_names => k_is)
    (case zk_are_names => k_is)
    (case zl_Rule___init__ => k_is)
    (case zc_Rule___init__ => k_is)
    (case zk_Rule___init__ => k_is)
    (case zl_Bags___init__ => k_is)
    (case zc_Bags___init__ => k_is)
    (case zk_Bags___init__ => k_is)
    (case zl_Bags_is_wish => k_is)
    (case zc_Bags_is_wish => k_is)
    (case zk_Bags_is_wish => k_is)
    (case zl_Filler___init__ => k_is)
    (case zc_Filler___init__ => k_is)
    (case zk_Filler___init__ => k_is)
    (case zl_Hire___init__ => k_is)
    (case zc_Hire___init__ => k_is)
    (case zk_Hire___init__ => k_is)
    (case zl_Hire_is_wish => k_is)
    (case zc_Hire_is_wish => k_is)
    (case zk_Hire_is_wish => k_is)
    (case zl_Buyer___init__ => k_is)
    (case zc_Buyer___init__ => k_is)
    (case zk_Buyer___init__ => k_is)
    (case zl_is_place => k_is)
    (case zc_is_place => k_is)
    (case zk_is_place => k_is)
    (case zl_are_places => k_is)
    (case zc_are_places => k_is)
    (case zk_are_places => k_is)
    (case zl_line_of => k_is)
    (case zc_line_of => k_is)
    (case zk_line_of => k_is)
    (case zl_Line___init__ => k_is)
    (case zc_Line___init__ => k_is)
    (case zk_Line___init__ => k_is)
    (case zl_Line_is_wish => k_is)
    (case zc_Line_is_wish => k_is)
    (case zk_Line_is_wish => k_is)
    (case zl_Both___init__ => k_is)
    (case zc_Both___init__ => k_is)
    (case zk_Both___init__ => k_is)
    (case zl_Shelf___init__ => k_is)
    (case zc_Shelf___init__ => k_is)
    (case zk_Shelf___init__ => k_is)
    (case zl_Shelf_is_wish => k_is)
    (case zc_Shelf_is_wish => k_is)
    (case zk_Shelf_is_wish => k_is)
    (case zl_Front___init__ => k_is)
    (case zc_Front___init__ => k_is)
    (case zk_Front___init__ => k_is)
    (case zl_Store___init__ => k_is)
    (case zc_Store___init__ => k_is)
    (case zk_Store___init__ => k_is)
    (case zl_Store_is_wish => k_is)
    (case zc_Store_is_wish => k_is)
    (case zk_Store_is_wish => k_is)
    (case zl_Keeper___init__ => k_is)
    (case zc_Keeper___init__ => k_is)
    (case zk_Keeper___init__ => k_is)
    (case zl_Ways___init__ => k_is)
    (case zc_Ways___init__ => k_is)
    (case zk_Ways___init__ => k_is)
    (case zl_Ways_is_wish => k_is)
    (case zc_Ways_is_wish => k_is)
    (case zk_Ways_is_wish => k_is)
    (case zl_Changer___init__ => k_is)
    (case zyt_Changer___init__ => k_is)
    (case zc_Changer___init__ => k_is)
    (case zk_Changer___init__ => k_is)
    (case zl_sum_read => k_is)
    (case zc_sum_read => k_is)
    (case zk_sum_read => k_is)
    (case zl_number_read => k_is)
    (case zc_number_read => k_is)
    (case zk_number_read => k_is)
    (case zl_rule_of => k_is)
    (case zc_rule_of => k_is)
    (case zk_rule_of => k_is)
    (case zl_world_start => k_is)
    (case zc_world_start => k_is)
    (case zk_world_start => k_is)
    (case zl_many_fit => k_is)
    (case zc_many_fit => k_is)
    (case zk_many_fit => k_is)
    (case zl_start_read => k_is)
    (case zc_start_read => k_is)
    (case zk_start_read => k_is)
    (case zl_wish_read => k_is)
    (case zc_wish_read => k_is)
    (case zk_wish_read => k_is)
    (case zl_read_game => k_is)
    (case zc_read_game => k_is)
    (case zk_read_game => k_is)
    (case zl__law_cell => k_is)
    (case zc__law_cell => k_is)
    (case zk__law_cell => k_is)
    (case zl__law_mixed => k_is)
    (case zc__law_mixed => k_is)
    (case zk__law_mixed => k_is)
    (case zl__law_whole => k_is)
    (case zc__law_whole => k_is)
    (case zk__law_whole => k_is)
    (case zl__law_same => k_is)
    (case zc__law_same => k_is)
    (case zk__law_same => k_is)
    (case zl__law_all_same => k_is)
    (case zc__law_all_same => k_is)
    (case zk__law_all_same => k_is)
    (case zl__law_amount => k_is)
    (case zc__law_amount => k_is)
    (case zk__law_amount => k_is)
    (case zl__law_place => k_is)
    (case zc__law_place => k_is)
    (case zk__law_place => k_is)
    (case zl__law_names => k_is)
    (case zc__law_names => k_is)
    (case zk__law_names => k_is)
    (case zl__law_start => k_is)
    (case zc__law_start => k_is)
    (case zk__law_start => k_is)
    (case zl__law_wish => k_is)
    (case zc__law_wish => k_is)
    (case zk__law_wish => k_is)
    (case zl__law_words => k_is)
    (case zc__law_words => k_is)
    (case zk__law_words => k_is)
    (case zl__law_lines => k_is)
    (case zc__law_lines => k_is)
    (case zk__law_lines => k_is)
    (case zl__law_text => k_is)
    (case zc__law_text => k_is)
    (case zk__law_text => k_is)
    (case zl_law => k_is)
    (case zc_law => k_is)
    (case zk_law => k_is)
    (case zxl_LateError => k_is)
    (case zxs_LateError => k_is)
    (case zxga_LateError => k_is)
    (case zxgg_LateError => k_is)
    (case zxr_LateError => k_is)
    (case zxk_LateError => k_is)
    (case zxe_LateError => k_is)
    (case zxv_LateError => k_is)
    (case zxty_LateError => k_is)
    (case zxh_LateError => k_is)
    (case zxc_LateError => k_is)
    (case zxcl_LateError => k_is)
    (case zxm_LateError => k_is)
    (case zxu_LateError_LateError => k_is)
    (case zxu_LateError_NoState => k_is)
    (case zxu_LateError_NoText => k_is)
    (case zxl_NoState => k_is)
    (case zxs_NoState => k_is)
    (case zxga_NoState => k_is)
    (case zxgg_NoState => k_is)
    (case zxr_NoState => k_is)
    (case zxk_NoState => k_is)
    (case zxe_NoState => k_is)
    (case zxv_NoState => k_is)
    (case zxty_NoState => k_is)
    (case zxh_NoState => k_is)
    (case zxc_NoState => k_is)
    (case zxcl_NoState => k_is)
    (case zxm_NoState => k_is)
    (case zxu_NoState_LateError => k_is)
    (case zxu_NoState_NoState => k_is)
    (case zxu_NoState_NoText => k_is)
    (case zxl_NoText => k_is)
    (case zxs_NoText => k_is)
    (case zxga_NoText => k_is)
    (case zxgg_NoText => k_is)
    (case zxr_NoText => k_is)
    (case zxk_NoText => k_is)
    (case zxe_NoText => k_is)
    (case zxv_NoText => k_is)
    (case zxty_NoText => k_is)
    (case zxh_NoText => k_is)
    (case zxc_NoText => k_is)
    (case zxcl_NoText => k_is)
    (case zxm_NoText => k_is)
    (case zxu_NoText_LateError => k_is)
    (case zxu_NoText_NoState => k_is)
    (case zxu_NoText_NoText => k_is)
    (case zxtI => k_is)
    (case zxvV => k_is)
    (case zxgn => k_is)
    (case zxgt => k_is)
    (case zdr_Bound___init__ => k_is)
    (case zdg_Bound___init__ => k_is)
    (case zpg_Bags => k_is)
    (case zhd_Bags => k_is)
    (case zpo_Bags => k_is)
    (case zsa_Bags => k_is)
    (case zmk_Bags => k_is)
    (case zkc_Bags => k_is)
    (case zpg_Hire => k_is)
    (case zhd_Hire => k_is)
    (case zpo_Hire => k_is)
    (case zsa_Hire => k_is)
    (case zmk_Hire => k_is)
    (case zkc_Hire => k_is)
    (case zpg_Line => k_is)
    (case zhd_Line => k_is)
    (case zpo_Line => k_is)
    (case zsa_Line => k_is)
    (case zmk_Line => k_is)
    (case zkc_Line => k_is)
    (case zpg_Shelf => k_is)
    (case zhd_Shelf => k_is)
    (case zpo_Shelf => k_is)
    (case zsa_Shelf => k_is)
    (case zmk_Shelf => k_is)
    (case zkc_Shelf => k_is)
    (case zpg_Store => k_is)
    (case zhd_Store => k_is)
    (case zpo_Store => k_is)
    (case zsa_Store => k_is)
    (case zmk_Store => k_is)
    (case zkc_Store => k_is)
    (case zpg_Ways => k_is)
    (case zhd_Ways => k_is)
    (case zpo_Ways => k_is)
    (case zsa_Ways => k_is)
    (case zmk_Ways => k_is)
    (case zkc_Ways => k_is)
    (case zpg_Filler => k_is)
    (case zhd_Filler => k_is)
    (case zpo_Filler => k_is)
    (case zsa_Filler => k_is)
    (case zmk_Filler => k_is)
    (case zkc_Filler => k_is)
    (case zpg_Both => k_is)
    (case zhd_Both => k_is)
    (case zpo_Both => k_is)
    (case zsa_Both => k_is)
    (case zmk_Both => k_is)
    (case zkc_Both => k_is)
    (case zpg_Front => k_is)
    (case zhd_Front => k_is)
    (case zpo_Front => k_is)
    (case zsa_Front => k_is)
    (case zmk_Front => k_is)
    (case zkc_Front => k_is)
    (case zpg_Buyer => k_is)
    (case zhd_Buyer => k_is)
    (case zpo_Buyer => k_is)
    (case zsa_Buyer => k_is)
    (case zmk_Buyer => k_is)
    (case zkc_Buyer => k_is)
    (case zpg_Changer => k_is)
    (case zhd_Changer => k_is)
    (case zpo_Changer => k_is)
    (case zsa_Changer => k_is)
    (case zmk_Changer => k_is)
    (case zkc_Changer => k_is)
    (case zpg_Keeper => k_is)
    (case zhd_Keeper => k_is)
    (case zpo_Keeper => k_is)
    (case zsa_Keeper => k_is)
    (case zmk_Keeper => k_is)
    (case zkc_Keeper => k_is)
    (case zn_Bags_room => k_is)
    (case zn_Hire_whole => k_is)
    (case zn_Line_many => k_is)
    (case zn_Shelf_things => k_is)
    (case zn_Store_many => k_is)
    (case zn_Ways_many => k_is)
    (case zn_Ways_toll => k_is)
    (case zn_Filler_world => k_is)
    (case zn_Filler_now => k_is)
    (case zn_Filler_total => k_is)
    (case zn_Filler_room => k_is)
    (case zn_Filler_opened => k_is)
    (case zn_Both_world => k_is)
    (case zn_Both_now => k_is)
    (case zn_Both_total => k_is)
    (case zn_Front_world => k_is)
    (case zn_Front_now => k_is)
    (case zn_Front_total => k_is)
    (case zn_Buyer_world => k_is)
    (case zn_Buyer_now => k_is)
    (case zn_Buyer_total => k_is)
    (case zn_Buyer_whole => k_is)
    (case zn_Buyer_hired => k_is)
    (case zn_Changer_world => k_is)
    (case zn_Changer_now => k_is)
    (case zn_Changer_total => k_is)
    (case zn_Changer_toll => k_is)
    (case zn_Changer_known => k_is)
    (case zn_Keeper_world => k_is)
    (case zn_Keeper_now => k_is)
    (case zn_Keeper_total => k_is)
    (case zn_Keeper_kept => k_is)
