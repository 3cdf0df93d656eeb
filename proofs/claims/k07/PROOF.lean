import PyProof.Rows.All
import Wide.All
import OpenK.AllK
import Wide.FinOn
import HandS.Base
import HandS.Call
import HandS.List
import HandS.Comp
import HandS.Exc
import HandS.EndTab
import HandS.ExcIs
import KE.KDictKeyed
import HandS.TupAny
import HandS.Text
import HandS.TupMul
import HandS.IsInst
import HandS.StrMore
import HandS.Wide
import HandS.Style
import HandS.Iter
import HandS.Deep
import HandS.Ends
import HandS.Words
import HandS.ExcOwn
import PyProof.StrBlock2
import KE.SortData
import KE.KExcIs
import KE.GoesMore
import HandS.Zip
import HandS.WordsExc
import HandS.SortInts
import HandS.New0
import HandS.Nested
import HandS.SetFor
import HandS.Strs
import PyProof.SetRoads
import KE.IntTextLaws
import HandS.Dict
import HandS.Defaults
import HandS.TupSets
import KE.KeyNested
import HandS.Conv
import HandS.ExcInit
import HandS.ExcField
import KE.KIndexOf
import HandS.TryOnly
import HandS.RaiseMore
import KE.OsRunLaw
import HandS.TryMany
import HandS.Flow
import KE.KDictSum
import KE.KDictDisplayH
import KE.KDictPairs
import KE.KDictCopyH
import HandS.SortKw
import KE.SortKeyHeap
import PyProof.NeKinds
import PyProof.AutoSeq1
import KE.DataCmp
import KE.KTryMore
import PyProof.ReprRoads
import HandS.EndBits
import PyProof.ReprLen
import PyProof.Rows.ReprOcc
import HandS.More
import PySem.Challenge.RW_wishwords_k07_tables_told
set_option Elab.async false
set_option linter.all false
set_option maxRecDepth 100000
set_option maxHeartbeats 4000000
theorem pTW : PySem.Challenge.rw_wishwords_k07_tables_told.row.prog.tablesWhole = true := by decide +kernel
namespace HX
open PySem PySem.W PySem.Calls PyProof.Rows
def kT (K : Params → Frag) (ts : List Addr) : Params → Frag := fun P => K P ++ ts.map fun p => (p, tabObj #[])
theorem in_of {K : Params → Frag} {ts as : List Addr} {e : ∀ P, as = (kT K ts P).map (·.1)} {w : World} {h : Heap} (Y : (kHook (kT K ts) as e).says w h) : (K w.params).In h := fun a o q => Y a o (by
  show List.lookup a (K w.params ++ _) = some o
  rw [List.lookup_append, q]; rfl)
def pick (l : List Stmt) (ks : List Nat) : List Stmt := ks.filterMap fun k => l[k]?
theorem cut3 {σ β γ : Type} {o : Option σ} {f : σ → Bool} {g : σ → β} {k : σ → γ} {b : Bool} {c : β} {d : γ} (h1 : o.map f = some b) (h2 : o.map g = some c) (h3 : o.map k = some d) : o.map (fun s => (f s, g s, k s)) = some (b, c, d) := by
  cases o with
  | none => cases h1
  | some s => cases h1; cases h2; cases h3; rfl
theorem tab_of {K : Params → Frag} {P : Addr} {as : List Addr} {e : ∀ P', as = (kT K [P] P').map (·.1)} {w : World} {h : Heap} (Y : (kHook (kT K [P]) as e).says w h) (n : (K w.params).lookup P = none) : h.get? P = some { cls := .none, data := .fields #[] } := Y P _ (by
  show List.lookup P (K w.params ++ _) = some _
  rw [List.lookup_append, n]
  show List.lookup P [(P, tabObj #[])] = some _
  rw [List.lookup_cons, beq_self_eq_true])
end HX
namespace HD
open PySem PySem.W PySem.Calls PyProof.Rows
set_option maxHeartbeats 0
abbrev prog : Program := PySem.Challenge.rw_wishwords_k07_tables_told.row.prog
noncomputable def view : Program := { prog with main := { prog.main with body := HX.pick prog.main.body [45] } }
def loose : List PySem.Str := [PySem.Str.ofString "WordError", PySem.Str.ofString "NoKind", PySem.Str.ofString "NoTable", PySem.Str.ofString "NoText", PySem.Str.ofString "NoName", PySem.Str.ofString "NoRow", PySem.Str.ofString "LETTERS", PySem.Str.ofString "are_letters", PySem.Str.ofString "FIGURES", PySem.Str.ofString "Kind", PySem.Str.ofString "AnyWord", PySem.Str.ofString "Number", PySem.Str.ofString "Among", PySem.Str.ofString "Begins", PySem.Str.ofString "OFTENS", PySem.Str.ofString "MOST_WISHES", PySem.Str.ofString "MOST_OTHERS", PySem.Str.ofString "told_kind", PySem.Str.ofString "Wish", PySem.Str.ofString "Place", PySem.Str.ofString "is_named", PySem.Str.ofString "is_wish", PySem.Str.ofString "is_place", PySem.Str.ofString "is_pair", PySem.Str.ofString "need_part", PySem.Str.ofString "Table", PySem.Str.ofString "_law_mixed", PySem.Str.ofString "_law_cell_at", PySem.Str.ofString "_law_next", PySem.Str.ofString "_law_pick", PySem.Str.ofString "_law_names", PySem.Str.ofString "_law_bare", PySem.Str.ofString "_law_kind", PySem.Str.ofString "_law_wish", PySem.Str.ofString "_law_pairs", PySem.Str.ofString "_law_table", PySem.Str.ofString "_law_kind_made", PySem.Str.ofString "_law_table_made", PySem.Str.ofString "_law_found", PySem.Str.ofString "_law_right"]
def asL : List Addr := [2, 3, 15, 22, 23, 24, 25, 28, 35, 36, 37, 40, 47, 49, 50, 52, 53, 54, 55, 56, 59, 66, 68, 69, 71, 72, 73, 74, 75, 78, 85, 86, 87, 90, 97, 99, 100, 102, 103, 104, 105, 106, 109, 111, 112, 114, 115, 123, 125, 126, 128, 129, 130, 132, 133, 135, 136, 137, 138, 139, 140, 141, 144, 151, 153, 154, 156, 157, 158, 160, 161, 163, 164, 165, 166, 167, 170, 177, 179, 180, 182, 183, 184, 186, 187, 189, 190, 191, 193, 194, 196, 197, 198, 199, 200, 203, 210, 212, 213, 215, 216, 217, 219, 220, 222, 223, 224, 226, 227, 229, 230, 231, 232, 233, 236, 243, 245, 246, 248, 249, 250, 252, 253, 255, 256, 257, 259, 260, 262, 263, 264, 265, 266, 269, 270, 272, 273, 275, 276, 284, 285, 287, 288, 290, 291, 292, 294, 295, 297, 298, 299, 300, 301, 302, 303, 313, 315, 316, 318, 319, 320, 322, 323, 325, 326, 327, 328, 329, 330, 331, 334, 336, 337, 339, 340, 341, 344, 345, 346, 348, 349, 351, 352, 353, 355, 356, 358, 359, 360, 362, 363, 365, 366, 374, 377, 378, 379, 381, 382, 384, 385, 386, 388, 389, 391, 392, 393, 396, 397, 398, 399, 400, 401, 402, 405, 407, 408, 410, 411, 412, 414, 415, 417, 418, 419, 421, 422, 424, 425, 426, 428, 429, 431, 432, 433, 436, 437, 438, 440, 441, 443, 444, 445, 448, 449, 450, 452, 453, 455, 456, 457, 459, 460, 462, 463, 464, 467, 468, 469, 471, 472, 474, 475, 476, 479, 480, 481, 483, 484, 486, 487, 488, 491, 492, 493, 495, 496, 498, 499, 375]
section
local macro_rules | `(tactic| o_head ($f $k $a $e $t)) => `(tactic| exact (‹∀ p : Prop, p› _))
local macro_rules | `(tactic| o_head ($f $k $a $e)) => `(tactic| exact (‹∀ p : Prop, p› _))
theorem h0 (h : ∀ p : Prop, p) : PySem.Challenge.rw_wishwords_k07_tables_told.Holds := by
  w_on
  refine holds_law (h _) fun said => ?_
  k_head
end
noncomputable def run (w : World) (os : OsState) : Option SharedT := HeadRun.endF (HeadRun.stepQ (HeadRun.denQ HeadRun.tabQ) prog w) 8916 prog w os
theorem look1 (w : World) (os : OsState) : (run w os).map (fun s => HeadRun.looksF prog (boot_heap w.params) s.abs) = some true := by kernel_rfl
noncomputable def seen (w : World) (s : SharedT) := HeadRun.seenQ view loose (importedModules prog.main.body) (fun s => xlAt view [] s && recOk PySem.Challenge.rw_wishwords_k07_tables_told.row.records s) s.abs
theorem look2 (w : World) (os : OsState) : (run w os).map (fun s => seen w s) = some (openGood view loose) := by kernel_rfl
theorem look3 (w : World) (os : OsState) : (run w os).map (fun s => asL.map (HeadRun.getT s)) = some ((HX.kT h0.heap_1 [375] w.params).map fun x => some x.2) := by kernel_rfl
theorem asE : ∀ P, asL = (HX.kT h0.heap_1 [375] P).map (·.1) := fun _ => by kernel_rfl
theorem left : LeftO prog view loose (fun s => xlAt view [] s && recOk PySem.Challenge.rw_wishwords_k07_tables_told.row.records s) (Hook.obs (kHook (HX.kT h0.heap_1 [375]) asL asE)) (Hook.val (kHook (HX.kT h0.heap_1 [375]) asL asE)) 9616 true :=
  HeadRun.left_oneK (M := 8916) (by kernel_rfl) (by rfl) (fun s => by kernel_rfl) (by rfl) fun w os => HX.cut3 (look1 w os) (look2 w os) (look3 w os)
end HD
namespace PL
open PySem L2
abbrev lamQ : Str := "Table.__init__.<locals>.<lambda>"
abbrev Sl := List (Option V)
def PlT (K : PySem.W.Frag) (C : Hp) (a : Addr) (xs : List V) : Prop := (∃ o, C a = some (.frz o (.tup xs)) ∧ o.dict = none) ∨
 ∃ (o : Obj) (its : Array Value) (n : Nat), K.lookup a = some o ∧ o.cls = .type "tuple" ∧ o.dict = none ∧ o.data = .seq its n ∧ its.size ≤ sizeLine ∧ Vals xs its.toList
theorem PlT.sq {K : PySem.W.Frag} {C : Hp} {a : Addr} {xs : List V} (h : PlT K C a xs) : SqT K C a xs := by
 rcases h with ⟨o, h, _⟩ | ⟨o, its, n, h1, h2, _, h3⟩
 ·exact .inl (.inr ⟨o, h⟩)
 ·exact .inr ⟨o, its, n, h1, h2, h3⟩
theorem PlT.of {K : PySem.W.Frag} {C : Hp} {a : Addr} {xs : List V} {o : Obj} (h : C a = some (.frz o (.tup xs))) (hd : o.dict = none) : PlT K C a xs := .inl ⟨o, h, hd⟩
inductive D where
 | s (x : V)
 | tup (ds : List D)
 | lst (ds : List D)
 | obj (c : Addr) (fs : List (Str × D))
 | ro (ds : List D)
 | lam (f : Addr) (φ : Heap → Prop) (zs : List V) (ks : List D)
 | dic (kvs : List (Key × D))
 | exc (c : Addr) (b : Bool) (fs : List (Str × D))
 | lab (a : Addr) (d : D)
def ExO (a c : Addr) (d : Option Addr) : Heap → Prop := fun h => ∃ o vs, h.get? a = some o ∧ Zc (.ref c) d o ∧ o.data = .fields vs
mutual
def Is (K : PySem.W.Frag) (C : Hp) : D → V → Prop
 | .s x, v => v = x
 | .tup ds, v => ∃ a xs, v = .ref a ∧ PlT K C a xs ∧ Iss K C ds xs
 | .lst ds, v => ∃ a xs, v = .ref a ∧ C a = some (.lst xs) ∧ Iss K C ds xs
 | .obj c fs, v => ∃ a dx gs, v = .ref a ∧ C a = some (.ins c dx gs) ∧ Isf K C fs gs
 | .ro ds, v => ∃ a xs, v = .ref a ∧ SqL K C a xs ∧ Iss K C ds xs
 | .lam f φ zs ks, v => v = .ref f ∧ C f = some (.ext φ) ∧ Iss K C ks zs
 | .dic kvs, v => ∃ a o xs, v = .ref a ∧ C a = some (.frz o (.dK xs)) ∧ Isk K C kvs xs
 | .exc c b fs, v => ExcC K c ∧ ∃ a d gs, v = .ref a ∧ C a = some (.ext (ExO a c d)) ∧ ((b = false ∧ d = none) ∨ ∃ p, b = true ∧ d = some p ∧ C p = some (.xd gs)) ∧ Isf K C fs gs
 | .lab a d, v => v = .ref a ∧ Is K C d v
def Iss (K : PySem.W.Frag) (C : Hp) : List D → List V → Prop
 | [], xs => xs = []
 | d :: ds, xs => ∃ x r, xs = x :: r ∧ Is K C d x ∧ Iss K C ds r
def Isf (K : PySem.W.Frag) (C : Hp) : List (Str × D) → List (Str × V) → Prop
 | [], xs => xs = []
 | (n, d) :: ds, xs => ∃ x r, xs = (n, x) :: r ∧ Is K C d x ∧ Isf K C ds r
def Isk (K : PySem.W.Frag) (C : Hp) : List (Key × D) → List (Key × V) → Prop
 | [], xs => xs = []
 | (n, d) :: ds, xs => ∃ x r, xs = (n, x) :: r ∧ Is K C d x ∧ Isk K C ds r
end
def NT (o : HO) : Prop := ∀ ps, o ≠ .tbl ps
theorem vw {xs : List V} : NT (.lst xs) := fun _ z => by cases z
theorem nt_tup {xs : List V} : NT (.tup xs) := fun _ z => by cases z
theorem vby {c d : Addr} {fs : List (Str × V)} : NT (.ins c d fs) := fun _ z => by cases z
theorem nt_frz {o : Obj} {u : HO} : NT (.frz o u) := fun _ z => by cases z
theorem nt_xd {fs : List (Str × V)} : NT (.xd fs) := fun _ z => by cases z
theorem nt_dK {fs : List (Key × V)} : NT (.dK fs) := fun _ z => by cases z
def Ex (H H' : Hp) : Prop := (∀ a o, H a = some o → NT o → H' a = some o) ∧ ∀ a, H' a = none → H a = none
def TabP (K : PySem.W.Frag) (P : Addr) : Prop := ∃ (C f : Addr) (o : Obj) (fd : FuncData) (c : Addr), PySem.W.nsIn K mainGlobals "Table" = some (some (.ref C)) ∧ PySem.W.findIn K (.ref C) "__init__" = some (some (.ref f)) ∧ K.lookup f = some o ∧ o.data = .func fd ∧ fd.code = .ref c ∧ PySem.W.codeHdIn K c P = true
abbrev TS1 (H : Hp) (P : Addr) : Prop := LamX.TabS H P lamQ
def NotCode (φ : Heap → Prop) : Prop := ∀ c q, HO.ext φ ≠ LamX.CodeO c q
def NX (o : HO) : Prop := NT o ∧ ∀ φ, o = .ext φ → NotCode φ
theorem wau {H : Hp} {P a : Addr} {o : HO} (h : TS1 H P) (ha : ∀ u, H a = some u → NX u) : TS1 (upd H a o) P := by
 obtain ⟨ps, h1, h2, h3⟩ := h
 refine ⟨ps, ?_, h2, fun pos cv hc => ?_⟩
 ·rw [upd_ne (fun z => by rw [z] at h1; exact (ha _ h1).1 ps rfl)]; exact h1
 ·obtain ⟨c, e1, e2⟩ := h3 pos cv hc
  refine ⟨c, e1, ?_⟩
  rw [upd_ne (fun z => by rw [z] at e2; exact (ha _ e2).2 _ rfl a lamQ rfl)]; exact e2
theorem qav {H : Hp} {P a : Addr} {o : HO} (h : TS1 H P) (ha : H a = none) : TS1 (upd H a o) P := wau h fun u z => by rw [ha] at z; cases z
theorem Ex.refl (H : Hp) : Ex H H := ⟨fun _ _ h _ => h, fun _ h => h⟩
theorem Ex.trans {H H1 H2 : Hp} (a : Ex H H1) (b : Ex H1 H2) : Ex H H2 := ⟨fun x o h n => b.1 x o (a.1 x o h n) n, fun x h => a.2 x (b.2 x h)⟩
theorem Ex.new {H : Hp} {p : Addr} {o : HO} (h : H p = none) : Ex H (upd H p o) := ⟨fun a u e _ => by
 rw [upd_ne (ne_of_none e h)]
 exact e, fun a e => by
 by_cases q : a = p
 ·rw [q, upd_same] at e; cases e
 ·rw [upd_ne q] at e; exact e⟩
theorem Ex.none {H H' : Hp} {p : Addr} (e : Ex H H') (h : H' p = none) : H p = none := e.2 p h
theorem ex_rd {H H' : Hp} {a : Addr} {u : HO} (e : Ex H H') (n : NT u) (h : Rd H a u) : Rd H' a u := by
 rcases h with h | ⟨o, h⟩
 ·exact Or.inl (e.1 a _ h n)
 ·exact Or.inr ⟨o, e.1 a _ h nt_frz⟩
theorem ex_l {K : PySem.W.Frag} {H H' : Hp} {a : Addr} {xs : List V} (e : Ex H H') (h : SqL K H a xs) : SqL K H' a xs := by
 rcases h with h | h
 ·exact Or.inl (ex_rd e vw h)
 ·exact Or.inr h
theorem ex_t {K : PySem.W.Frag} {H H' : Hp} {a : Addr} {xs : List V} (e : Ex H H') (h : SqT K H a xs) : SqT K H' a xs := by
 rcases h with h | h
 ·exact Or.inl (ex_rd e nt_tup h)
 ·exact Or.inr h
theorem ex_p {K : PySem.W.Frag} {H H' : Hp} {a : Addr} {xs : List V} (e : Ex H H') (h : PlT K H a xs) : PlT K H' a xs := by
 rcases h with ⟨o, h, q⟩ | h
 ·exact .inl ⟨o, e.1 a _ h nt_frz, q⟩
 ·exact .inr h
mutual
theorem Is.mono {K : PySem.W.Frag} {C C' : Hp} (e : Ex C C') : ∀ (d : D) (v : V), Is K C d v → Is K C' d v
 | .s x, v, h => by unfold Is at h ⊢; exact h
 | .tup ds, v, h => by
  unfold Is at h ⊢
  obtain ⟨a, xs, h1, h2, h3⟩ := h
  exact ⟨a, xs, h1, ex_p e h2, Iss.mono e ds xs h3⟩
 | .lst ds, v, h => by
  unfold Is at h ⊢
  obtain ⟨a, xs, h1, h2, h3⟩ := h
  exact ⟨a, xs, h1, e.1 _ _ h2 vw, Iss.mono e ds xs h3⟩
 | .obj c fs, v, h => by
  unfold Is at h ⊢
  obtain ⟨a, dx, gs, h1, h2, h3⟩ := h
  exact ⟨a, dx, gs, h1, e.1 _ _ h2 vby, Isf.mono e fs gs h3⟩
 | .ro ds, v, h => by
  unfold Is at h ⊢
  obtain ⟨a, xs, h1, h2, h3⟩ := h
  exact ⟨a, xs, h1, ex_l e h2, Iss.mono e ds xs h3⟩
 | .lam f c zs ks, v, h => by
  unfold Is at h ⊢
  exact ⟨h.1, e.1 _ _ h.2.1 (fun ps z => by cases z), Iss.mono e ks zs h.2.2⟩
 | .dic kvs, v, h => by
  unfold Is at h ⊢
  obtain ⟨a, o, xs, h1, h2, h3⟩ := h
  exact ⟨a, o, xs, h1, e.1 _ _ h2 (fun ps z => by cases z), Isk.mono e kvs xs h3⟩
 | .exc c b fs, v, h => by
  unfold Is at h ⊢
  obtain ⟨h0, a, d, gs, h1, h2, h3, h4⟩ := h
  refine ⟨h0, a, d, gs, h1, e.1 _ _ h2 (fun ps z => by cases z), ?_, Isf.mono e fs gs h4⟩
  rcases h3 with h3 | ⟨p, q1, q2, q3⟩
  ·exact .inl h3
  ·exact .inr ⟨p, q1, q2, e.1 _ _ q3 (fun ps z => by cases z)⟩
 | .lab a d, v, h => by
  unfold Is at h ⊢
  exact ⟨h.1, Is.mono e d v h.2⟩
theorem Iss.mono {K : PySem.W.Frag} {C C' : Hp} (e : Ex C C') : ∀ (ds : List D) (vs : List V), Iss K C ds vs → Iss K C' ds vs
 | [], vs, h => by unfold Iss at h ⊢; exact h
 | d :: ds, vs, h => by
  unfold Iss at h ⊢
  obtain ⟨x, r, h1, h2, h3⟩ := h
  exact ⟨x, r, h1, Is.mono e d x h2, Iss.mono e ds r h3⟩
theorem Isf.mono {K : PySem.W.Frag} {C C' : Hp} (e : Ex C C') : ∀ (ds : List (Str × D)) (vs : List (Str × V)), Isf K C ds vs → Isf K C' ds vs
 | [], vs, h => by unfold Isf at h ⊢; exact h
 | (n, d) :: ds, vs, h => by
  unfold Isf at h ⊢
  obtain ⟨x, r, h1, h2, h3⟩ := h
  exact ⟨x, r, h1, Is.mono e d x h2, Isf.mono e ds r h3⟩
theorem Isk.mono {K : PySem.W.Frag} {C C' : Hp} (e : Ex C C') : ∀ (ds : List (Key × D)) (vs : List (Key × V)), Isk K C ds vs → Isk K C' ds vs
 | [], vs, h => by unfold Isk at h ⊢; exact h
 | (n, d) :: ds, vs, h => by
  unfold Isk at h ⊢
  obtain ⟨x, r, h1, h2, h3⟩ := h
  exact ⟨x, r, h1, Is.mono e d x h2, Isk.mono e ds r h3⟩
end
section
variable {K : PySem.W.Frag} {C C' H H' : Hp}
theorem is_s {x : V} : Is K C (.s x) x := by unfold Is; rfl
theorem is_s_iff {x v : V} : Is K C (.s x) v ↔ v = x := by unfold Is; rfl
theorem jg : Iss K C [] [] := by unfold Iss; rfl
theorem ze {d : D} {ds : List D} {x : V} {xs : List V} (h : Is K C d x) (hs : Iss K C ds xs) : Iss K C (d :: ds) (x :: xs) := by unfold Iss; exact ⟨x, xs, rfl, h, hs⟩
theorem iss_nil_iff {xs : List V} : Iss K C [] xs ↔ xs = [] := by unfold Iss; rfl
theorem iss_cons_iff {d : D} {ds : List D} {xs : List V} : Iss K C (d :: ds) xs ↔ ∃ x r, xs = x :: r ∧ Is K C d x ∧ Iss K C ds r := by
 constructor
 ·intro h; unfold Iss at h; exact h
 ·intro h; unfold Iss; exact h
theorem vbi {ds : List D} {xs : List V} {a : Addr} (h : PlT K C a xs) (hs : Iss K C ds xs) : Is K C (.tup ds) (.ref a) := by unfold Is; exact ⟨a, xs, rfl, h, hs⟩
theorem is_lst {ds : List D} {xs : List V} {a : Addr} (h : C a = some (.lst xs)) (hs : Iss K C ds xs) : Is K C (.lst ds) (.ref a) := by unfold Is; exact ⟨a, xs, rfl, h, hs⟩
theorem qa6 {ds : List D} {v : V} (h : Is K C (.tup ds) v) : ∃ a xs, v = .ref a ∧ PlT K C a xs ∧ Iss K C ds xs := by
 unfold Is at h; exact h
theorem y5 {ds : List D} {v : V} (h : Is K C (.tup ds) v) : ∃ a xs, v = .ref a ∧ SqT K C a xs ∧ Iss K C ds xs := by
 obtain ⟨a, xs, h1, h2, h3⟩ := qa6 h
 exact ⟨a, xs, h1, h2.sq, h3⟩
theorem is_lst_iff {ds : List D} {v : V} : Is K C (.lst ds) v ↔ ∃ a xs, v = .ref a ∧ C a = some (.lst xs) ∧ Iss K C ds xs := by
 constructor
 ·intro h; unfold Is at h; exact h
 ·intro h; unfold Is; exact h
theorem is_obj_iff {c : Addr} {fs : List (Str × D)} {v : V} : Is K C (.obj c fs) v ↔ ∃ a dx gs, v = .ref a ∧ C a = some (.ins c dx gs) ∧ Isf K C fs gs := by
 constructor
 ·intro h; unfold Is at h; exact h
 ·intro h; unfold Is; exact h
theorem is_ro_iff {ds : List D} {v : V} : Is K C (.ro ds) v ↔ ∃ a xs, v = .ref a ∧ SqL K C a xs ∧ Iss K C ds xs := by
 constructor
 ·intro h; unfold Is at h; exact h
 ·intro h; unfold Is; exact h
theorem is_lam_iff {f : Addr} {c : Heap → Prop} {zs : List V} {ks : List D} {v : V} : Is K C (.lam f c zs ks) v ↔ v = .ref f ∧ C f = some (.ext c) ∧ Iss K C ks zs := by
 constructor
 ·intro h; unfold Is at h; exact h
 ·intro h; unfold Is; exact h
theorem is_dic_iff {kvs : List (Key × D)} {v : V} : Is K C (.dic kvs) v ↔ ∃ a o xs, v = .ref a ∧ C a = some (.frz o (.dK xs)) ∧ Isk K C kvs xs := by
 constructor
 ·intro h; unfold Is at h; exact h
 ·intro h; unfold Is; exact h
theorem is_exc_iff {c : Addr} {b : Bool} {fs : List (Str × D)} {v : V} : Is K C (.exc c b fs) v ↔ ExcC K c ∧ ∃ a d gs, v = .ref a ∧ C a = some (.ext (ExO a c d)) ∧ ((b = false ∧ d = none) ∨ ∃ p, b = true ∧ d = some p ∧ C p = some (.xd gs)) ∧ Isf K C fs gs := by
 constructor
 ·intro h; unfold Is at h; exact h
 ·intro h; unfold Is; exact h
theorem is_lab_iff {a : Addr} {d : D} {v : V} : Is K C (.lab a d) v ↔ v = .ref a ∧ Is K C d v := by
 constructor
 ·intro h; unfold Is at h; exact h
 ·intro h; unfold Is; exact h
theorem zbr : Isf K C [] [] := by unfold Isf; rfl
theorem kag {n : Str} {d : D} {ds : List (Str × D)} {x : V} {xs : List (Str × V)} (h : Is K C d x) (hs : Isf K C ds xs) : Isf K C ((n, d) :: ds) ((n, x) :: xs) := by unfold Isf; exact ⟨x, xs, rfl, h, hs⟩
theorem isf_nil_iff {xs : List (Str × V)} : Isf K C [] xs ↔ xs = [] := by unfold Isf; rfl
theorem isf_cons_iff {n : Str} {d : D} {ds : List (Str × D)} {xs : List (Str × V)} : Isf K C ((n, d) :: ds) xs ↔ ∃ x r, xs = (n, x) :: r ∧ Is K C d x ∧ Isf K C ds r := by
 constructor
 ·intro h; unfold Isf at h; exact h
 ·intro h; unfold Isf; exact h
theorem Iss.length : ∀ {ds : List D} {xs : List V}, Iss K C ds xs → xs.length = ds.length
 | [], xs, h => by rw [iss_nil_iff.mp h]; rfl
 | d :: ds, xs, h => by
  obtain ⟨x, r, rfl, _, h3⟩ := iss_cons_iff.mp h
  rw [List.length_cons, List.length_cons, Iss.length h3]
theorem Iss.get : ∀ {ds : List D} {xs : List V} {i : Nat} {d : D}, Iss K C ds xs → ds[i]? = some d → ∃ x, xs[i]? = some x ∧ Is K C d x
 | [], xs, i, d, h, e => by simp at e
 | d0 :: ds, xs, 0, d, h, e => by
  obtain ⟨x, r, rfl, h2, _⟩ := iss_cons_iff.mp h
  simp at e; subst e
  exact ⟨x, rfl, h2⟩
 | d0 :: ds, xs, i + 1, d, h, e => by
  obtain ⟨x, r, rfl, _, h3⟩ := iss_cons_iff.mp h
  obtain ⟨y, h4, h5⟩ := Iss.get (i := i) (d := d) h3 (by simpa using e)
  exact ⟨y, by simpa using h4, h5⟩
theorem Iss.app : ∀ {ds es : List D} {xs ys : List V}, Iss K C ds xs → Iss K C es ys → Iss K C (ds ++ es) (xs ++ ys)
 | [], es, xs, ys, h, k => by rw [iss_nil_iff.mp h]; exact k
 | d :: ds, es, xs, ys, h, k => by
  obtain ⟨x, r, rfl, h2, h3⟩ := iss_cons_iff.mp h
  exact ze h2 (Iss.app h3 k)
theorem Iss.take : ∀ {ds : List D} {xs : List V} (n : Nat), Iss K C ds xs → Iss K C (ds.take n) (xs.take n)
 | ds, xs, 0, h => by simpa using jg
 | [], xs, n + 1, h => by rw [iss_nil_iff.mp h]; exact jg
 | d :: ds, xs, n + 1, h => by
  obtain ⟨x, r, rfl, h2, h3⟩ := iss_cons_iff.mp h
  exact ze h2 (Iss.take n h3)
theorem Iss.drop : ∀ {ds : List D} {xs : List V} (n : Nat), Iss K C ds xs → Iss K C (ds.drop n) (xs.drop n)
 | ds, xs, 0, h => h
 | [], xs, n + 1, h => by rw [iss_nil_iff.mp h]; exact jg
 | d :: ds, xs, n + 1, h => by
  obtain ⟨x, r, rfl, _, h3⟩ := iss_cons_iff.mp h
  exact Iss.drop n h3
theorem Iss.set : ∀ {ds : List D} {xs : List V} {d : D} {x : V} (n : Nat), Iss K C ds xs → Is K C d x → Iss K C (ds.set n d) (xs.set n x)
 | [], xs, d, x, n, h, k => by rw [iss_nil_iff.mp h]; exact jg
 | d0 :: ds, xs, d, x, 0, h, k => by
  obtain ⟨y, r, rfl, _, h3⟩ := iss_cons_iff.mp h
  exact ze k h3
 | d0 :: ds, xs, d, x, n + 1, h, k => by
  obtain ⟨y, r, rfl, h2, h3⟩ := iss_cons_iff.mp h
  exact ze h2 (Iss.set n h3 k)
theorem Isf.lookup : ∀ {fs : List (Str × D)} {gs : List (Str × V)} {n : Str} {d : D}, Isf K C fs gs → fs.lookup n = some d → ∃ x, gs.lookup n = some x ∧ Is K C d x
 | [], gs, n, d, h, e => by simp at e
 | (m, d0) :: fs, gs, n, d, h, e => by
  obtain ⟨x, r, rfl, h2, h3⟩ := isf_cons_iff.mp h
  rw [List.lookup_cons] at e ⊢
  cases hb : n == m with
  | true => rw [hb] at e; simp at e; subst e; exact ⟨x, rfl, h2⟩
  | false => rw [hb] at e; simp at e; exact Isf.lookup h3 e
end
mutual
def nkD : D → Option NestedKey
 | .s .non => some .none
 | .s (.bl b) => some (.num (if b = true then 1 else 0))
 | .s (.int i) => some (.num i)
 | .s (.str z) => some (.text z)
 | .tup ds => match nkDs ds with
  | some ks => some (.tup ks)
  | none => none
 | _ => none
def nkDs : List D → Option (List NestedKey)
 | [] => some []
 | d :: ds => match nkD d, nkDs ds with
  | some k, some ks => some (k :: ks)
  | _, _ => none
end
abbrev NEnt := List (NestedKey × Addr × Value)
def NDat (P : Program) (w : World) (a : Addr) (xs : NEnt) : Heap → Prop := fun h => ∃ o es ep, h.get? a = some o ∧ o.ExactDict ∧ o.data = .dict es ep ∧ es.toList = xs.map (entryOfKey (nestedKind P w))
theorem ndat_code (P : Program) (w : World) (a : Addr) (xs : NEnt) : NotCode (NDat P w a xs) := fun c q e => by
 have e2 : NDat P w a xs = fun h => ∃ (oc : Obj) (vs : Array Value) (t : Tok), h.get? c = some oc ∧ oc.data = .fields vs ∧ vs[1]? = some (.str q t) := by
  unfold LamX.CodeO at e
  injection e
 let ob : Obj := { cls := .type "dict", data := .dict (xs.map (entryOfKey (nestedKind P w))).toArray 0 }
 let fr : Obj := { cls := .none, data := .freed }
 let h : Heap := { objs := (List.replicate a fr ++ [ob]).toArray }
 have hg : h.get? a = some ob := by
  unfold Heap.get?
  have : h.objs[a]? = some ob := by
   show (List.replicate a fr ++ [ob]).toArray[a]? = some ob
   rw [List.getElem?_toArray, List.getElem?_append_right (by simp)]
   simp
  rw [this]
 have h1 : NDat P w a xs h := ⟨ob, _, _, hg, ⟨rfl, rfl, rfl⟩, rfl, by simp⟩
 rw [e2] at h1
 obtain ⟨oc, vs, t, g1, g2, _⟩ := h1
 have hne : ∀ b, b ≠ a → h.get? b = none := fun b hb => by
  unfold Heap.get?
  by_cases c1 : b < a
  ·have : h.objs[b]? = some fr := by
    show (List.replicate a fr ++ [ob]).toArray[b]? = some fr
    rw [List.getElem?_toArray, List.getElem?_append_left (by simpa using c1)]
    simp [c1]
   rw [this]
  ·have : h.objs[b]? = none := by
    show (List.replicate a fr ++ [ob]).toArray[b]? = none
    rw [List.getElem?_toArray, List.getElem?_eq_none_iff, List.length_append, List.length_replicate, List.length_singleton]
    have h3 : a ≤ b := Nat.le_of_not_lt c1
    exact Nat.succ_le_of_lt (Nat.lt_of_le_of_ne h3 fun z => hb z.symm)
   rw [this]
 by_cases hc : c = a
 ·rw [hc, hg] at g1
  cases g1
  cases g2
 ·rw [hne c hc] at g1
  cases g1
def NKs (K : PySem.W.Frag) (C : Hp) : List (D × D) → NEnt → Prop
 | [], xs => xs = []
 | (kd, vd) :: r, xs => ∃ k ka u v t, xs = (k, ka, u) :: t ∧ nkD kd = some k ∧ k.depth ≤ 8 ∧ Is K C kd (.ref ka) ∧ RelV v u ∧ Is K C vd v ∧ NKs K C r t
theorem NKs.mono {K : PySem.W.Frag} {C C' : Hp} (e : Ex C C') : ∀ (ds : List (D × D)) (xs : NEnt), NKs K C ds xs → NKs K C' ds xs
 | [], xs, h => h
 | (kd, vd) :: ds, xs, h => by
  obtain ⟨k, ka, u, v, t, h1, h2, h3, h4, h5, h6, h7⟩ := h
  exact ⟨k, ka, u, v, t, h1, h2, h3, Is.mono e kd _ h4, h5, Is.mono e vd v h6, NKs.mono e ds t h7⟩
inductive M where
 | lst (ds : List D)
 | dk (kvs : List (Key × D))
 | dt (kvs : List (List Key × D))
 | ob (c : Addr) (fs : List (Str × D))
 | dn (P : Program) (w : World) (kvs : List (D × D))
def Iskv {κ : Type} (K : PySem.W.Frag) (C : Hp) : List (κ × D) → List (κ × V) → Prop
 | [], xs => xs = []
 | (n, d) :: ds, xs => ∃ x r, xs = (n, x) :: r ∧ Is K C d x ∧ Iskv K C ds r
theorem Iskv.mono {κ : Type} {K : PySem.W.Frag} {C C' : Hp} (e : Ex C C') : ∀ (ds : List (κ × D)) (vs : List (κ × V)), Iskv K C ds vs → Iskv K C' ds vs
 | [], vs, h => h
 | (n, d) :: ds, vs, h => by
  obtain ⟨x, r, h1, h2, h3⟩ := h
  exact ⟨x, r, h1, Is.mono e d x h2, Iskv.mono e ds r h3⟩
def MIs (K : PySem.W.Frag) (C : Hp) : M → HO → Prop
 | .lst ds, o => ∃ xs, o = .lst xs ∧ Iss K C ds xs
 | .dk kvs, o => ∃ xs, o = .dK xs ∧ Iskv K C kvs xs
 | .dt kvs, o => ∃ xs, o = .dT xs ∧ Iskv K C kvs xs
 | .ob c fs, o => ∃ dx gs, o = .ins c dx gs ∧ Isf K C fs gs
 | .dn P w kvs, o => ∃ a xs, o = .ext (NDat P w a xs) ∧ (a == sysModules) = false ∧ (xs.map (·.1)).Nodup ∧ NKs K C kvs xs
theorem MIs.nx {K : PySem.W.Frag} {C : Hp} {m : M} {o : HO} (h : MIs K C m o) : NX o := by
 cases m with
 | lst ds => obtain ⟨xs, rfl, _⟩ := h; exact ⟨vw, fun _ z => by cases z⟩
 | dk ds => obtain ⟨xs, rfl, _⟩ := h; exact ⟨nt_dK, fun _ z => by cases z⟩
 | dt ds => obtain ⟨xs, rfl, _⟩ := h; exact ⟨(fun _ z => nomatch z), (fun _ z => nomatch z)⟩
 | ob c fs => obtain ⟨dx, gs, rfl, _⟩ := h; exact ⟨vby, fun _ z => by cases z⟩
 | dn P w kvs => obtain ⟨a, xs, rfl, _⟩ := h; exact ⟨(fun _ z => nomatch z), fun φ z => by cases z; exact ndat_code P w a xs⟩
theorem MIs.mono {K : PySem.W.Frag} {C C' : Hp} {m : M} {o : HO} (e : Ex C C') (h : MIs K C m o) : MIs K C' m o := by
 cases m with
 | lst ds => obtain ⟨xs, h1, h2⟩ := h; exact ⟨xs, h1, Iss.mono e ds xs h2⟩
 | dk ds => obtain ⟨xs, h1, h2⟩ := h; exact ⟨xs, h1, Iskv.mono e ds xs h2⟩
 | dt ds => obtain ⟨xs, h1, h2⟩ := h; exact ⟨xs, h1, Iskv.mono e ds xs h2⟩
 | ob c fs => obtain ⟨dx, gs, h1, h2⟩ := h; exact ⟨dx, gs, h1, Isf.mono e fs gs h2⟩
 | dn P w kvs => obtain ⟨a, xs, h1, h2, h3, h4⟩ := h; exact ⟨a, xs, h1, h2, h3, NKs.mono e kvs xs h4⟩
inductive Cell where
 | no
 | dat (d : D)
 | own (m : M)
abbrev En := List Cell
inductive Rv where
 | dat (d : D)
 | new (m : M)
 | bor (i : Nat)
structure Exn where
 c : Addr
 fs : Option (List (Str × D))
inductive Out (α : Type) where
 | ok (a : α) (r : En)
 | ex (e : Exn) (r : En)
def kf (σ : Sl) (ρ : En) (a : Addr) : Prop := ∃ (i : Nat) (m : M), ρ[i]? = some (.own m) ∧ σ[i]? = some (some (.ref a))
def CellOk (K : PySem.W.Frag) (C H : Hp) (v : Option V) : Cell → Prop
 | .no => True
 | .dat d => ∃ x, v = some x ∧ Is K C d x
 | .own m => ∃ p o, v = some (.ref p) ∧ C p = none ∧ H p = some o ∧ MIs K C m o
structure EnvOk (K : PySem.W.Frag) (C H : Hp) (σ : Sl) (ρ : En) : Prop where
 len : σ.length = ρ.length
 ext : Ex C H
 cell : ∀ (i : Nat) (c : Cell), ρ[i]? = some c → ∃ v, σ[i]? = some v ∧ CellOk K C H v c
 inj : ∀ (i j : Nat) (m n : M) (a : Addr), ρ[i]? = some (.own m) → ρ[j]? = some (.own n) → σ[i]? = some (some (.ref a)) → σ[j]? = some (some (.ref a)) → i = j
 tab : ∀ P, TabP K P → TS1 H P
structure Step (C H C' H' : Hp) (A : Addr → Prop) : Prop where
 core : Ex C C'
 ext : Ex C' H'
 keep : ∀ b o, H b = some o → NT o → ¬ A b → H' b = some o
 new : ∀ b, C b = none → C' b ≠ none → H b = none ∨ A b
 dom : ∀ b, H' b = none → H b = none
 tabs : ∀ P, TS1 H P → TS1 H' P
theorem Step.refl {C H : Hp} {A : Addr → Prop} (e : Ex C H) : Step C H C H A := ⟨Ex.refl C, e, fun _ _ h _ _ => h, fun b h k => absurd h k, fun _ h => h, fun _ h => h⟩
theorem Step.trans {C H C1 H1 C2 H2 : Hp} {A B : Addr → Prop} (s : Step C H C1 H1 A) (t : Step C1 H1 C2 H2 B) (hB : ∀ a, B a → A a ∨ H a = none) : Step C H C2 H2 A := by
 refine ⟨s.core.trans t.core, t.ext, fun b o h nt na => ?_, fun b h k => ?_, fun b h => s.dom b (t.dom b h), fun P h => t.tabs P (s.tabs P h)⟩
 ·refine t.keep b o (s.keep b o h nt na) nt fun hb => ?_
  rcases hB b hb with z | z
  ·exact na z
  ·rw [z] at h; cases h
 ·cases e : C1 b with
  | none =>
   rcases t.new b e k with z | z
   ·exact .inl (s.dom b z)
   ·rcases hB b z with y | y
    ·exact .inr y
    ·exact .inl y
  | some o => exact s.new b h (by rw [e]; exact fun z => by cases z)
theorem Step.weak {C H C' H' : Hp} {A B : Addr → Prop} (s : Step C H C' H' A) (h : ∀ a, A a → B a ∨ H a = none) : Step C H C' H' B := by
 refine ⟨s.core, s.ext, fun b o e nt nb => s.keep b o e nt fun a => ?_, fun b e k => ?_, s.dom, s.tabs⟩
 ·rcases h b a with z | z
  ·exact nb z
  ·rw [z] at e; cases e
 ·rcases s.new b e k with z | z
  ·exact .inl z
  ·rcases h b z with y | y
   ·exact .inr y
   ·exact .inl y
structure Post (K : PySem.W.Frag) (σ : Sl) (C H : Hp) (ρ : En) (C' H' : Hp) (ρ' : En) : Prop where
 step : Step C H C' H' (kf σ ρ)
 own : ∀ a, kf σ ρ' a → kf σ ρ a
 env : EnvOk K C' H' σ ρ'
theorem Post.refl {K : PySem.W.Frag} {σ : Sl} {C H : Hp} {ρ : En} (e : EnvOk K C H σ ρ) : Post K σ C H ρ C H ρ := ⟨Step.refl e.ext, fun _ h => h, e⟩
theorem Post.trans {K : PySem.W.Frag} {σ : Sl} {C H C1 H1 C2 H2 : Hp} {ρ ρ1 ρ2 : En} (a : Post K σ C H ρ C1 H1 ρ1) (b : Post K σ C1 H1 ρ1 C2 H2 ρ2) : Post K σ C H ρ C2 H2 ρ2 :=
 ⟨a.step.trans b.step fun x h => .inl (a.own x h), fun x h => a.own x (b.own x h), b.env⟩
def VOk (K : PySem.W.Frag) (H0 C H : Hp) (σ : Sl) (ρ : En) (v : V) : Rv → Prop
 | .dat d => Is K C d v
 | .new m => ∃ p o, v = .ref p ∧ C p = none ∧ H p = some o ∧ MIs K C m o ∧ ¬ kf σ ρ p ∧ H0 p = none
 | .bor i => σ[i]? = some (some v) ∧ ∃ c, ρ[i]? = some c
theorem VOk.mono {K : PySem.W.Frag} {σ : Sl} {H0 C H C' H' : Hp} {ρ ρ' : En} {v : V} {r : Rv} (h : VOk K H0 C H σ ρ v r) (e : EnvOk K C H σ ρ) (p : Post K σ C H ρ C' H' ρ') : VOk K H0 C' H' σ ρ' v r := by
 cases r with
 | dat d => exact Is.mono p.step.core d v h
 | new m =>
  obtain ⟨a, o, h1, h2, h3, h4, h5, h6⟩ := h
  refine ⟨a, o, h1, ?_, p.step.keep a o h3 h4.nx.1 h5, h4.mono p.step.core, fun z => h5 (p.own a z), h6⟩
  cases q : C' a with
  | none => rfl
  | some u =>
   rcases p.step.new a h2 (by rw [q]; exact fun z => by cases z) with z | z
   ·rw [z] at h3; cases h3
   ·exact absurd z h5
 | bor i =>
  obtain ⟨h1, c, h2⟩ := h
  refine ⟨h1, ?_⟩
  have l1 : i < ρ.length := (List.getElem?_eq_some_iff.mp h2).1
  have l2 : i < ρ'.length := by rw [← p.env.len, e.len]; exact l1
  exact ⟨ρ'[i], List.getElem?_eq_getElem l2⟩
theorem VOk.back {K : PySem.W.Frag} {σ : Sl} {H0 H1 C H : Hp} {ρ : En} {v : V} {r : Rv} (h : VOk K H1 C H σ ρ v r) (d : ∀ b, H1 b = none → H0 b = none) : VOk K H0 C H σ ρ v r := by
 cases r with
 | dat d' => exact h
 | new m => obtain ⟨a, o, h1, h2, h3, h4, h5, h6⟩ := h; exact ⟨a, o, h1, h2, h3, h4, h5, d a h6⟩
 | bor i => exact h
def mdat : M → Option D
 | .lst ds => some (.lst ds)
 | .dk _ => none
 | .dt _ => none
 | .ob c fs => some (.obj c fs)
 | .dn _ _ _ => none
def cdat : Cell → Option D
 | .no => none
 | .dat d => some d
 | .own m => mdat m
def peek (ρ : En) : Rv → Option D
 | .dat d => some d
 | .new m => mdat m
 | .bor i => match ρ[i]? with
  | some c => cdat c
  | none => none
def grab (ρ : En) : Rv → Option (D × En)
 | .dat d => some (d, ρ)
 | .new m => match mdat m with
  | some d => some (d, ρ)
  | none => none
 | .bor i => match ρ[i]? with
  | some (.dat d) => some (d, ρ)
  | some (.own m) => match mdat m with
   | some d => some (d, ρ.set i (.dat d))
   | none => none
  | _ => none
theorem upd_core {C H : Hp} {a : Addr} {o : HO} (e : Ex C H) (ha : H a = some o) : Ex (upd C a o) H := ⟨fun b u h n => by
 by_cases hb : b = a
 ·subst hb; rw [upd_same] at h; cases h; exact ha
 ·rw [upd_ne hb] at h; exact e.1 b u h n, fun b h => by
 by_cases hb : b = a
 ·subst hb; rw [ha] at h; cases h
 ·rw [upd_ne hb]; exact e.2 b h⟩
theorem Post.froze {K : PySem.W.Frag} {C H : Hp} {σ : Sl} {ρ ρ' : En} {a : Addr} {o : HO} (e : EnvOk K C H σ ρ) (hc : C a = none) (ha : H a = some o) (hl : ρ'.length = ρ.length)
  (hr : ∀ (i : Nat) (c : Cell), ρ'[i]? = some c → (ρ[i]? = some c ∧ ∀ m, c = .own m → σ[i]? ≠ some (some (.ref a))) ∨ (∃ d, c = .dat d ∧ σ[i]? = some (some (.ref a)) ∧ Is K (upd C a o) d (.ref a))) (hA : kf σ ρ a ∨ True) :
  EnvOk K (upd C a o) H σ ρ' := by
 have x : Ex C (upd C a o) := Ex.new hc
 refine ⟨by rw [hl]; exact e.len, upd_core e.ext ha, fun i c h => ?_, fun i j m n b h1 h2 h3 h4 => ?_, e.tab⟩
 ·rcases hr i c h with ⟨h1, h2⟩ | ⟨d, rfl, h1, h2⟩
  ·obtain ⟨v, hv, ok⟩ := e.cell i c h1
   refine ⟨v, hv, ?_⟩
   cases c with
   | no => trivial
   | dat d => obtain ⟨y, hy, z⟩ := ok; exact ⟨y, hy, Is.mono x d y z⟩
   | own m =>
    obtain ⟨p, u, q1, q2, q3, q4⟩ := ok
    refine ⟨p, u, q1, ?_, q3, q4.mono x⟩
    have np : p ≠ a := fun z => h2 m rfl (by rw [hv, q1, z])
    rw [upd_ne np]; exact q2
  ·exact ⟨_, h1, _, rfl, h2⟩
 ·rcases hr i _ h1 with ⟨k1, _⟩ | ⟨d, z, _⟩
  ·rcases hr j _ h2 with ⟨k2, _⟩ | ⟨d, z, _⟩
   ·exact e.inj i j m n b k1 k2 h3 h4
   ·cases z
  ·cases z
theorem grab_ok {K : PySem.W.Frag} {H0 C H : Hp} {σ : Sl} {ρ ρ' : En} {v : V} {r : Rv} {d : D} (e : EnvOk K C H σ ρ) (h : VOk K H0 C H σ ρ v r) (g : grab ρ r = some (d, ρ')) :
  ∃ C', Is K C' d v ∧ EnvOk K C' H σ ρ' ∧ Ex C C' ∧ (∀ a, kf σ ρ' a → kf σ ρ a) ∧ (∀ b, C b = none → C' b ≠ none → H b = none ∨ kf σ ρ b ∨ H0 b = none) := by
 cases r with
 | dat d' => cases g; exact ⟨C, h, e, Ex.refl C, fun _ z => z, fun b h1 h2 => absurd h1 h2⟩
 | new m =>
  obtain ⟨a, o, rfl, h2, h3, h4, h5, h6⟩ := h
  have g' : mdat m = some d ∧ ρ = ρ' := by
   cases q : mdat m with
   | none => simp only [grab, q] at g; cases g
   | some d' => simp only [grab, q] at g; cases g; exact ⟨rfl, rfl⟩
  obtain ⟨g1, rfl⟩ := g'
  refine ⟨upd C a o, ?_, ?_, Ex.new h2, fun _ z => z, fun b k1 k2 => ?_⟩
  ·cases m with
   | lst ds =>
    obtain ⟨xs, rfl, q2⟩ := h4
    cases g1
    exact is_lst upd_same (Iss.mono (Ex.new h2) ds xs q2)
   | dk ds => cases g1
   | dt ds => cases g1
   | dn _ _ _ => cases g1
   | ob c fs =>
    obtain ⟨dx, gs, rfl, q2⟩ := h4
    cases g1
    exact is_obj_iff.mpr ⟨_, dx, gs, rfl, upd_same, Isf.mono (Ex.new h2) fs gs q2⟩
  ·exact Post.froze e h2 h3 rfl (fun i c q => .inl ⟨q, fun m' z s => h5 ⟨i, m', by rw [q, z], s⟩⟩) (.inr trivial)
  ·by_cases hb : b = a
   ·exact .inr (.inr (by rw [hb]; exact h6))
   ·rw [upd_ne hb] at k2; exact absurd k1 k2
 | bor i =>
  obtain ⟨h1, c, h2⟩ := h
  simp only [grab, h2] at g
  obtain ⟨x, hx, ok⟩ := e.cell i c h2
  rw [h1] at hx; cases hx
  cases c with
  | no => cases g
  | dat d' =>
   cases g
   obtain ⟨y, hy, z⟩ := ok
   cases hy
   exact ⟨C, z, e, Ex.refl C, fun _ z => z, fun b h1 h2 => absurd h1 h2⟩
  | own m =>
   obtain ⟨a, o, q1, q2, q3, q4⟩ := ok
   cases q1
   have g' : mdat m = some d ∧ ρ.set i (.dat d) = ρ' := by
    cases q : mdat m with
    | none => simp only [q] at g; cases g
    | some d' => simp only [q] at g; cases g; exact ⟨rfl, rfl⟩
   obtain ⟨g1, rfl⟩ := g'
   have isd : Is K (upd C a o) d (.ref a) := by
    cases m with
    | lst ds =>
     obtain ⟨xs, rfl, q5⟩ := q4
     cases g1
     exact is_lst upd_same (Iss.mono (Ex.new q2) ds xs q5)
    | dk ds => cases g1
    | dt ds => cases g1
    | dn _ _ _ => cases g1
    | ob c fs =>
     obtain ⟨dx, gs, rfl, q5⟩ := q4
     cases g1
     exact is_obj_iff.mpr ⟨_, dx, gs, rfl, upd_same, Isf.mono (Ex.new q2) fs gs q5⟩
   have il : i < ρ.length := (List.getElem?_eq_some_iff.mp h2).1
   refine ⟨upd C a o, isd, ?_, Ex.new q2, fun b ⟨j, m', z1, z2⟩ => ?_, fun b k1 k2 => ?_⟩
   ·refine Post.froze e q2 q3 (by rw [List.length_set]) (fun j c q => ?_) (.inr trivial)
    by_cases hj : i = j
    ·subst hj
     rw [List.getElem?_set_self il] at q; cases q
     exact .inr ⟨d, rfl, h1, isd⟩
    ·rw [List.getElem?_set_ne hj] at q
     exact .inl ⟨q, fun m' z s => hj (e.inj i j m m' a h2 (by rw [q, z]) h1 s)⟩
   ·by_cases hj : i = j
    ·subst hj
     rw [List.getElem?_set_self il] at z1; cases z1
    ·rw [List.getElem?_set_ne hj] at z1
     exact ⟨j, m', z1, z2⟩
   ·by_cases hb : b = a
    ·exact .inr (.inl ⟨i, m, h2, by rw [hb]; exact h1⟩)
    ·rw [upd_ne hb] at k2; exact absurd k1 k2
end PL
namespace PL
open PySem PySem.Spec PyProof.Rows L2
section
variable {X : Cx}
def tTupP (t : TA) : TE := fun σ H Q => t σ H fun xs H1 => xs.length ≤ sizeLine ∧ ∀ p o, H1 p = none → o.dict = none → Q (.ref p) (upd H1 p (.frz o (.tup xs)))
theorem pe_tupP {es : List Expr} {t : TA} {x1 : Nat} {pos : Pos} (h : PA X es t) : PE X (.Tuple es x1 pos) (tTupP t) :=
 ⟨fun pins s σ H Q I hq => wpAny_Tuple_spliced (thn (h.run pos pins s σ H _ I hq) fun us s1 ⟨xs, H1, I1, r, z, q⟩ => ⟨by rw [← r.length]; exact z,
  .ref s1.heap.objs.size, _, I1.laid (t' := s1.toks) (o := .frz { cls := .type "tuple", data := .seq us.toArray } (.tup xs)) (fun b u e => Heap.get?_push_of_some _ e) (Nat.le_refl _) ⟨Heap.get?_push_size _ rfl, z, us, r, IsTup.new _ _⟩, rfl, q _ _ (I1.hok.fresh (Nat.le_refl _)) rfl⟩)⟩
def rCatP (K : PySem.W.Frag) : R2 := fun x y H Q => ∃ a b xs ys, x = .ref a ∧ y = .ref b ∧ SqT K H a xs ∧ SqT K H b ys ∧ xs.length + ys.length ≤ sizeLine ∧
 (xs = [] → Q (.ref b) H) ∧ (xs ≠ [] → ys = [] → Q (.ref a) H) ∧ (xs ≠ [] → ys ≠ [] → ∀ p o, H p = none → o.dict = none → Q (.ref p) (upd H p (.frz o (.tup (xs ++ ys)))))
theorem op_catP : OpR X (binaryOp .Add) (rCatP X.K) := by
 intro pins s σ H x y v u Q I rx ry h
 obtain ⟨a, b, xs, ys, rfl, rfl, ha, hb, hz, q0, q1, q2⟩ := h
 cases rx
 cases ry
 obtain ⟨its, r1, p1, _⟩ := I.tuple ha
 obtain ⟨its2, r2, p2, _⟩ := I.tuple hb
 by_cases hx : xs = []
 ·subst hx
  cases r1
  exact cat_tup0 p1 p2 ⟨.ref b, H, I, rfl, q0 rfl⟩
 ·refine HT.cat_tup p1 p2 (fun z => hx (r1.nil_iff.mp z)) (fun z => ⟨.ref a, H, I, rfl, q1 hx (r2.nil_iff.mp z)⟩) (fun z => ?_) (by rw [← r1.length, ← r2.length]; exact hz)
  exact ⟨.ref s.heap.objs.size, _, I.laid (t' := s.toks) (o := .frz _ (.tup (xs ++ ys))) (fun b ob q => Heap.get?_push_of_some _ q) (Nat.le_refl _) ⟨Heap.get?_push_size _ rfl, by rw [List.length_append]; exact hz, _, r1.append r2, IsTup.new _ _⟩, rfl,
   q2 hx (fun w => z (r2.nil_iff.mpr w)) _ _ (I.hok.fresh (Nat.le_refl _)) rfl⟩
def rSlP (K : PySem.W.Frag) : V → Option Int → Option Int → Hp → VK → Prop := fun x lo hi H Q => ∃ a xs, x = .ref a ∧ SqT K H a xs ∧
 (HT.sIx xs.length 0 lo = 0 ∧ HT.sIx xs.length xs.length hi = xs.length → Q (.ref a) H) ∧ (¬ (HT.sIx xs.length 0 lo = 0 ∧ HT.sIx xs.length xs.length hi = xs.length) → ∀ p o, H p = none → o.dict = none → Q (.ref p) (upd H p (.frz o (.tup (cutV xs lo hi)))))
theorem sl_tupP : SlR X (rSlP X.K) := by
 intro pins s σ H x v vl vu lo hi sl Q I rx hs pl pu h
 obtain ⟨a, xs, rfl, hx, q1, q2⟩ := h
 cases rx
 obtain ⟨its, r, ht, hz⟩ := I.tuple hx
 have hlen : its.toArray.size = xs.length := by rw [List.size_toArray]; exact r.length.symm
 refine ⟨"tuple", _, PyProof.Rows.slot_tuple_getitem.lookup, ht.typeIs, ?_⟩
 by_cases hw : HT.sIx xs.length 0 lo = 0 ∧ HT.sIx xs.length xs.length hi = xs.length
 ·exact getItem_tuple_whole ht hs pl pu (by rw [hlen]; exact hw) ⟨.ref a, H, I, rfl, q1 hw⟩
 ·refine HT.getItem_tuple_cut ht hs pl pu (by rw [hlen]; exact hw) ?_ (by rw [hlen]; exact hz)
  rw [hlen]
  exact ⟨.ref s.heap.objs.size, _, I.laid (t' := s.toks) (o := .frz _ (.tup (cutV xs lo hi))) (fun b ob q => Heap.get?_push_of_some _ q) (Nat.le_refl _)
   ⟨Heap.get?_push_size _ rfl, Nat.le_trans (cutV_length xs lo hi) hz, _, (r.drop (HT.sIx xs.length 0 lo)).take (HT.sIx xs.length xs.length hi - HT.sIx xs.length 0 lo), IsTup.new _ _⟩, rfl, q2 hw _ _ (I.hok.fresh (Nat.le_refl _)) rfl⟩
def rTupP (K : PySem.W.Frag) : List V → Hp → VK → Prop := fun xs H Q => ∃ p ys, xs = [.ref p] ∧ ((SqL K H p ys ∧ ∀ l o, H l = none → o.dict = none → Q (.ref l) (upd H l (.frz o (.tup ys)))) ∨ (SqT K H p ys ∧ Q (.ref p) H))
theorem zb8 : CallR X (.type "tuple") (rTupP X.K) := by
 intro pins s σ H xs us Q I r h
 obtain ⟨p, ys, rfl, h⟩ := h
 obtain ⟨u, rfl, rx⟩ := vals1 r
 cases rx
 rcases h with ⟨hq, q⟩ | ⟨hq, q⟩
 ·obtain ⟨its, r', pl, hz⟩ := I.list hq
  have hlen := r'.length
  refine call_tuple_list pl.isList (fun h' kp => ?_) (by simp only [List.size_toArray] <;> omega)
  have I1 : Inv X pins σ H { s with heap := h' } := I.kept (t' := s.toks) kp
  exact ⟨.ref h'.objs.size, _, I1.laid (t' := s.toks) (o := .frz { cls := .type "tuple", data := .seq its.toArray } (.tup ys)) (fun b o e => Heap.get?_push_of_some _ e) (Nat.le_refl _) ⟨Heap.get?_push_size _ rfl, hz, its, r', IsTup.new _ _⟩, rfl, q _ _ (I1.hok.fresh (Nat.le_refl _)) rfl⟩
 ·obtain ⟨its, r', pl, hz⟩ := I.tuple hq
  exact call_tuple_same pl ⟨.ref p, H, I, rfl, q⟩
end
end PL
namespace PL
open PySem L2
abbrev P (α : Type) := En → Option (Out α)
def yg {α β : Type} (o : Option (Out α)) (k : α → P β) : Option (Out β) := match o with
 | none => none
 | some (.ex e r) => some (.ex e r)
 | some (.ok a r) => k a r
def P.bind {α β : Type} (f : P α) (k : α → P β) : P β := fun ρ => yg (f ρ) k
def P.ret {α : Type} (a : α) : P α := fun ρ => some (.ok a ρ)
def P.fail {α : Type} : P α := fun _ => none
def P.of {α : Type} (o : Option α) : P α := fun ρ => match o with
 | some a => some (.ok a ρ)
 | none => none
def ExnOk (K : PySem.W.Frag) (C : Hp) (e : Exn) (d : Option Addr) : Prop := match e.fs with
 | none => d = none
 | some fs => ∃ a gs, d = some a ∧ C a = some (.xd gs) ∧ Isf K C fs gs
abbrev Rel (α' α : Type) := Hp → Hp → Sl → En → α' → α → Prop
abbrev Rd1 (α' : Type) := Hp → (α' → Hp → Prop) → Prop
def At {α' α : Type} (K : PySem.W.Frag) (W : WX) (R : Rel α' α) (σ : Sl) (C H : Hp) (ρ : En) (t : Rd1 α') (o : Option (Out α)) : Prop :=
 ∀ out Q, o = some out → (∀ a ρ', out = .ok a ρ' → ∀ v C' H', Post K σ C H ρ C' H' ρ' → R C' H' σ ρ' v a → Q v H') →
  (∀ e ρ', out = .ex e ρ' → ∀ d C' H', Post K σ C H ρ C' H' ρ' → ExnOk K C' e d → W (.ref e.c) d σ H') → t H Q
def Sd {α' α : Type} (K : PySem.W.Frag) (W : WX) (R : Hp → Rel α' α) (t : Sl → Rd1 α') (f : P α) : Prop :=
 ∀ σ C H ρ, EnvOk K C H σ ρ → At K W (R H) σ C H ρ (t σ) (f ρ)
section
variable {K : PySem.W.Frag} {W : WX} {σ : Sl} {C H : Hp} {ρ : En}
theorem At.bind {α' α β' β : Type} {Ra : Rel α' α} {Rb : Rel β' β} {ta : Rd1 α'} {tk : α' → Rd1 β'} {oa : Option (Out α)} {k : α → P β}
  (ha : At K W Ra σ C H ρ ta oa) (hk : ∀ a ρ1 v C1 H1, Post K σ C H ρ C1 H1 ρ1 → Ra C1 H1 σ ρ1 v a → At K W Rb σ C1 H1 ρ1 (tk v) (k a ρ1)) :
  At K W Rb σ C H ρ (fun H Q => ta H fun v H1 => tk v H1 Q) (yg oa k) := by
 intro out Q ho hok hex
 cases oa with
 | none => cases ho
 | some oa =>
  refine ha oa _ rfl (fun a ρ1 e v C1 H1 p r => ?_) (fun e ρ1 ee d C1 H1 p r => ?_)
  ·subst e
   refine hk a ρ1 v C1 H1 p r out Q ho (fun b ρ2 e2 w C2 H2 p2 r2 => hok b ρ2 e2 w C2 H2 (p.trans p2) r2) (fun e ρ2 e2 d C2 H2 p2 r2 => hex e ρ2 e2 d C2 H2 (p.trans p2) r2)
  ·subst ee
   have ho' : (Out.ex e ρ1 : Out β) = out := Option.some.inj ho
   exact hex e ρ1 ho'.symm d C1 H1 p r
theorem At.ret {α' α : Type} {R : Rel α' α} {v : α'} {a : α} (e : EnvOk K C H σ ρ) (r : R C H σ ρ v a) : At K W R σ C H ρ (fun H Q => Q v H) (some (.ok a ρ)) := by
 intro out Q ho hok hex
 cases ho
 exact hok a ρ rfl v C H (Post.refl e) r
theorem At.nil {α' α : Type} {R : Rel α' α} {t : Rd1 α'} : At K W R σ C H ρ t Option.none := by
 intro out Q ho
 cases ho
theorem At.imp {α' α : Type} {R : Rel α' α} {t t' : Rd1 α'} {o : Option (Out α)} (h : At K W R σ C H ρ t o) (i : ∀ Q, t H Q → t' H Q) : At K W R σ C H ρ t' o :=
 fun out Q ho hok hex => i Q (h out Q ho hok hex)
theorem At.of {α' α : Type} {R : Rel α' α} {t : Rd1 α'} {a : α} {ρ' : En} (h : ∀ Q : α' → Hp → Prop, (∀ v C' H', Post K σ C H ρ C' H' ρ' → R C' H' σ ρ' v a → Q v H') → t H Q) : At K W R σ C H ρ t (some (.ok a ρ')) := by
 intro out Q ho hok hex
 cases ho
 exact h Q (hok a ρ' rfl)
def VRel (K : PySem.W.Frag) (H0 : Hp) : Rel V Rv := fun C H σ ρ v r => VOk K H0 C H σ ρ v r
def DRel (K : PySem.W.Frag) (_ : Hp) : Rel V D := fun C _ _ _ v d => Is K C d v
def xah (K : PySem.W.Frag) (_ : Hp) : Rel (List V) (List D) := fun C _ _ _ vs ds => Iss K C ds vs
def BRel (_ : Hp) : Rel Bool Bool := fun _ _ _ _ v b => v = b
def IRel (_ : Hp) : Rel (Option Int) (Option Int) := fun _ _ _ _ v b => v = b
def Pk (K : PySem.W.Frag) (C H : Hp) : D → V → Prop
 | .lst ds, v => ∃ a xs, v = .ref a ∧ H a = some (.lst xs) ∧ Iss K C ds xs
 | .obj c fs, v => ∃ a dx gs, v = .ref a ∧ H a = some (.ins c dx gs) ∧ Isf K C fs gs
 | d, v => Is K C d v
theorem Pk.of {d : D} {v : V} (e : Ex C H) (h : Is K C d v) : Pk K C H d v := by
 cases d with
 | lst ds =>
  obtain ⟨a, xs, h1, h2, h3⟩ := is_lst_iff.mp h
  exact ⟨a, xs, h1, e.1 _ _ h2 vw, h3⟩
 | s x => exact h
 | tup ds => exact h
 | obj c fs =>
  obtain ⟨a, dx, gs, h1, h2, h3⟩ := is_obj_iff.mp h
  exact ⟨a, dx, gs, h1, e.1 _ _ h2 vby, h3⟩
 | ro ds => exact h
 | lam f c zs ks => exact h
 | dic kvs => exact h
 | exc c b fs => exact h
 | lab a d => exact h
theorem mis_pk {m : M} {d : D} {a : Addr} {o : HO} (e : mdat m = some d) (h : MIs K C m o) (ha : H a = some o) : Pk K C H d (.ref a) := by
 cases m with
 | lst ds =>
  obtain ⟨xs, h1, h2⟩ := h
  cases e
  subst h1
  exact ⟨a, xs, rfl, ha, h2⟩
 | dk ds => cases e
 | dt ds => cases e
 | dn _ _ _ => cases e
 | ob c fs =>
  obtain ⟨dx, gs, h1, h2⟩ := h
  cases e
  subst h1
  exact ⟨a, dx, gs, rfl, ha, h2⟩
theorem xm {H0 : Hp} {v : V} {r : Rv} {d : D} (e : EnvOk K C H σ ρ) (h : VOk K H0 C H σ ρ v r) (p : peek ρ r = some d) : Pk K C H d v := by
 cases r with
 | dat d' => cases p; exact Pk.of e.ext h
 | new m =>
  obtain ⟨a, o, rfl, h2, h3, h4, h5, h6⟩ := h
  exact mis_pk p h4 h3
 | bor i =>
  obtain ⟨h1, c, h2⟩ := h
  have p' : cdat c = some d := by
   have q : peek ρ (.bor i) = cdat c := by simp only [peek, h2]
   rw [← q]; exact p
  obtain ⟨x, hx, ok⟩ := e.cell i c h2
  rw [h1] at hx; cases hx
  cases c with
  | no => cases p'
  | dat d' => cases p'; obtain ⟨y, hy, z⟩ := ok; cases hy; exact Pk.of e.ext z
  | own m =>
   obtain ⟨q, o, h3, h4, h5, h6⟩ := ok
   cases h3
   exact mis_pk p' h6 h5
theorem EnvOk.step {C' H' : Hp} (e : EnvOk K C H σ ρ) (s : Step C H C' H' (fun _ => False)) : EnvOk K C' H' σ ρ := by
 refine ⟨e.len, s.ext, fun i c h => ?_, e.inj, fun P h => s.tabs P (e.tab P h)⟩
 obtain ⟨v, hv, ok⟩ := e.cell i c h
 refine ⟨v, hv, ?_⟩
 cases c with
 | no => trivial
 | dat d => obtain ⟨y, hy, z⟩ := ok; exact ⟨y, hy, Is.mono s.core d y z⟩
 | own m =>
  obtain ⟨p, o, q1, q2, q3, q4⟩ := ok
  refine ⟨p, o, q1, ?_, s.keep p o q3 q4.nx.1 (fun z => z), q4.mono s.core⟩
  cases q : C' p with
  | none => rfl
  | some u =>
   rcases s.new p q2 (by rw [q]; exact fun z => by cases z) with z | z
   ·rw [z] at q3; cases q3
   ·exact z.elim
theorem Post.of_step {C' H' : Hp} (e : EnvOk K C H σ ρ) (s : Step C H C' H' (fun _ => False)) : Post K σ C H ρ C' H' ρ :=
 ⟨s.weak fun _ z => z.elim, fun _ h => h, e.step s⟩
theorem Step.newD {p : Addr} {o : HO} (e : Ex C H) (h : H p = none) : Step C H (upd C p o) (upd H p o) (fun _ => False) := by
 have hc : C p = none := e.none h
 refine ⟨Ex.new hc, ⟨fun b u q n => ?_, fun b q => ?_⟩, fun b u q _ _ => ?_, fun b q1 q2 => ?_, fun b q => ?_, fun P q => qav q h⟩
 ·by_cases hb : b = p
  ·subst hb; rw [upd_same] at q ⊢; exact q
  ·rw [upd_ne hb] at q ⊢; exact e.1 b u q n
 ·by_cases hb : b = p
  ·subst hb; rw [upd_same] at q; cases q
  ·rw [upd_ne hb] at q ⊢; exact e.2 b q
 ·rw [upd_ne (ne_of_none q h)]; exact q
 ·by_cases hb : b = p
  ·subst hb; exact .inl h
  ·rw [upd_ne hb] at q2; exact absurd q1 q2
 ·by_cases hb : b = p
  ·subst hb; rw [upd_same] at q; cases q
  ·rw [upd_ne hb] at q; exact q
theorem Step.newM {p : Addr} {o : HO} (e : Ex C H) (h : H p = none) : Step C H C (upd H p o) (fun _ => False) := by
 refine ⟨Ex.refl C, e.trans (Ex.new h), fun b u q _ _ => ?_, fun b q1 q2 => absurd q1 q2, fun b q => ?_, fun P q => qav q h⟩
 ·rw [upd_ne (ne_of_none q h)]; exact q
 ·by_cases hb : b = p
  ·subst hb; exact h
  ·rw [upd_ne hb] at q; exact q
def RvOk (K : PySem.W.Frag) (C H0 C' H' : Hp) (v : V) : Rv → Prop
 | .dat d => Is K C' d v
 | .new m => ∃ p o, v = .ref p ∧ H0 p = none ∧ C' p = none ∧ H' p = some o ∧ MIs K C' m o
 | .bor _ => False
theorem RvOk.vok {H0 C' H' : Hp} {v : V} {r : Rv} (e : EnvOk K C H σ ρ) (h : RvOk K C H C' H' v r) (hd : ∀ b, H b = none → H0 b = none) : VOk K H0 C' H' σ ρ v r := by
 cases r with
 | dat d => exact h
 | new m =>
  obtain ⟨p, o, h1, h2, h3, h4, h5⟩ := h
  refine ⟨p, o, h1, h3, h4, h5, fun ⟨i, m', q1, q2⟩ => ?_, hd p h2⟩
  obtain ⟨v, hv, b, o', r1, r2, r3, _⟩ := e.cell i _ q1
  rw [q2] at hv; cases hv; cases r1
  rw [h2] at r3; cases r3
 | bor i => exact h.elim
def Giv (K : PySem.W.Frag) (C H : Hp) (r : Rv) (Q : VK) : Prop := ∀ v C' H', Step C H C' H' (fun _ => False) → RvOk K C H C' H' v r → Q v H'
theorem Giv.d {x : V} {Q : VK} (e : Ex C H) (g : Giv K C H (.dat (.s x)) Q) : Q x H := g x C H (Step.refl e) (show Is K C (.s x) x from is_s)
theorem Giv.same {d : D} {v : V} {Q : VK} (e : Ex C H) (g : Giv K C H (.dat d) Q) (h : Is K C d v) : Q v H := g v C H (Step.refl e) h
theorem Giv.lst {ds : List D} {xs : List V} {Q : VK} (e : Ex C H) (g : Giv K C H (.new (.lst ds)) Q) (h : Iss K C ds xs) {p : Addr} (hp : H p = none) : Q (.ref p) (upd H p (.lst xs)) :=
 g _ C _ (Step.newM e hp) ⟨p, _, rfl, hp, e.none hp, upd_same, xs, rfl, h⟩
theorem Giv.tup {ds : List D} {xs : List V} {Q : VK} (e : Ex C H) (g : Giv K C H (.dat (.tup ds)) Q) (h : Iss K C ds xs) {p : Addr} {o : Obj} (hp : H p = none) (hd : o.dict = none) : Q (.ref p) (upd H p (.frz o (.tup xs))) :=
 g _ _ _ (Step.newD e hp) (vbi (.of upd_same hd) (Iss.mono (Ex.new (e.none hp)) ds xs h))
def R2Ok (K : PySem.W.Frag) (r : R2) (op : D → D → Option Rv) : Prop :=
 ∀ C H, Ex C H → ∀ dx dy x y rv Q, op dx dy = some rv → Pk K C H dx x → Pk K C H dy y → Giv K C H rv Q → r x y H Q
def R1Ok (K : PySem.W.Frag) (r : V → Hp → VK → Prop) (op : D → Option Rv) : Prop :=
 ∀ C H, Ex C H → ∀ dx x rv Q, op dx = some rv → Pk K C H dx x → Giv K C H rv Q → r x H Q
inductive Pks (K : PySem.W.Frag) (C H : Hp) : List D → List V → Prop where
 | nil : Pks K C H [] []
 | cons {d : D} {v : V} {ds : List D} {vs : List V} (h : Pk K C H d v) (t : Pks K C H ds vs) : Pks K C H (d :: ds) (v :: vs)
def RCOk (K : PySem.W.Frag) (r : List V → Hp → VK → Prop) (op : List D → Option Rv) : Prop :=
 ∀ C H, Ex C H → ∀ ds vs rv Q, op ds = some rv → Pks K C H ds vs → Giv K C H rv Q → r vs H Q
theorem At.giv {H0 : Hp} {r : Rd1 V} {rv : Rv} (e : EnvOk K C H σ ρ) (hd : ∀ b, H b = none → H0 b = none) (h : ∀ Q, Giv K C H rv Q → r H Q) : At K W (VRel K H0) σ C H ρ r (some (.ok rv ρ)) :=
 At.of fun Q hq => h Q fun v C' H' s k => hq v C' H' (Post.of_step e s) (k.vok e hd)
end
def fVar (i : Nat) : P Rv := fun ρ => match ρ[i]? with
 | some (.dat d) => some (.ok (.dat d) ρ)
 | some (.own _) => some (.ok (.bor i) ρ)
 | _ => none
def fC (d : D) : P Rv := fun ρ => some (.ok (.dat d) ρ)
def pk1 (r : Rv) (k : D → P Rv) : P Rv := fun ρ => match peek ρ r with
 | some d => k d ρ
 | none => none
def fOp (op : D → D → Option Rv) (fa fb : P Rv) : P Rv := fa.bind fun ra => fb.bind fun rb => pk1 ra fun da => pk1 rb fun db => P.of (op da db)
def fUn (op : D → Option Rv) (fa : P Rv) : P Rv := fa.bind fun ra => pk1 ra fun da => P.of (op da)
section
variable {K : PySem.W.Frag} {W : WX} {σ : Sl} {C H : Hp} {ρ : En}
theorem At.pk1 {α' : Type} {R : Rel α' Rv} {t : Rd1 α'} {r : Rv} {k : D → P Rv} (h : ∀ d, peek ρ r = some d → At K W R σ C H ρ t (k d ρ)) : At K W R σ C H ρ t (pk1 r k ρ) := by
 unfold PL.pk1
 cases q : peek ρ r with
 | none => exact At.nil
 | some d => exact h d q
theorem At.pof {α' α : Type} {R : Rel α' α} {t : Rd1 α'} {o : Option α} (h : ∀ a, o = some a → At K W R σ C H ρ t (some (.ok a ρ))) : At K W R σ C H ρ t (P.of o ρ) := by
 unfold P.of
 cases q : o with
 | none => exact At.nil
 | some a => exact h a q
end
section
variable {K : PySem.W.Frag} {W : WX} {ta tb : TE} {fa fb : P Rv}
theorem sd_var {i : Nat} : Sd K W (VRel K) (tVar i) (fVar i) := by
 intro σ C H ρ e
 unfold fVar
 cases q : ρ[i]? with
 | none => exact At.nil
 | some c =>
  obtain ⟨v, hv, ok⟩ := e.cell i c q
  cases c with
  | no => exact At.nil
  | dat d =>
   obtain ⟨x, rfl, z⟩ := ok
   exact At.imp (At.ret (R := VRel K H) (v := x) e z) fun Q h => ⟨x, hv, h⟩
  | own m =>
   obtain ⟨p, o, rfl, _⟩ := ok
   exact At.imp (At.ret (R := VRel K H) (v := .ref p) e ⟨hv, _, q⟩) fun Q h => ⟨.ref p, hv, h⟩
theorem sd_c {x : V} : Sd K W (VRel K) (tC x) (fC (.s x)) := fun σ C H ρ e => At.ret (R := VRel K H) e (show Is K C (.s x) x from is_s)
theorem sd_op {r : R2} {op : D → D → Option Rv} (hr : R2Ok K r op) (ha : Sd K W (VRel K) ta fa) (hb : Sd K W (VRel K) tb fb) : Sd K W (VRel K) (tOp r ta tb) (fOp op fa fb) := by
 intro σ C H ρ e
 show At K W (VRel K H) σ C H ρ (fun H Q => ta σ H fun x H1 => tb σ H1 fun y H2 => r x y H2 Q) (yg (fa ρ) fun ra => fb.bind fun rb => pk1 ra fun da => pk1 rb fun db => P.of (op da db))
 refine At.bind (tk := fun x H1 Q => tb σ H1 fun y H2 => r x y H2 Q) (ha σ C H ρ e) fun ra ρ1 x C1 H1 p1 r1 => ?_
 refine At.bind (tk := fun y H2 Q => r x y H2 Q) (hb σ C1 H1 ρ1 p1.env) fun rb ρ2 y C2 H2 p2 r2 => ?_
 have r1' := VOk.mono r1 p1.env p2
 refine At.pk1 fun da q1 => At.pk1 fun db q2 => At.pof fun rv q3 => ?_
 exact At.giv p2.env (fun b h => p1.step.dom b (p2.step.dom b h)) fun Q g => hr C2 H2 p2.env.ext da db x y rv Q q3 (xm p2.env r1' q1) (xm p2.env r2 q2) g
theorem sd_un {r : V → Hp → VK → Prop} {op : D → Option Rv} (hr : R1Ok K r op) (ha : Sd K W (VRel K) ta fa) : Sd K W (VRel K) (tUn r ta) (fUn op fa) := by
 intro σ C H ρ e
 show At K W (VRel K H) σ C H ρ (fun H Q => ta σ H fun x H1 => r x H1 Q) (yg (fa ρ) fun ra => pk1 ra fun da => P.of (op da))
 refine At.bind (tk := fun x H1 Q => r x H1 Q) (ha σ C H ρ e) fun ra ρ1 x C1 H1 p1 r1 => ?_
 refine At.pk1 fun da q1 => At.pof fun rv q3 => ?_
 exact At.giv p1.env (fun b h => p1.step.dom b h) fun Q g => hr C1 H1 p1.env.ext da x rv Q q3 (xm p1.env r1 q1) g
end
def fNil : P (List Rv) := P.ret []
def yd (fa : P Rv) (fr : P (List Rv)) : P (List Rv) := fa.bind fun ra => fr.bind fun rs => P.ret (ra :: rs)
def q9 (ρ : En) : List Rv → Option (List D)
 | [] => some []
 | r :: rs => match peek ρ r, q9 ρ rs with
  | some d, some ds => some (d :: ds)
  | _, _ => none
def pks (rs : List Rv) {α : Type} (k : List D → P α) : P α := fun ρ => match q9 ρ rs with
 | some ds => k ds ρ
 | none => none
def vNil : P (List D) := P.ret []
def grab1 (r : Rv) : P D := fun ρ => match grab ρ r with
 | some (d, ρ') => some (.ok d ρ')
 | none => none
def z9 (fa : P Rv) : P D := fa.bind grab1
def ya (fa : P Rv) (fr : P (List D)) : P (List D) := (z9 fa).bind fun d => fr.bind fun ds => P.ret (d :: ds)
def fTup (g : P (List D)) : P Rv := g.bind fun ds => P.of (if ds.length ≤ sizeLine then some (.dat (.tup ds)) else none)
def fLst (g : P (List D)) : P Rv := g.bind fun ds => P.of (if ds.length ≤ sizeLine then some (.new (.lst ds)) else none)
def fCB (op : List D → Option Rv) (fs : P (List Rv)) : P Rv := fs.bind fun rs => pks rs fun ds => P.of (op ds)
inductive VOks (K : PySem.W.Frag) (H0 C H : Hp) (σ : Sl) (ρ : En) : List V → List Rv → Prop where
 | nil : VOks K H0 C H σ ρ [] []
 | cons {v : V} {r : Rv} {vs : List V} {rs : List Rv} (h : VOk K H0 C H σ ρ v r) (t : VOks K H0 C H σ ρ vs rs) : VOks K H0 C H σ ρ (v :: vs) (r :: rs)
theorem VOks.mono {K : PySem.W.Frag} {σ : Sl} {H0 C H C' H' : Hp} {ρ ρ' : En} {vs : List V} {rs : List Rv} (h : VOks K H0 C H σ ρ vs rs) (e : EnvOk K C H σ ρ) (p : Post K σ C H ρ C' H' ρ') : VOks K H0 C' H' σ ρ' vs rs := by
 induction h with
 | nil => exact .nil
 | cons h t ih => exact .cons (h.mono e p) ih
theorem VOks.back {K : PySem.W.Frag} {σ : Sl} {H0 H1 C H : Hp} {ρ : En} {vs : List V} {rs : List Rv} (h : VOks K H1 C H σ ρ vs rs) (d : ∀ b, H1 b = none → H0 b = none) : VOks K H0 C H σ ρ vs rs := by
 induction h with
 | nil => exact .nil
 | cons h t ih => exact .cons (h.back d) ih
theorem peeks_pk {K : PySem.W.Frag} {σ : Sl} {H0 C H : Hp} {ρ : En} {vs : List V} {rs : List Rv} (e : EnvOk K C H σ ρ) (h : VOks K H0 C H σ ρ vs rs) : ∀ {ds : List D}, q9 ρ rs = some ds → Pks K C H ds vs := by
 induction h with
 | nil => intro ds q; cases q; exact .nil
 | @cons v r vs rs h t ih =>
  intro ds q
  cases q1 : peek ρ r with
  | none => simp only [q9, q1] at q; cases q
  | some d =>
   cases q2 : q9 ρ rs with
   | none => simp only [q9, q1, q2] at q; cases q
   | some ds' =>
    simp only [q9, q1, q2] at q
    cases q
    exact .cons (xm e h q1) (ih q2)
theorem At.pks {K : PySem.W.Frag} {W : WX} {σ : Sl} {C H : Hp} {ρ : En} {α' α : Type} {R : Rel α' α} {t : Rd1 α'} {rs : List Rv} {k : List D → P α} (h : ∀ ds, q9 ρ rs = some ds → At K W R σ C H ρ t (k ds ρ)) : At K W R σ C H ρ t (pks rs k ρ) := by
 unfold PL.pks
 cases q : q9 ρ rs with
 | none => exact At.nil
 | some d => exact h d q
def kbv (K : PySem.W.Frag) (H0 : Hp) : Rel (List V) (List Rv) := fun C H σ ρ vs rs => VOks K H0 C H σ ρ vs rs
section
variable {K : PySem.W.Frag} {W : WX} {ta : TE} {tr : TA} {fa : P Rv} {fr : P (List Rv)} {gr : P (List D)}
theorem we {α : Type} {c : Prop} [Decidable c] {a b : α} (h : (if c then some a else none) = some b) : c ∧ a = b := by
 by_cases hc : c
 ·rw [if_pos hc] at h; exact ⟨hc, Option.some.inj h⟩
 ·rw [if_neg hc] at h; cases h
theorem sd_nil : Sd K W (kbv K) tNil fNil := fun σ C H ρ e => At.ret (R := kbv K H) e VOks.nil
theorem sd_cons (ha : Sd K W (VRel K) ta fa) (hr : Sd K W (kbv K) tr fr) : Sd K W (kbv K) (tCons ta tr) (yd fa fr) := by
 intro σ C H ρ e
 show At K W (kbv K H) σ C H ρ (fun H Q => ta σ H fun x H1 => tr σ H1 fun xs H2 => Q (x :: xs) H2) (yg (fa ρ) fun ra => fr.bind fun rs => P.ret (ra :: rs))
 refine At.bind (tk := fun x H1 Q => tr σ H1 fun xs H2 => Q (x :: xs) H2) (ha σ C H ρ e) fun ra ρ1 x C1 H1 p1 r1 => ?_
 refine At.bind (tk := fun xs H2 Q => Q (x :: xs) H2) (hr σ C1 H1 ρ1 p1.env) fun rs ρ2 vs C2 H2 p2 r2 => ?_
 exact At.ret (R := kbv K H) (v := x :: vs) p2.env (VOks.cons (VOk.mono r1 p1.env p2) (r2.back p1.step.dom))
theorem xaa (ha : Sd K W (VRel K) ta fa) : Sd K W (DRel K) ta (z9 fa) := by
 intro σ C H ρ e out Q ho hok hex
 unfold z9 P.bind at ho
 cases q : fa ρ with
 | none => rw [q] at ho; cases ho
 | some oa =>
  rw [q] at ho
  refine ha σ C H ρ e oa Q q (fun ra ρ1 e1 v C1 H1 p1 r1 => ?_) (fun x ρ1 e1 d C1 H1 p1 r1 => ?_)
  ·subst e1
   have ho : grab1 ra ρ1 = some out := ho
   unfold grab1 at ho
   cases q2 : grab ρ1 ra with
   | none => rw [q2] at ho; cases ho
   | some z =>
    obtain ⟨d, ρ2⟩ := z
    rw [q2] at ho
    cases ho
    obtain ⟨C2, h1, h2, h3, h4, h5⟩ := grab_ok p1.env r1 q2
    refine hok d ρ2 rfl v C2 H1 ⟨⟨p1.step.core.trans h3, h2.ext, p1.step.keep, fun b k1 k2 => ?_, p1.step.dom, p1.step.tabs⟩, fun a z => p1.own a (h4 a z), h2⟩ h1
    cases q3 : C1 b with
    | some o => exact p1.step.new b k1 (by rw [q3]; exact fun z => by cases z)
    | none =>
     rcases h5 b q3 k2 with z | z | z
     ·exact .inl (p1.step.dom b z)
     ·exact .inr (p1.own b z)
     ·exact .inl z
  ·subst e1
   cases ho
   exact hex x ρ1 rfl d C1 H1 p1 r1
theorem sg_nil : Sd K W (xah K) tNil vNil := fun σ C H ρ e => At.ret (R := xah K H) e jg
theorem yak (ha : Sd K W (VRel K) ta fa) (hr : Sd K W (xah K) tr gr) : Sd K W (xah K) (tCons ta tr) (ya fa gr) := by
 intro σ C H ρ e
 show At K W (xah K H) σ C H ρ (fun H Q => ta σ H fun x H1 => tr σ H1 fun xs H2 => Q (x :: xs) H2) (yg (z9 fa ρ) fun d => gr.bind fun ds => P.ret (d :: ds))
 refine At.bind (tk := fun x H1 Q => tr σ H1 fun xs H2 => Q (x :: xs) H2) (xaa ha σ C H ρ e) fun d ρ1 x C1 H1 p1 r1 => ?_
 refine At.bind (tk := fun xs H2 Q => Q (x :: xs) H2) (hr σ C1 H1 ρ1 p1.env) fun ds ρ2 vs C2 H2 p2 r2 => ?_
 exact At.ret (R := xah K H) (v := x :: vs) p2.env (ze (Is.mono p2.step.core d x r1) r2)
theorem sd_tup {tg : TA} {g : P (List D)} (hg : Sd K W (xah K) tg g) : Sd K W (VRel K) (tTupP tg) (fTup g) := by
 intro σ C H ρ e
 show At K W (VRel K H) σ C H ρ (fun H Q => tg σ H fun xs H1 => xs.length ≤ sizeLine ∧ ∀ p o, H1 p = none → o.dict = none → Q (.ref p) (upd H1 p (.frz o (.tup xs)))) (yg (g ρ) fun ds => P.of (if ds.length ≤ sizeLine then some (.dat (.tup ds)) else none))
 refine At.bind (tk := fun (xs : List V) (H1 : Hp) (Q : VK) => xs.length ≤ sizeLine ∧ ∀ p o, H1 p = none → o.dict = none → Q (.ref p) (upd H1 p (.frz o (.tup xs)))) (hg σ C H ρ e) fun ds ρ1 xs C1 H1 p1 r1 => ?_
 refine At.pof fun rv q => ?_
 obtain ⟨hl, rfl⟩ := we q
 exact At.giv p1.env p1.step.dom fun Q g => ⟨by rw [r1.length]; exact hl, fun p o hp hd => g.tup p1.env.ext r1 hp hd⟩
theorem sd_lst {tg : TA} {g : P (List D)} (hg : Sd K W (xah K) tg g) : Sd K W (VRel K) (tLst tg) (fLst g) := by
 intro σ C H ρ e
 show At K W (VRel K H) σ C H ρ (fun H Q => tg σ H fun xs H1 => xs.length ≤ sizeLine ∧ ∀ p, H1 p = none → Q (.ref p) (upd H1 p (.lst xs))) (yg (g ρ) fun ds => P.of (if ds.length ≤ sizeLine then some (.new (.lst ds)) else none))
 refine At.bind (tk := fun (xs : List V) (H1 : Hp) (Q : VK) => xs.length ≤ sizeLine ∧ ∀ p, H1 p = none → Q (.ref p) (upd H1 p (.lst xs))) (hg σ C H ρ e) fun ds ρ1 xs C1 H1 p1 r1 => ?_
 refine At.pof fun rv q => ?_
 obtain ⟨hl, rfl⟩ := we q
 exact At.giv p1.env p1.step.dom fun Q g => ⟨by rw [r1.length]; exact hl, fun p hp => g.lst p1.env.ext r1 hp⟩
theorem sd_cb {r : List V → Hp → VK → Prop} {op : List D → Option Rv} (hr : RCOk K r op) {t : TA} {fs : P (List Rv)} (hs : Sd K W (kbv K) t fs) : Sd K W (VRel K) (tCB r t) (fCB op fs) := by
 intro σ C H ρ e
 show At K W (VRel K H) σ C H ρ (fun H Q => t σ H fun vs H1 => r vs H1 Q) (yg (fs ρ) fun rs => pks rs fun ds => P.of (op ds))
 refine At.bind (tk := fun vs H1 Q => r vs H1 Q) (hs σ C H ρ e) fun rs ρ1 vs C1 H1 p1 r1 => ?_
 refine At.pks fun ds q1 => At.pof fun rv q3 => ?_
 exact At.giv p1.env p1.step.dom fun Q g => hr C1 H1 p1.env.ext ds vs rv Q q3 (peeks_pk p1.env r1 q1) g
end
end PL
namespace PL
open PySem L2
abbrev rvI (i : Int) : Rv := .dat (.s (.int i))
abbrev rvB (b : Bool) : Rv := .dat (.s (.bl b))
abbrev rvS (x : Str) : Rv := .dat (.s (.str x))
section
variable {K : PySem.W.Frag} {C H : Hp}
theorem pk_s {x v : V} : Pk K C H (.s x) v ↔ v = x := show Is K C (.s x) v ↔ v = x from is_s_iff
theorem wax {ds : List D} {v : V} (e : Ex C H) : Pk K C H (.tup ds) v → ∃ a xs, v = .ref a ∧ SqT K H a xs ∧ Iss K C ds xs := fun h => by
 obtain ⟨a, xs, h1, h2, h3⟩ := y5 h
 exact ⟨a, xs, h1, ex_t e h2, h3⟩
theorem pk_ro {ds : List D} {v : V} (e : Ex C H) : Pk K C H (.ro ds) v → ∃ a xs, v = .ref a ∧ SqL K H a xs ∧ Iss K C ds xs := fun h => by
 obtain ⟨a, xs, h1, h2, h3⟩ := is_ro_iff.mp h
 exact ⟨a, xs, h1, ex_l e h2, h3⟩
theorem pk_obj {c : Addr} {fs : List (Str × D)} {v : V} (e : Ex C H) : Pk K C H (.obj c fs) v → ∃ a dx gs, v = .ref a ∧ H a = some (.ins c dx gs) ∧ Isf K C fs gs := fun h => h
def addD : D → D → Option Rv
 | .s (.int i), .s (.int j) => some (rvI (i + j))
 | .s (.str a), .s (.str b) => if a.length + b.length ≤ sizeLine then some (rvS (a ++ b)) else none
 | .lst a, .lst b => if a.length + b.length ≤ sizeLine then some (.new (.lst (a ++ b))) else none
 | .tup a, .tup b => if a.length + b.length ≤ sizeLine then some (.dat (.tup (a ++ b))) else none
 | _, _ => none
def rAddX (K : PySem.W.Frag) : R2 := fun x y H Q => rI0 (fun i j => .int (i + j)) x y H Q ∨ (∃ i j, x = .str i ∧ y = .str j ∧ i.length + j.length ≤ sizeLine ∧ Q (.str (i ++ j)) H) ∨ rCat x y H Q ∨ rCatP K x y H Q
theorem op_addX {X : Cx} : OpR X (binaryOp .Add) (rAddX X.K) := op_add.or (op_add_str.or (op_cat.or op_catP))
theorem ok_add : R2Ok K (rAddX K) addD := by
 intro C H e dx dy x y rv Q h hx hy g
 unfold addD at h
 split at h
 ·cases pk_s.mp hx; cases pk_s.mp hy; cases h
  exact .inl ⟨_, _, rfl, rfl, g.d e⟩
 ·cases pk_s.mp hx; cases pk_s.mp hy
  obtain ⟨h1, rfl⟩ := we h
  exact .inr (.inl ⟨_, _, rfl, rfl, h1, g.d e⟩)
 ·obtain ⟨a, xs, rfl, h1, h2⟩ := hx
  obtain ⟨b, ys, rfl, h3, h4⟩ := hy
  obtain ⟨h5, rfl⟩ := we h
  exact .inr (.inr (.inl ⟨a, b, xs, ys, rfl, rfl, h1, h3, by rw [h2.length, h4.length]; exact h5, fun p hp => g.lst e (h2.app h4) hp⟩))
 ·have hx0 := hx
  have hy0 := hy
  obtain ⟨a, xs, rfl, h1, h2⟩ := wax e hx
  obtain ⟨b, ys, rfl, h3, h4⟩ := wax e hy
  obtain ⟨h5, rfl⟩ := we h
  rename_i p q
  refine .inr (.inr (.inr ⟨a, b, xs, ys, rfl, rfl, h1, h3, by rw [h2.length, h4.length]; exact h5, fun z => ?_, fun z1 z => ?_, fun z1 z2 p o hp hd => g.tup e (h2.app h4) hp hd⟩))
  ·have e0 : p = [] := by
    cases p with
    | nil => rfl
    | cons u r => rw [z] at h2; obtain ⟨_, _, q, _⟩ := iss_cons_iff.mp h2; cases q
   subst e0
   exact g.same e hy0
  ·have e0 : q = [] := by
    cases q with
    | nil => rfl
    | cons u r => rw [z] at h4; obtain ⟨_, _, q, _⟩ := iss_cons_iff.mp h4; cases q
   subst e0
   rw [List.append_nil] at g
   exact g.same e hx0
 ·cases h
def subD : D → D → Option Rv
 | .s (.int i), .s (.int j) => some (rvI (i - j))
 | _, _ => none
def modD : D → D → Option Rv
 | .s (.int i), .s (.int j) => if 0 < j then some (rvI (i % j)) else none
 | _, _ => none
theorem ok_mod : R2Ok K (rI (fun _ j => 0 < j) fun i j => .int (i % j)) modD := by
 intro C H e dx dy x y rv Q h hx hy g
 unfold modD at h
 split at h
 ·cases pk_s.mp hx; cases pk_s.mp hy
  obtain ⟨h1, rfl⟩ := we h
  exact ⟨_, _, rfl, rfl, h1, g.d e⟩
 ·cases h
def kb0 : D → D → Option Rv
 | .s (.int i), .s (.int j) => if 0 < j ∧ j < 1073741824 then some (rvI (i / j)) else none
 | _, _ => none
theorem ok_fdiv : R2Ok K (rI CDiv fun i j => .int (i / j)) kb0 := by
 intro C H e dx dy x y rv Q h hx hy g
 unfold kb0 at h
 split at h
 ·cases pk_s.mp hx; cases pk_s.mp hy
  obtain ⟨h1, rfl⟩ := we h
  exact ⟨_, _, rfl, rfl, h1, g.d e⟩
 ·cases h
def zbn (a : Str) (j : Int) : Bool := decide (0 ≤ j) && decide (j ≤ 1000) && decide (a.length ≤ 1000)
theorem mulOk_of {a : Str} {j : Int} (h : zbn a j = true) : PySem.MulOk a j := by
 unfold zbn at h
 simp only [Bool.and_eq_true, decide_eq_true_eq] at h
 obtain ⟨⟨h1, h2⟩, h3⟩ := h
 have e1 : decide (j < -(2 ^ 63 : Int)) = false := decide_eq_false (by omega)
 have e2 : decide (j ≥ 2 ^ 63) = false := decide_eq_false (by omega)
 refine ⟨by rw [e1, e2]; rfl, fun n1 _ => ?_, fun n1 _ => ?_⟩
 ·have p : 0 < j := by omega
  intro q
  have q2 := (Int.ediv_lt_iff_lt_mul p).mp q
  have q3 : (a.length : Int) * j ≤ 1000 * 1000 := Int.mul_le_mul (by omega) h2 (by omega) (by decide)
  omega
 ·unfold Builtin.Str.tooLong
  have a1 : a.length * j.toNat ≤ 1000 * 1000 := Nat.mul_le_mul h3 (by omega)
  rw [sizeLine_eq]
  exact decide_eq_false (by omega)
def zb6 (i j : Int) : Bool := decide (i.natAbs < 18446744073709551616) || decide (j.natAbs < 18446744073709551616)
theorem bits64 {i : Int} (h : i.natAbs < 18446744073709551616) : Builtin.Int.intBits i ≤ 64 := by
 unfold Builtin.Int.intBits
 split
 ·omega
 ·have := (Nat.log2_lt (n := i.natAbs) (k := 64) (by rename_i q; simpa using q)).mpr (by simpa using h)
  omega
theorem mulIB_ok {i j : Int} (h : zb6 i j = true) : PySem.IntMulOk i j := by
 unfold zb6 at h
 rcases Bool.or_eq_true_iff.mp h with z | z
 ·exact PySem.IntMulOk.of_left (bits64 (of_decide_eq_true z))
 ·exact PySem.IntMulOk.of_right (bits64 (of_decide_eq_true z))
theorem op_mulI {X : Cx} : OpR X (binaryOp .Mult) (rI PySem.IntMulOk fun i j => .int (i * j)) := opI fun _ _ _ _ _ _ _ hc q => PySem.P.mul_int q hc
def mulD : D → D → Option Rv
 | .s (.int i), .s (.int j) => if zb6 i j = true then some (rvI (i * j)) else none
 | .s (.str a), .s (.int j) => if zbn a j = true then some (rvS (Txt.mul a j)) else none
 | _, _ => none
theorem op_mul_str {X : Cx} : OpR X (binaryOp .Mult) (fun x y H Q => ∃ i j, x = .str i ∧ y = .int j ∧ PySem.MulOk i j ∧ Q (.str (Txt.mul i j)) H) := by
 intro pins s σ H x y v u Q I rx ry h
 obtain ⟨i, j, rfl, rfl, hz, q⟩ := h
 obtain ⟨t, rfl⟩ := rx
 obtain ⟨t', rfl⟩ := ry
 exact PySem.SB.mul hz fun t' k => ⟨.str (Txt.mul i j), H, I.tok _, ⟨_, rfl⟩, q⟩
def rMulX (K : PySem.W.Frag) : R2 := fun x y H Q => rI PySem.IntMulOk (fun i j => .int (i * j)) x y H Q ∨ (∃ i j, x = .str i ∧ y = .int j ∧ PySem.MulOk i j ∧ Q (.str (Txt.mul i j)) H)
theorem op_mulX {X : Cx} : OpR X (binaryOp .Mult) (rMulX X.K) := op_mulI.or op_mul_str
theorem ok_mul : R2Ok K (rMulX K) mulD := by
 intro C H e dx dy x y rv Q h hx hy g
 unfold mulD at h
 split at h
 ·cases pk_s.mp hx; cases pk_s.mp hy
  obtain ⟨h1, rfl⟩ := we h
  exact .inl ⟨_, _, rfl, rfl, mulIB_ok h1, g.d e⟩
 ·cases pk_s.mp hx; cases pk_s.mp hy
  obtain ⟨h1, rfl⟩ := we h
  exact .inr ⟨_, _, rfl, rfl, mulOk_of h1, g.d e⟩
 ·cases h
def negD : D → Option Rv
 | .s (.int i) => some (rvI (-i))
 | _ => none
theorem ok_neg : R1Ok K (rU fun i => .int (-i)) negD := by
 intro C H e dx x rv Q h hx g
 unfold negD at h
 split at h
 ·cases pk_s.mp hx; cases h
  exact ⟨_, rfl, g.d e⟩
 ·cases h
mutual
def toPy : D → Option PyData
 | .s .non => some .none
 | .s (.bl b) => some (.bool b)
 | .s (.int i) => some (.int i)
 | .s (.str x) => some (.str x)
 | .s _ => none
 | .tup ds => match kak ds with
  | some l => some (.tuple l)
  | none => none
 | .lst ds => match kak ds with
  | some l => some (.list l)
  | none => none
 | .ro ds => match kak ds with
  | some l => some (.list l)
  | none => none
 | .obj _ _ => none
 | .lam _ _ _ _ => none
 | .dic _ => none
 | .exc _ _ _ => none
 | .lab _ _ => none
def kak : List D → Option (List PyData)
 | [] => some []
 | d :: ds => match toPy d with
  | none => none
  | some a => match kak ds with
   | some l => some (a :: l)
   | none => none
end
mutual
theorem qbn (e : Ex C H) : ∀ (d : D) (v : V) (a : PyData), toPy d = some a → Is K C d v → Dp K H v a
 | .s x, v, a, h, i => by
  cases is_s_iff.mp i
  cases x with
  | non => simp only [toPy] at h; cases h; exact .non
  | bl b => simp only [toPy] at h; cases h; exact .bl b
  | int k => simp only [toPy] at h; cases h; exact .int k
  | str x => simp only [toPy] at h; cases h; exact .str x
  | _ => simp only [toPy] at h; cases h
 | .tup ds, v, a, h, i => by
  obtain ⟨p, xs, rfl, h2, h3⟩ := y5 i
  simp only [toPy] at h
  cases q : kak ds with
  | none => rw [q] at h; cases h
  | some l => rw [q] at h; cases h; exact .tup (ex_t e h2) (xan e ds xs l q h3)
 | .lst ds, v, a, h, i => by
  obtain ⟨p, xs, rfl, h2, h3⟩ := is_lst_iff.mp i
  simp only [toPy] at h
  cases q : kak ds with
  | none => rw [q] at h; cases h
  | some l => rw [q] at h; cases h; exact .lst (SqL.of (e.1 _ _ h2 vw)) (xan e ds xs l q h3)
 | .ro ds, v, a, h, i => by
  obtain ⟨p, xs, rfl, h2, h3⟩ := is_ro_iff.mp i
  simp only [toPy] at h
  cases q : kak ds with
  | none => rw [q] at h; cases h
  | some l => rw [q] at h; cases h; exact .lst (ex_l e h2) (xan e ds xs l q h3)
 | .obj c fs, v, a, h, i => by simp only [toPy] at h; cases h
 | .lam f c zs ks, v, a, h, i => by simp only [toPy] at h; cases h
 | .dic kvs, v, a, h, i => by simp only [toPy] at h; cases h
 | .exc c b fs, v, a, h, i => by simp only [toPy] at h; cases h
 | .lab _ _, v, a, h, i => by simp only [toPy] at h; cases h
theorem xan (e : Ex C H) : ∀ (ds : List D) (vs : List V) (as : List PyData), kak ds = some as → Iss K C ds vs → DpAll K H vs as
 | [], vs, as, h, i => by
  rw [iss_nil_iff.mp i]
  simp only [kak] at h
  cases h
  exact .nil
 | d :: ds, vs, as, h, i => by
  obtain ⟨x, r, rfl, h2, h3⟩ := iss_cons_iff.mp i
  simp only [kak] at h
  cases q : toPy d with
  | none => rw [q] at h; cases h
  | some a =>
   cases q2 : kak ds with
   | none => rw [q, q2] at h; cases h
   | some l =>
    rw [q, q2] at h
    cases h
    exact .cons (qbn e d x a q h2) (xan e ds r l q2 h3)
end
theorem qbg {d : D} {v : V} {a : PyData} (e : Ex C H) (h : toPy d = some a) (i : Pk K C H d v) : Dp K H v a := by
 cases d with
 | lst ds =>
  obtain ⟨p, xs, rfl, h2, h3⟩ := i
  simp only [toPy] at h
  cases q : kak ds with
  | none => rw [q] at h; cases h
  | some l => rw [q] at h; cases h; exact .lst (SqL.of h2) (xan e ds xs l q h3)
 | s x => exact qbn e _ v a h i
 | tup ds => exact qbn e _ v a h i
 | ro ds => exact qbn e _ v a h i
 | obj c fs => simp only [toPy] at h; cases h
 | lam f c zs ks => simp only [toPy] at h; cases h
 | dic kvs => simp only [toPy] at h; cases h
 | exc c b fs => simp only [toPy] at h; cases h
 | lab a d => simp only [toPy] at h; cases h
def eqB (x y : D) : Option Bool := match toPy x with
 | none => none
 | some a => match toPy y with
  | none => none
  | some b => if (SeqAt.shaped a && SeqAt.shaped b) = true then some (PyData.eqv a b) else none
def eqD (x y : D) : Option Rv := match eqB x y with
 | some b => some (rvB b)
 | none => none
def neD (x y : D) : Option Rv := match eqB x y with
 | some b => some (rvB (!b))
 | none => none
theorem eqB_some {x y : D} {b : Bool} (h : eqB x y = some b) : ∃ a c, toPy x = some a ∧ toPy y = some c ∧ SeqAt.shaped a = true ∧ SeqAt.shaped c = true ∧ PyData.eqv a c = b := by
 unfold eqB at h
 cases q1 : toPy x with
 | none => rw [q1] at h; cases h
 | some a =>
  cases q2 : toPy y with
  | none => rw [q1, q2] at h; cases h
  | some c =>
   rw [q1, q2] at h
   obtain ⟨h1, h2⟩ := we h
   obtain ⟨h3, h4⟩ := Bool.and_eq_true_iff.mp h1
   exact ⟨a, c, rfl, rfl, h3, h4, h2⟩
theorem ok_eq : R2Ok K (rEqD K) eqD := by
 intro C H e dx dy x y rv Q h hx hy g
 unfold eqD at h
 cases q : eqB dx dy with
 | none => rw [q] at h; cases h
 | some b =>
  rw [q] at h; cases h
  obtain ⟨a, c, h1, h2, h3, h4, rfl⟩ := eqB_some q
  exact ⟨a, c, qbg e h1 hx, qbg e h2 hy, h3, h4, g.d e⟩
theorem ok_ne : R2Ok K (rNeD K) neD := by
 intro C H e dx dy x y rv Q h hx hy g
 unfold neD at h
 cases q : eqB dx dy with
 | none => rw [q] at h; cases h
 | some b =>
  rw [q] at h; cases h
  obtain ⟨a, c, h1, h2, h3, h4, rfl⟩ := eqB_some q
  exact ⟨a, c, qbg e h1 hx, qbg e h2 hy, h3, h4, g.d e⟩
def strLt (a b : Str) : Bool := decide (a.cps.toList < b.cps.toList)
def ltD : D → D → Option Rv
 | .s (.int i), .s (.int j) => some (rvB (decide (i < j)))
 | .s (.str a), .s (.str b) => some (rvB (strLt a b))
 | _, _ => none
def leD : D → D → Option Rv
 | .s (.int i), .s (.int j) => some (rvB (decide (i ≤ j)))
 | _, _ => none
def gtD : D → D → Option Rv
 | .s (.int i), .s (.int j) => some (rvB (decide (j < i)))
 | _, _ => none
def geD : D → D → Option Rv
 | .s (.int i), .s (.int j) => some (rvB (decide (j ≤ i)))
 | _, _ => none
def rLtX : R2 := fun x y H Q => rI0 (fun i j => .bl (decide (i < j))) x y H Q ∨ (∃ i j, x = .str i ∧ y = .str j ∧ Q (.bl (decide (i.cps.toList < j.cps.toList))) H)
theorem op_ltX {X : Cx} : OpR X (compareOp .Lt) rLtX := op_lt.or op_lt_str
theorem ok_le : R2Ok K (rI0 fun i j => .bl (decide (i ≤ j))) leD := by
 intro C H e dx dy x y rv Q h hx hy g
 unfold leD at h
 split at h
 ·cases pk_s.mp hx; cases pk_s.mp hy; cases h
  exact ⟨_, _, rfl, rfl, g.d e⟩
 ·cases h
theorem ok_gt : R2Ok K (rI0 fun i j => .bl (decide (j < i))) gtD := by
 intro C H e dx dy x y rv Q h hx hy g
 unfold gtD at h
 split at h
 ·cases pk_s.mp hx; cases pk_s.mp hy; cases h
  exact ⟨_, _, rfl, rfl, g.d e⟩
 ·cases h
def isNone : D → Bool
 | .s .non => true
 | _ => false
theorem ybi {d : D} {v : V} (h : Pk K C H d v) : decide (v = .non) = isNone d := by
 cases d with
 | s x =>
  have q := pk_s.mp h
  subst q
  cases v <;> simp [isNone]
 | tup ds => obtain ⟨a, xs, rfl, _⟩ := y5 h; simp [isNone]
 | lst ds => obtain ⟨a, xs, rfl, _⟩ := h; simp [isNone]
 | ro ds => obtain ⟨a, xs, rfl, _⟩ := is_ro_iff.mp h; simp [isNone]
 | obj c fs => obtain ⟨a, dx, gs, rfl, _⟩ := h; simp [isNone]
 | lam f c zs ks => obtain ⟨rfl, _⟩ := is_lam_iff.mp (show Is K C (.lam f c zs ks) v from h); simp [isNone]
 | dic kvs => obtain ⟨a, _, xs, rfl, _⟩ := is_dic_iff.mp (show Is K C (.dic kvs) v from h); simp [isNone]
 | exc c b fs => obtain ⟨_, a, d, gs, rfl, _⟩ := is_exc_iff.mp (show Is K C (.exc c b fs) v from h); simp [isNone]
 | lab a d => obtain ⟨rfl, _⟩ := is_lab_iff.mp (show Is K C (.lab a d) v from h); simp [isNone]
def isD (x y : D) : Option Rv := match y with
 | .s .non => some (rvB (isNone x))
 | .s (.bl b) => match x with
  | .s (.bl a) => some (rvB (decide (a = b)))
  | _ => none
 | _ => none
def z0 (x y : D) : Option Rv := match y with
 | .s .non => some (rvB (!isNone x))
 | .s (.bl b) => match x with
  | .s (.bl a) => some (rvB (!decide (a = b)))
  | _ => none
 | _ => none
def rIsX : R2 := fun x y H Q => (y = .non ∧ Q (.bl (decide (x = .non))) H) ∨ rIsB x y H Q
def rIsNotX : R2 := fun x y H Q => (y = .non ∧ Q (.bl (!decide (x = .non))) H) ∨ rNotB x y H Q
theorem op_isX {X : Cx} : OpR X (compareOp .Is) rIsX := op_isN.or op_isBl
theorem op_isNotX {X : Cx} : OpR X (compareOp .IsNot) rIsNotX := op_notN.or op_notBl
theorem ok_is : R2Ok K rIsX isD := by
 intro C H e dx dy x y rv Q h hx hy g
 unfold isD at h
 split at h
 ·cases pk_s.mp hy; cases h
  exact .inl ⟨rfl, by rw [ybi hx]; exact g.d e⟩
 ·split at h
  ·cases pk_s.mp hx; cases pk_s.mp hy; cases h
   exact .inr ⟨_, _, rfl, rfl, g.d e⟩
  ·cases h
 ·cases h
theorem ok_isNot : R2Ok K rIsNotX z0 := by
 intro C H e dx dy x y rv Q h hx hy g
 unfold z0 at h
 split at h
 ·cases pk_s.mp hy; cases h
  exact .inl ⟨rfl, by rw [ybi hx]; exact g.d e⟩
 ·split at h
  ·cases pk_s.mp hx; cases pk_s.mp hy; cases h
   exact .inr ⟨_, _, rfl, rfl, g.d e⟩
  ·cases h
 ·cases h
def xb7 : D → Bool
 | .s x => flatV x
 | _ => false
def sV : D → V
 | .s x => x
 | _ => .non
def items : D → Option (List D)
 | .tup ds => some ds
 | .lst ds => some ds
 | .ro ds => some ds
 | _ => none
theorem jbs : ∀ {ds : List D} {xs : List V}, Iss K C ds xs → ds.all xb7 = true → xs = ds.map sV ∧ xs.all flatV = true
 | [], xs, h, f => by rw [iss_nil_iff.mp h]; exact ⟨rfl, rfl⟩
 | d :: ds, xs, h, f => by
  obtain ⟨x, r, rfl, h2, h3⟩ := iss_cons_iff.mp h
  rw [List.all_cons, Bool.and_eq_true] at f
  obtain ⟨e1, e2⟩ := jbs h3 f.2
  cases d with
  | s y =>
   cases is_s_iff.mp h2
   refine ⟨by rw [List.map_cons, ← e1]; rfl, ?_⟩
   rw [List.all_cons, e2, Bool.and_true]
   exact f.1
  | _ => cases f.1
def yw (x : D) (ds : List D) : Option Bool := if (xb7 x && ds.all xb7) = true then some (inV (sV x) (ds.map sV)) else none
def inB : D → D → Option Bool
 | .s (.str a), .s (.str z) => if a.length = 1 then some (decide (a.cps.getD 0 0 ∈ z.cps.toList)) else some (!(Builtin.Str.occurrences z a 0 z.length 1).isEmpty)
 | x, y => match items y with
  | some ds => yw x ds
  | none => none
def inD (x y : D) : Option Rv := match inB x y with
 | some b => some (rvB b)
 | none => none
def zbb (x y : D) : Option Rv := match inB x y with
 | some b => some (rvB (!b))
 | none => none
theorem xag {d : D} {v : V} {ds : List D} (e : Ex C H) (h : items d = some ds) (i : Pk K C H d v) : ∃ p xs, v = .ref p ∧ (SqL K H p xs ∨ SqT K H p xs) ∧ Iss K C ds xs := by
 cases d with
 | tup es =>
  cases h
  obtain ⟨a, xs, rfl, h1, h2⟩ := wax e i
  exact ⟨a, xs, rfl, .inr h1, h2⟩
 | lst es =>
  cases h
  obtain ⟨a, xs, rfl, h1, h2⟩ := i
  exact ⟨a, xs, rfl, .inl (SqL.of h1), h2⟩
 | ro es =>
  cases h
  obtain ⟨a, xs, rfl, h1, h2⟩ := pk_ro e i
  exact ⟨a, xs, rfl, .inl h1, h2⟩
 | s x => cases h
 | obj c fs => cases h
 | lam f c zs ks => cases h
 | dic kvs => cases h
 | exc c b fs => cases h
 | lab a d => cases h
def rInX (K : PySem.W.Frag) : R2 := fun x y H Q => (∃ i j, x = .str i ∧ y = .str j ∧ Q (.bl (!(Builtin.Str.occurrences j i 0 j.length 1).isEmpty)) H) ∨ (∃ (c : Nat) (z : Str), x = .str ⟨#[c]⟩ ∧ y = .str z ∧ Q (.bl (decide (c ∈ z.cps.toList))) H) ∨ rIn K false x y H Q
def rNotInX (K : PySem.W.Frag) : R2 := fun x y H Q => (∃ i j, x = .str i ∧ y = .str j ∧ Q (.bl (!(!(Builtin.Str.occurrences j i 0 j.length 1).isEmpty))) H) ∨ (∃ (c : Nat) (z : Str), x = .str ⟨#[c]⟩ ∧ y = .str z ∧ Q (.bl (!decide (c ∈ z.cps.toList))) H) ∨ rIn K true x y H Q
theorem op_inX {X : Cx} : OpR X (compareOp .In) (rInX X.K) := op_in_str.or (op_in_sign.or op_in_seq)
theorem op_notInX {X : Cx} : OpR X (compareOp .NotIn) (rNotInX X.K) := L2.op_notIn_str.or (op_notIn_sign.or op_notIn_seq)
theorem one_sign {a : Str} (h : a.length = 1) : a = ⟨#[a.cps.getD 0 0]⟩ := by
 obtain ⟨⟨l⟩⟩ := a
 match l, h with
 | [c], _ => rfl
theorem in_cases {dx dy : D} {b : Bool} (h : inB dx dy = some b) :
  (∃ a z, dx = .s (.str a) ∧ dy = .s (.str z) ∧ ((∃ c, a = ⟨#[c]⟩ ∧ b = decide (c ∈ z.cps.toList)) ∨ b = !(Builtin.Str.occurrences z a 0 z.length 1).isEmpty)) ∨
  (∃ ds, items dy = some ds ∧ yw dx ds = some b) := by
 unfold inB at h
 split at h
 ·rename_i a z
  refine .inl ⟨a, z, rfl, rfl, ?_⟩
  by_cases h1 : a.length = 1
  ·rw [if_pos h1] at h
   exact .inl ⟨_, one_sign h1, (Option.some.inj h).symm⟩
  ·rw [if_neg h1] at h
   exact .inr (Option.some.inj h).symm
 ·rename_i x y hne
  cases q : items dy with
  | none => rw [q] at h; cases h
  | some ds => rw [q] at h; exact .inr ⟨ds, rfl, h⟩
theorem wbb {dx : D} {ds : List D} {b : Bool} (h : yw dx ds = some b) : ∃ x, dx = .s x ∧ flatV x = true ∧ ds.all xb7 = true ∧ b = inV x (ds.map sV) := by
 unfold yw at h
 obtain ⟨h1, h2⟩ := we h
 obtain ⟨h3, h4⟩ := Bool.and_eq_true_iff.mp h1
 cases dx with
 | s x => exact ⟨x, rfl, h3, h4, h2.symm⟩
 | _ => cases h3
theorem ok_in : R2Ok K (rInX K) inD := by
 intro C H e dx dy x y rv Q h hx hy g
 unfold inD at h
 cases q : inB dx dy with
 | none => rw [q] at h; cases h
 | some b =>
  rw [q] at h; cases h
  rcases in_cases q with ⟨a, z, rfl, rfl, ⟨c, rfl, rfl⟩ | rfl⟩ | ⟨ds, h1, h2⟩
  ·cases pk_s.mp hx; cases pk_s.mp hy
   exact .inr (.inl ⟨c, z, rfl, rfl, g.d e⟩)
  ·cases pk_s.mp hx; cases pk_s.mp hy
   exact .inl ⟨a, z, rfl, rfl, g.d e⟩
  ·obtain ⟨w, rfl, h3, h4, rfl⟩ := wbb h2
   cases pk_s.mp hx
   obtain ⟨p, xs, rfl, h5, h6⟩ := xag e h1 hy
   obtain ⟨rfl, h7⟩ := jbs h6 h4
   exact .inr (.inr ⟨p, _, rfl, h5, h3, h7, g.d e⟩)
theorem ok_notIn : R2Ok K (rNotInX K) zbb := by
 intro C H e dx dy x y rv Q h hx hy g
 unfold zbb at h
 cases q : inB dx dy with
 | none => rw [q] at h; cases h
 | some b =>
  rw [q] at h; cases h
  rcases in_cases q with ⟨a, z, rfl, rfl, ⟨c, rfl, rfl⟩ | rfl⟩ | ⟨ds, h1, h2⟩
  ·cases pk_s.mp hx; cases pk_s.mp hy
   exact .inr (.inl ⟨c, z, rfl, rfl, g.d e⟩)
  ·cases pk_s.mp hx; cases pk_s.mp hy
   exact .inl ⟨a, z, rfl, rfl, g.d e⟩
  ·obtain ⟨w, rfl, h3, h4, rfl⟩ := wbb h2
   cases pk_s.mp hx
   obtain ⟨p, xs, rfl, h5, h6⟩ := xag e h1 hy
   obtain ⟨rfl, h7⟩ := jbs h6 h4
   exact .inr (.inr ⟨p, _, rfl, h5, h3, h7, g.d e⟩)
def ixD : D → D → Option Rv
 | .s (.str z), .s (.int i) => if z.length ≤ sizeLine then (match atI z.cps.toList i with
  | some c => some (rvS ⟨#[c]⟩)
  | none => none) else none
 | x, .s (.int i) => match items x with
  | some ds => match atI ds i with
   | some d => some (.dat d)
   | none => none
  | none => none
 | _, _ => none
theorem Iss.atI {ds : List D} {xs : List V} {i : Int} {d : D} (h : Iss K C ds xs) (e : L2.atI ds i = some d) : ∃ x, L2.atI xs i = some x ∧ Is K C d x := by
 unfold L2.atI at e ⊢
 rw [h.length]
 cases q : ixN ds.length i with
 | none => rw [q] at e; cases e
 | some j => rw [q] at e; exact h.get e
theorem ok_ix : R2Ok K (rIx K) ixD := by
 intro C H e dx dy x y rv Q h hx hy g
 unfold ixD at h
 split at h
 ·cases pk_s.mp hx; cases pk_s.mp hy
  rename_i z i
  by_cases hz : z.length ≤ sizeLine
  ·rw [if_pos hz] at h
   cases q : L2.atI z.cps.toList i with
   | none => rw [q] at h; cases h
   | some c => rw [q] at h; cases h; exact .inr (.inr ⟨z, i, c, rfl, rfl, hz, q, g.d e⟩)
  ·rw [if_neg hz] at h; cases h
 ·cases pk_s.mp hy
  cases q : items dx with
  | none => rw [q] at h; cases h
  | some ds =>
   rw [q] at h
   dsimp only at h
   rename_i i _
   cases q2 : L2.atI ds i with
   | none => rw [q2] at h; cases h
   | some d =>
    rw [q2] at h
    cases h
    obtain ⟨p, xs, rfl, h5, h6⟩ := xag e q hx
    obtain ⟨w, h7, h8⟩ := h6.atI q2
    rcases h5 with h5 | h5
    ·exact .inl ⟨p, xs, i, w, rfl, rfl, h5, h7, g.same e h8⟩
    ·exact .inr (.inl ⟨p, xs, i, w, rfl, rfl, h5, h7, g.same e h8⟩)
 ·cases h
def cutG {α : Type} (xs : List α) (lo hi : Option Int) : List α := (xs.drop (HT.sIx xs.length 0 lo)).take (HT.sIx xs.length xs.length hi - HT.sIx xs.length 0 lo)
theorem Iss.cut {ds : List D} {xs : List V} (h : Iss K C ds xs) (lo hi : Option Int) : Iss K C (cutG ds lo hi) (cutV xs lo hi) := by
 unfold cutG cutV
 rw [h.length]
 exact (h.drop _).take _
def slD : D → Option Int → Option Int → Option Rv
 | .s (.str z), lo, hi => if z.length ≤ sizeLine then some (rvS (cutS z lo hi)) else none
 | .tup ds, lo, hi => some (.dat (.tup (cutG ds lo hi)))
 | .lst ds, lo, hi => some (.new (.lst (cutG ds lo hi)))
 | .ro ds, lo, hi => some (.new (.lst (cutG ds lo hi)))
 | _, _, _ => none
def rSlX (K : PySem.W.Frag) : V → Option Int → Option Int → Hp → VK → Prop := fun x lo hi H Q => rSlS x lo hi H Q ∨ rSlP K x lo hi H Q ∨ rSlL K x lo hi H Q
theorem sl_X {X : Cx} : SlR X (rSlX X.K) := sl_str.or (sl_tupP.or sl_list)
theorem ok_sl {C H : Hp} (e : Ex C H) {dx : D} {x : V} {lo hi : Option Int} {rv : Rv} {Q : VK} (h : slD dx lo hi = some rv) (hx : Pk K C H dx x) (g : Giv K C H rv Q) : rSlX K x lo hi H Q := by
 cases dx with
 | s y =>
  cases pk_s.mp hx
  cases x with
  | str z =>
   obtain ⟨h1, rfl⟩ := we (show (if z.length ≤ sizeLine then some (rvS (cutS z lo hi)) else none) = some rv from h)
   exact .inl ⟨_, rfl, h1, g.d e⟩
  | _ => cases h
 | tup ds =>
  cases h
  have hx0 := hx
  obtain ⟨a, xs, rfl, h1, h2⟩ := wax e hx
  refine .inr (.inl ⟨a, xs, rfl, h1, fun ⟨z1, z2⟩ => ?_, fun _ p o hp hd => g.tup e (h2.cut lo hi) hp hd⟩)
  have q : cutG ds lo hi = ds := by
   unfold cutG
   rw [← h2.length, z1, z2, List.drop_zero, Nat.sub_zero, h2.length, List.take_length]
  rw [q] at g
  exact g.same e hx0
 | lst ds =>
  cases h
  obtain ⟨a, xs, rfl, h1, h2⟩ := hx
  exact .inr (.inr ⟨a, xs, rfl, SqL.of h1, fun p hp => g.lst e (h2.cut lo hi) hp⟩)
 | ro ds =>
  cases h
  obtain ⟨a, xs, rfl, h1, h2⟩ := pk_ro e hx
  exact .inr (.inr ⟨a, xs, rfl, h1, fun p hp => g.lst e (h2.cut lo hi) hp⟩)
 | obj c fs => cases h
 | lam f c zs ks => cases h
 | dic kvs => cases h
 | exc c b fs => cases h
 | lab a d => cases h
end
end PL
namespace PL
open PySem L2
def asB (r : Rv) : P Bool := fun ρ => match peek ρ r with
 | some (.s (.bl b)) => some (.ok b ρ)
 | _ => none
def wc (f : P Rv) : P Bool := f.bind asB
def fAnd (g h : P Bool) : P Bool := g.bind fun b => if b = true then h else P.ret false
def fOr (g h : P Bool) : P Bool := g.bind fun b => if b = true then P.ret true else h
def fNot (g : P Bool) : P Bool := g.bind fun b => P.ret (!b)
def x9 (f g : P Rv) : P Rv := (wc f).bind fun b => if b = true then g else P.ret (rvB false)
def fOrV (f g : P Rv) : P Rv := (wc f).bind fun b => if b = true then P.ret (rvB true) else g
def fNotV (f : P Rv) : P Rv := (wc f).bind fun b => P.ret (rvB (!b))
def fIf (g : P Bool) (fa fb : P Rv) : P Rv := g.bind fun b => if b = true then fa else fb
def yb0 (op op' : D → D → Option Rv) (fa fb fc : P Rv) : P Rv := fa.bind fun ra => fb.bind fun rb => (pk1 ra fun da => pk1 rb fun db => P.of (op da db)).bind fun z => (asB z).bind fun k =>
 if k = true then fc.bind fun rc => pk1 rb fun db => pk1 rc fun dc => P.of (op' db dc) else P.ret (rvB false)
section
variable {K : PySem.W.Frag} {W : WX} {σ : Sl} {C H : Hp} {ρ : En}
theorem At.asB {α' α : Type} {Rb : Rel α' α} {H0 : Hp} {v : V} {r : Rv} {k : Bool → P α} {t : Rd1 α'} (e : EnvOk K C H σ ρ) (h : VOk K H0 C H σ ρ v r)
  (hk : ∀ b, v = .bl b → At K W Rb σ C H ρ t (k b ρ)) : At K W Rb σ C H ρ t (((PL.asB r).bind k) ρ) := by
 show At K W Rb σ C H ρ t (yg (PL.asB r ρ) k)
 unfold PL.asB
 cases q : peek ρ r with
 | none => exact At.nil
 | some d =>
  cases d with
  | s x =>
   cases x with
   | bl b => exact hk b (pk_s.mp (xm e h q))
   | _ => exact At.nil
  | _ => exact At.nil
end
section
variable {K : PySem.W.Frag} {W : WX} {ta tb tc : TE} {tt tu : TT} {fa fb fc : P Rv} {g h : P Bool}
theorem qba (ha : Sd K W (VRel K) ta fa) : Sd K W BRel (tTest ta) (wc fa) := by
 intro σ C H ρ e
 show At K W (BRel H) σ C H ρ (fun H Q => ta σ H fun x H1 => ∃ k, x = .bl k ∧ Q k H1) (yg (fa ρ) asB)
 refine At.bind (tk := fun (x : V) (H1 : Hp) (Q : Bool → Hp → Prop) => ∃ k, x = .bl k ∧ Q k H1) (ha σ C H ρ e) fun ra ρ1 x C1 H1 p1 r1 => ?_
 unfold asB
 cases q : peek ρ1 ra with
 | none => exact At.nil
 | some d =>
  cases d with
  | s y =>
   cases y with
   | bl b => exact At.imp (At.ret (R := BRel H) (v := b) p1.env rfl) fun Q h => ⟨b, pk_s.mp (xm p1.env r1 q), h⟩
   | _ => exact At.nil
  | _ => exact At.nil
theorem sd_tb (ha : Sd K W (VRel K) ta fa) : Sd K W BRel (tB ta) (wc fa) := qba ha
theorem sd_and (ha : Sd K W BRel tt g) (hb : Sd K W BRel tu h) : Sd K W BRel (tAnd tt tu) (fAnd g h) := by
 intro σ C H ρ e
 show At K W (BRel H) σ C H ρ (fun H Q => tt σ H fun c H1 => if c = true then tu σ H1 Q else Q false H1) (yg (g ρ) fun b => if b = true then h else P.ret false)
 refine At.bind (tk := fun (c : Bool) (H1 : Hp) (Q : Bool → Hp → Prop) => if c = true then tu σ H1 Q else Q false H1) (ha σ C H ρ e) fun b ρ1 x C1 H1 p1 r1 => ?_
 have r1 : x = b := r1
 subst r1
 cases x with
 | true => exact hb σ C1 H1 ρ1 p1.env
 | false => exact At.ret (R := BRel H) (v := false) p1.env rfl
theorem sd_or (ha : Sd K W BRel tt g) (hb : Sd K W BRel tu h) : Sd K W BRel (tOr tt tu) (fOr g h) := by
 intro σ C H ρ e
 show At K W (BRel H) σ C H ρ (fun H Q => tt σ H fun c H1 => if c = true then Q true H1 else tu σ H1 Q) (yg (g ρ) fun b => if b = true then P.ret true else h)
 refine At.bind (tk := fun (c : Bool) (H1 : Hp) (Q : Bool → Hp → Prop) => if c = true then Q true H1 else tu σ H1 Q) (ha σ C H ρ e) fun b ρ1 x C1 H1 p1 r1 => ?_
 have r1 : x = b := r1
 subst r1
 cases x with
 | false => exact hb σ C1 H1 ρ1 p1.env
 | true => exact At.ret (R := BRel H) (v := true) p1.env rfl
theorem sd_not (ha : Sd K W BRel tt g) : Sd K W BRel (tNot tt) (fNot g) := by
 intro σ C H ρ e
 show At K W (BRel H) σ C H ρ (fun H Q => tt σ H fun c H1 => Q (!c) H1) (yg (g ρ) fun b => P.ret (!b))
 refine At.bind (tk := fun (c : Bool) (H1 : Hp) (Q : Bool → Hp → Prop) => Q (!c) H1) (ha σ C H ρ e) fun b ρ1 x C1 H1 p1 r1 => ?_
 have r1 : x = b := r1
 subst r1
 exact At.ret (R := BRel H) (v := !x) p1.env rfl
theorem sd_andV (ha : Sd K W (VRel K) ta fa) (hb : Sd K W (VRel K) tb fb) : Sd K W (VRel K) (tAndV ta tb) (x9 fa fb) := by
 intro σ C H ρ e
 have e1 := qba ha σ C H ρ e
 show At K W (VRel K H) σ C H ρ (fun H Q => ta σ H fun x H1 => ∃ c, x = .bl c ∧ if c = true then tb σ H1 Q else Q (.bl false) H1) (yg (wc fa ρ) fun b => if b = true then fb else P.ret (rvB false))
 refine At.bind (Rb := VRel K H) (tk := fun (c : Bool) (H1 : Hp) (Q : VK) => if c = true then tb σ H1 Q else Q (.bl false) H1) e1 fun b ρ1 x C1 H1 p1 r1 => ?_
 have r1 : x = b := r1
 subst r1
 cases x with
 | true => exact fun out Q ho hok hex => hb σ C1 H1 ρ1 p1.env out Q ho (fun a ρ' e2 v C' H' p2 r2 => hok a ρ' e2 v C' H' p2 (VOk.back r2 p1.step.dom)) hex
 | false => exact At.ret (R := VRel K H) (v := .bl false) p1.env (show Is K C1 (.s (.bl false)) _ from is_s)
theorem sd_orV (ha : Sd K W (VRel K) ta fa) (hb : Sd K W (VRel K) tb fb) : Sd K W (VRel K) (tOrV ta tb) (fOrV fa fb) := by
 intro σ C H ρ e
 have e1 := qba ha σ C H ρ e
 show At K W (VRel K H) σ C H ρ (fun H Q => ta σ H fun x H1 => ∃ c, x = .bl c ∧ if c = true then Q (.bl true) H1 else tb σ H1 Q) (yg (wc fa ρ) fun b => if b = true then P.ret (rvB true) else fb)
 refine At.bind (Rb := VRel K H) (tk := fun (c : Bool) (H1 : Hp) (Q : VK) => if c = true then Q (.bl true) H1 else tb σ H1 Q) e1 fun b ρ1 x C1 H1 p1 r1 => ?_
 have r1 : x = b := r1
 subst r1
 cases x with
 | false => exact fun out Q ho hok hex => hb σ C1 H1 ρ1 p1.env out Q ho (fun a ρ' e2 v C' H' p2 r2 => hok a ρ' e2 v C' H' p2 (VOk.back r2 p1.step.dom)) hex
 | true => exact At.ret (R := VRel K H) (v := .bl true) p1.env (show Is K C1 (.s (.bl true)) _ from is_s)
theorem sd_notV (ha : Sd K W (VRel K) ta fa) : Sd K W (VRel K) (tNotV ta) (fNotV fa) := by
 intro σ C H ρ e
 have e1 := qba ha σ C H ρ e
 show At K W (VRel K H) σ C H ρ (fun H Q => ta σ H fun x H1 => ∃ c, x = .bl c ∧ Q (.bl (!c)) H1) (yg (wc fa ρ) fun b => P.ret (rvB (!b)))
 refine At.bind (Rb := VRel K H) (tk := fun (c : Bool) (H1 : Hp) (Q : VK) => Q (.bl (!c)) H1) e1 fun b ρ1 x C1 H1 p1 r1 => ?_
 have r1 : x = b := r1
 subst r1
 exact At.ret (R := VRel K H) (v := .bl (!x)) p1.env (show Is K C1 (.s (.bl (!x))) _ from is_s)
theorem sd_if (hg : Sd K W BRel tt g) (ha : Sd K W (VRel K) ta fa) (hb : Sd K W (VRel K) tb fb) : Sd K W (VRel K) (tIf tt ta tb) (fIf g fa fb) := by
 intro σ C H ρ e
 show At K W (VRel K H) σ C H ρ (fun H Q => tt σ H fun c H1 => if c = true then ta σ H1 Q else tb σ H1 Q) (yg (g ρ) fun b => if b = true then fa else fb)
 refine At.bind (Rb := VRel K H) (tk := fun (c : Bool) (H1 : Hp) (Q : VK) => if c = true then ta σ H1 Q else tb σ H1 Q) (hg σ C H ρ e) fun b ρ1 x C1 H1 p1 r1 => ?_
 have r1 : x = b := r1
 subst r1
 cases x with
 | true => exact fun out Q ho hok hex => ha σ C1 H1 ρ1 p1.env out Q ho (fun a ρ' e2 v C' H' p2 r2 => hok a ρ' e2 v C' H' p2 (VOk.back r2 p1.step.dom)) hex
 | false => exact fun out Q ho hok hex => hb σ C1 H1 ρ1 p1.env out Q ho (fun a ρ' e2 v C' H' p2 r2 => hok a ρ' e2 v C' H' p2 (VOk.back r2 p1.step.dom)) hex
theorem sd_chain {r r' : R2} {op op' : D → D → Option Rv} (hr : R2Ok K r op) (hr' : R2Ok K r' op') (ha : Sd K W (VRel K) ta fa) (hb : Sd K W (VRel K) tb fb) (hc : Sd K W (VRel K) tc fc) :
  Sd K W (VRel K) (tChain r r' ta tb tc) (yb0 op op' fa fb fc) := by
 intro σ C H ρ e
 show At K W (VRel K H) σ C H ρ (fun H Q => ta σ H fun x H1 => tb σ H1 fun y H2 => r x y H2 fun z H3 => ∃ k, z = .bl k ∧ (if k = true then tc σ H3 fun w' H4 => r' y w' H4 Q else Q (.bl false) H3))
  (yg (fa ρ) fun ra => fb.bind fun rb => (pk1 ra fun da => pk1 rb fun db => P.of (op da db)).bind fun z => (asB z).bind fun k =>
   if k = true then fc.bind fun rc => pk1 rb fun db => pk1 rc fun dc => P.of (op' db dc) else P.ret (rvB false))
 refine At.bind (tk := fun (x : V) (H1 : Hp) (Q : VK) => tb σ H1 fun y H2 => r x y H2 fun z H3 => ∃ k, z = .bl k ∧ (if k = true then tc σ H3 fun w' H4 => r' y w' H4 Q else Q (.bl false) H3)) (ha σ C H ρ e) fun ra ρ1 x C1 H1 p1 r1 => ?_
 refine At.bind (tk := fun (y : V) (H2 : Hp) (Q : VK) => r x y H2 fun z H3 => ∃ k, z = .bl k ∧ (if k = true then tc σ H3 fun w' H4 => r' y w' H4 Q else Q (.bl false) H3)) (hb σ C1 H1 ρ1 p1.env) fun rb ρ2 y C2 H2 p2 r2 => ?_
 have r1' := VOk.mono r1 p1.env p2
 have first : At K W (VRel K H2) σ C2 H2 ρ2 (fun H Q => r x y H Q) ((pk1 ra fun da => pk1 rb fun db => P.of (op da db)) ρ2) := by
  refine At.pk1 fun da q1 => At.pk1 fun db q2 => At.pof fun rv q3 => ?_
  exact At.giv p2.env (fun b h => h) fun Q g => hr C2 H2 p2.env.ext da db x y rv Q q3 (xm p2.env r1' q1) (xm p2.env r2 q2) g
 refine At.bind (tk := fun (z : V) (H3 : Hp) (Q : VK) => ∃ k, z = .bl k ∧ (if k = true then tc σ H3 fun w' H4 => r' y w' H4 Q else Q (.bl false) H3)) first fun z ρ3 zv C3 H3 p3 r3 => ?_
 refine At.asB p3.env r3 fun b eb => ?_
 subst eb
 cases b with
 | false => exact At.imp (At.ret (R := VRel K H) (v := .bl false) p3.env (show Is K C3 (.s (.bl false)) _ from is_s)) fun Q h => ⟨false, rfl, h⟩
 | true =>
  refine At.imp (t := fun H3 Q => tc σ H3 fun w' H4 => r' y w' H4 Q) ?_ fun Q h => ⟨true, rfl, h⟩
  refine At.bind (tk := fun (w' : V) (H4 : Hp) (Q : VK) => r' y w' H4 Q) (hc σ C3 H3 ρ3 p3.env) fun rc ρ4 w' C4 H4 p4 r4 => ?_
  have r2' := VOk.mono (VOk.mono r2 p2.env p3) p3.env p4
  refine At.pk1 fun db q1 => At.pk1 fun dc q2 => At.pof fun rv q3 => ?_
  exact At.giv p4.env (fun b h => p1.step.dom b (p2.step.dom b (p3.step.dom b (p4.step.dom b h)))) fun Q g => hr' C4 H4 p4.env.ext db dc y w' rv Q q3 (xm p4.env r2' q1) (xm p4.env r4 q2) g
end
section
variable {K : PySem.W.Frag} {C H : Hp}
theorem pks1 {d : D} {ds : List D} {vs : List V} (h : Pks K C H (d :: ds) vs) : ∃ v r, vs = v :: r ∧ Pk K C H d v ∧ Pks K C H ds r := by
 cases h with
 | cons h t => exact ⟨_, _, rfl, h, t⟩
theorem pks0 {vs : List V} (h : Pks K C H [] vs) : vs = [] := by cases h; rfl
def lenD : List D → Option Rv
 | [.s (.str y)] => if y.length ≤ sizeLine then some (rvI y.length) else none
 | [d] => match items d with
  | some ds => some (rvI ds.length)
  | none => none
 | _ => none
def rLenX (K : PySem.W.Frag) : List V → Hp → VK → Prop := fun xs H Q => ∃ x n, xs = [x] ∧ LenV K x H n ∧ Q (.int n) H
theorem ok_len : RCOk K (rLenX K) lenD := by
 intro C H e ds vs rv Q h hs g
 unfold lenD at h
 split at h
 ·obtain ⟨v, r, rfl, h1, h2⟩ := pks1 hs
  cases pks0 h2
  cases pk_s.mp h1
  obtain ⟨h3, rfl⟩ := we h
  exact ⟨_, _, rfl, ⟨h3, rfl⟩, g.d e⟩
 ·obtain ⟨v, r, rfl, h1, h2⟩ := pks1 hs
  cases pks0 h2
  rename_i d _
  cases q : items d with
  | none => rw [q] at h; cases h
  | some es =>
   rw [q] at h; cases h
   obtain ⟨p, xs, rfl, h3, h4⟩ := xag e q h1
   refine ⟨_, es.length, rfl, ?_, g.d e⟩
   rcases h3 with h3 | h3
   ·exact .inl ⟨xs, h3, h4.length.symm⟩
   ·exact .inr ⟨xs, h3, h4.length.symm⟩
 ·cases h
def maxD : List D → Option Rv
 | [.s (.int i), .s (.int j)] => some (rvI (if j > i then j else i))
 | _ => none
def minD : List D → Option Rv
 | [.s (.int i), .s (.int j)] => some (rvI (if j < i then j else i))
 | _ => none
theorem ok_max : RCOk K (fun xs H Q => ∃ i j, xs = [.int i, .int j] ∧ Q (.int (if j > i then j else i)) H) maxD := by
 intro C H e ds vs rv Q h hs g
 unfold maxD at h
 split at h
 ·obtain ⟨v, r, rfl, h1, h2⟩ := pks1 hs
  obtain ⟨v2, r2, rfl, h3, h4⟩ := pks1 h2
  cases pks0 h4
  cases pk_s.mp h1; cases pk_s.mp h3; cases h
  exact ⟨_, _, rfl, g.d e⟩
 ·cases h
theorem ok_min : RCOk K (fun xs H Q => ∃ i j, xs = [.int i, .int j] ∧ Q (.int (if j < i then j else i)) H) minD := by
 intro C H e ds vs rv Q h hs g
 unfold minD at h
 split at h
 ·obtain ⟨v, r, rfl, h1, h2⟩ := pks1 hs
  obtain ⟨v2, r2, rfl, h3, h4⟩ := pks1 h2
  cases pks0 h4
  cases pk_s.mp h1; cases pk_s.mp h3; cases h
  exact ⟨_, _, rfl, g.d e⟩
 ·cases h
def xbz : List D → Option Rv
 | [d] => match items d with
  | some ds => some (.new (.lst ds))
  | none => none
 | _ => none
theorem ok_list : RCOk K (fun xs H Q => ∃ p ys, xs = [.ref p] ∧ (SqL K H p ys ∨ SqT K H p ys) ∧ ∀ l, H l = none → Q (.ref l) (upd H l (.lst ys))) xbz := by
 intro C H e ds vs rv Q h hs g
 unfold xbz at h
 split at h
 ·obtain ⟨v, r, rfl, h1, h2⟩ := pks1 hs
  cases pks0 h2
  rename_i d
  cases q : items d with
  | none => rw [q] at h; cases h
  | some es =>
   rw [q] at h; cases h
   obtain ⟨p, xs, rfl, h3, h4⟩ := xag e q h1
   exact ⟨p, xs, rfl, h3, fun l hl => g.lst e h4 hl⟩
 ·cases h
def zz : List D → Option Rv
 | [d] => match items d with
  | some ds => some (.dat (.tup ds))
  | none => none
 | _ => none
theorem ok_tuple : RCOk K (rTupP K) zz := by
 intro C H e ds vs rv Q h hs g
 unfold zz at h
 split at h
 ·obtain ⟨v, r, rfl, h1, h2⟩ := pks1 hs
  cases pks0 h2
  rename_i d
  cases d with
  | tup es =>
   cases h
   have h10 := h1
   obtain ⟨p, xs, rfl, h3, h4⟩ := wax e h1
   exact ⟨p, xs, rfl, .inr ⟨h3, g.same e h10⟩⟩
  | lst es =>
   cases h
   obtain ⟨p, xs, rfl, h3, h4⟩ := h1
   exact ⟨p, xs, rfl, .inl ⟨SqL.of h3, fun l o hl hd => g.tup e h4 hl hd⟩⟩
  | ro es =>
   cases h
   obtain ⟨p, xs, rfl, h3, h4⟩ := pk_ro e h1
   exact ⟨p, xs, rfl, .inl ⟨h3, fun l o hl hd => g.tup e h4 hl hd⟩⟩
  | s x => cases h
  | obj c fs => cases h
  | lam f c zs ks => cases h
  | dic kvs => cases h
  | exc c b fs => cases h
  | lab a d => cases h
 ·cases h
def intD : List D → Option Rv
 | [.s (.str a)] => if a.length ≤ 640 then (match PySem.intText? a with
  | some n => some (rvI n)
  | none => none) else none
 | [.s (.bl k)] => some (rvI (if k then 1 else 0))
 | [.s (.int i)] => some (rvI i)
 | _ => none
def rIntX : List V → Hp → VK → Prop := fun xs H Q => (∃ a n, xs = [.str a] ∧ PySem.intText? a = some n ∧ a.length ≤ 640 ∧ Q (.int n) H) ∨ ((∃ i, xs = [.int i] ∧ Q (.int i) H) ∨ ∃ k, xs = [.bl k] ∧ Q (.int (if k then 1 else 0)) H)
theorem call_intX {X : Cx} : CallR X (.type "int") rIntX := call_int_str.or call_int1
theorem ok_int : RCOk K rIntX intD := by
 intro C H e ds vs rv Q h hs g
 unfold intD at h
 split at h
 ·obtain ⟨v, r, rfl, h1, h2⟩ := pks1 hs
  cases pks0 h2
  cases pk_s.mp h1
  rename_i a
  by_cases hz : a.length ≤ 640
  ·rw [if_pos hz] at h
   cases q : PySem.intText? a with
   | none => rw [q] at h; cases h
   | some n => rw [q] at h; cases h; exact .inl ⟨a, n, rfl, q, hz, g.d e⟩
  ·rw [if_neg hz] at h; cases h
 ·obtain ⟨v, r, rfl, h1, h2⟩ := pks1 hs
  cases pks0 h2
  cases pk_s.mp h1
  cases h
  exact .inr (.inr ⟨_, rfl, g.d e⟩)
 ·obtain ⟨v, r, rfl, h1, h2⟩ := pks1 hs
  cases pks0 h2
  cases pk_s.mp h1
  cases h
  exact .inr (.inl ⟨_, rfl, g.d e⟩)
 ·cases h
def vbg : List D → Option (List Bool)
 | [] => some []
 | .s (.bl b) :: ds => match vbg ds with
  | some bs => some (b :: bs)
  | none => none
 | _ => none
theorem vb2 : ∀ {ds : List D} {xs : List V} {bs : List Bool}, vbg ds = some bs → Iss K C ds xs → xs = bs.map V.bl
 | [], xs, bs, h, i => by rw [iss_nil_iff.mp i]; cases h; rfl
 | d :: ds, xs, bs, h, i => by
  obtain ⟨x, r, rfl, h2, h3⟩ := iss_cons_iff.mp i
  cases d with
  | s y =>
   cases y with
   | bl b =>
    cases is_s_iff.mp h2
    simp only [vbg] at h
    cases q : vbg ds with
    | none => rw [q] at h; cases h
    | some cs =>
     rw [q] at h; cases h
     rw [vb2 q h3]
     rfl
   | _ => cases h
  | _ => cases h
def strL : List D → Option (List Str)
 | [] => some []
 | .s (.str b) :: ds => match strL ds with
  | some bs => some (b :: bs)
  | none => none
 | _ => none
theorem strL_iss : ∀ {ds : List D} {xs : List V} {bs : List Str}, strL ds = some bs → Iss K C ds xs → xs = bs.map V.str
 | [], xs, bs, h, i => by rw [iss_nil_iff.mp i]; cases h; rfl
 | d :: ds, xs, bs, h, i => by
  obtain ⟨x, r, rfl, h2, h3⟩ := iss_cons_iff.mp i
  cases d with
  | s y =>
   cases y with
   | str b =>
    cases is_s_iff.mp h2
    simp only [strL] at h
    cases q : strL ds with
    | none => rw [q] at h; cases h
    | some cs =>
     rw [q] at h; cases h
     rw [strL_iss q h3]
     rfl
   | _ => cases h
  | _ => cases h
def allD : List D → Option Rv
 | [.lst ds] => match vbg ds with
  | some bs => some (rvB (bs.all id))
  | none => none
 | _ => none
def anyD : List D → Option Rv
 | [.lst ds] => match vbg ds with
  | some bs => some (rvB (bs.any id))
  | none => none
 | _ => none
theorem ok_all : RCOk K (rAll K) allD := by
 intro C H e ds vs rv Q h hs g
 unfold allD at h
 split at h
 ·obtain ⟨v, r, rfl, h1, h2⟩ := pks1 hs
  cases pks0 h2
  rename_i es
  cases q : vbg es with
  | none => rw [q] at h; cases h
  | some bs =>
   rw [q] at h; cases h
   obtain ⟨a, xs, rfl, h3, h4⟩ := h1
   cases vb2 q h4
   exact ⟨a, bs, rfl, SqL.of h3, g.d e⟩
 ·cases h
structure IsiCls (K : PySem.W.Frag) (C : Addr) : Prop where
 cl : Cls K C
 ha : PySem.W.findIn K (.ref C) "__class__" = some (some (.builtin "object.__class__"))
 hn : PySem.W.specialIn K (.builtin "object.__class__") "__get__" = some (some (.builtin "getset_descriptor.__get__"))
 htk : PySem.W.takesIn K (.builtin "object.__class__") = some true
 hm : PySem.W.mroIn K C (.type "object") = some true
inductive TyY (K : PySem.W.Frag) (H : Hp) : V → Value → Prop where
 | x {v : V} {t : Value} (h : TyX K H v t) : TyY K H v t
 | e {a c : Addr} {d : Option Addr} (h : H a = some (.ext (ExO a c d))) (hd : d = none ∨ ∃ p gs, d = some p ∧ H p = some (.xd gs)) (k : ExcC K c) : TyY K H (.ref a) (.ref c)
theorem kitY {X : Cx} {pins : List (Addr × Obj)} {σ : St} {H : Hp} {s : Shared} {v : V} {u t : Value} (I : Inv X pins σ H s) (r : RelV v u) (y : TyY X.K H v t) : ∃ φ : Heap → Prop, PySem.W.KitX X.K u t φ ∧ φ s.heap ∧ u ≠ .builtin "__main__.__loader__#opaque" := by
 cases y with
 | x h => exact kit_of I r h
 | @e a c d h hd k =>
  cases (show u = Value.ref a from r)
  obtain ⟨⟨o, vs, h1, h2, h3⟩, _⟩ := I.hok _ _ h
  obtain ⟨cd, hc, _⟩ := PySem.W.any_some k.hd
  have isC : (PySem.W.clsIn X.K c).isSome = true := by rw [hc]; rfl
  have nc : PySem.W.notCls o := by unfold PySem.W.notCls; rw [h3]
  rcases hd with rfl | ⟨p, gs, rfl, h4⟩
  ·exact ⟨_, PySem.W.kitx_exc (od := none) isC k.hg k.hk k.hs k.ha k.hn k.ht k.hm, ⟨h1, h2.1, nc, by rw [h2.2]; trivial⟩, fun z => nomatch z⟩
  ·obtain ⟨mA, hns, _⟩ := I.hok _ _ h4
   obtain ⟨od, ho, _⟩ := lookIn_ns hns
   exact ⟨_, PySem.W.kitx_exc (od := some od) isC k.hg k.hk k.hs k.ha k.hn k.ht k.hm, ⟨h1, h2.1, nc, by rw [h2.2]; exact ho⟩, fun z => nomatch z⟩
def rIsY (K : PySem.W.Frag) : List V → Hp → VK → Prop := fun xs H Q => ∃ (t : Value) (b : Bool), (∃ (x c : V) (u : Value), xs = [x, c] ∧ ClsV c u ∧ TyY K H x t ∧ PySem.W.kitOne K t u = some b ∧ Q (.bl b) H) ∨
 ∃ (x : V) (tp : Addr) (cs : List V) (us : List Value), xs = [x, .ref tp] ∧ SqT K H tp cs ∧ Paired ClsV cs us ∧ TyY K H x t ∧ PySem.W.kitAny K t us = some b ∧ Q (.bl b) H
theorem call_isY {X : Cx} : CallR X (.builtin "isinstance") (rIsY X.K) := by
 intro pins s σ H xs us Q I r h
 obtain ⟨t, b, ⟨x, c, u, rfl, k, y, e, q⟩ | ⟨x, tp, cs, ws, rfl, hT, k, y, e, q⟩⟩ := h
 ·obtain ⟨a1, a2, rfl, r1, r2⟩ := vals2 r
  cases k.eq r2
  obtain ⟨φ, Z, p, n⟩ := kitY I r1 y
  exact PySem.W.kia_one Z I.kIn p e n fun tk =>
   ⟨.bl b, H, I.tok tk, rfl, q⟩
 ·obtain ⟨a1, a2, rfl, r1, r2⟩ := vals2 r
  cases (show a2 = Value.ref tp from r2)
  obtain ⟨φ, Z, p, n⟩ := kitY I r1 y
  obtain ⟨its, rv, pl, hz⟩ := I.tuple hT
  cases ClsV.all k rv
  obtain ⟨⟨oc, od, oda, osl⟩, ho, hc, n', hs⟩ := pl
  dsimp only at hc hs
  subst hc hs
  exact PySem.W.kia_tup Z I.kIn p ho e n fun tk =>
   ⟨.bl b, H, I.tok tk, rfl, q⟩
def tyD : D → Option Value
 | .s .non => some (.type "NoneType")
 | .s (.bl _) => some (.type "bool")
 | .s (.int _) => some (.type "int")
 | .s (.str _) => some (.type "str")
 | .s _ => none
 | .tup _ => some (.type "tuple")
 | .lst _ => some (.type "list")
 | .ro _ => some (.type "list")
 | .obj c _ => some (.ref c)
 | .lam _ _ _ _ => none
 | .dic _ => some (.type "dict")
 | .exc c _ _ => some (.ref c)
 | .lab _ _ => none
def clsD : D → Option Value
 | .s (.ty n) => some (.type n)
 | .s (.ref c) => some (.ref c)
 | _ => none
def jbg (cs : List Addr) : D → Bool
 | .obj a _ => cs.contains a
 | _ => true
def isiB (K : PySem.W.Frag) (cs : List Addr) (x c : D) : Option Bool := match tyD x with
 | none => none
 | some t => match clsD c with
  | none => none
  | some u => if jbg cs x = true then PySem.W.kitOne K t u else none
def clsL : List D → Option (List Value)
 | [] => some []
 | d :: ds => match clsD d, clsL ds with
  | some u, some us => some (u :: us)
  | _, _ => none
def isiT (K : PySem.W.Frag) (cs : List Addr) (x : D) (ds : List D) : Option Bool := match tyD x, clsL ds with
 | some t, some us => if jbg cs x = true then PySem.W.kitAny K t us else none
 | _, _ => none
def isiD (K : PySem.W.Frag) (cs : List Addr) : List D → Option Rv
 | [x, .tup ds] => match isiT K cs x ds with
  | some b => some (rvB b)
  | none => none
 | [x, c] => match isiB K cs x c with
  | some b => some (rvB b)
  | none => none
 | _ => none
theorem tyD_ok {cs : List Addr} (hcs : ∀ c, cs.contains c = true → IsiCls K c) (e : Ex C H) {d : D} {v : V} {t : Value} (h : tyD d = some t) (i : Pk K C H d v) (hc : jbg cs d = true) : TyY K H v t := by
 cases d with
 | s x =>
  cases pk_s.mp i
  cases v with
  | non => cases h; exact .x <| .base .non
  | bl b => cases h; exact .x <| .base (.bl b)
  | int b => cases h; exact .x <| .base (.int b)
  | str b => cases h; exact .x <| .base (.str b)
  | _ => cases h
 | tup ds =>
  cases h
  obtain ⟨a, xs, rfl, h1, h2⟩ := wax e i
  rcases h1 with (h1 | ⟨o, h1⟩) | ⟨o, its, n, h1, h3, _⟩
  ·exact .x <| .base (.tup h1)
  ·exact .x (.fTuple h1)
  ·exact .x (.kTuple h1 h3)
 | lst ds =>
  cases h
  obtain ⟨a, xs, rfl, h1, h2⟩ := i
  exact .x <| .base (.lst h1)
 | ro ds =>
  cases h
  obtain ⟨a, xs, rfl, h1, h2⟩ := pk_ro e i
  rcases h1 with (h1 | ⟨o, h1⟩) | ⟨o, its, n, h1, h3, _⟩
  ·exact .x <| .base (.lst h1)
  ·exact .x <| .base (.frz h1)
  ·exact .x (.kList h1 h3)
 | obj c fs =>
  cases h
  obtain ⟨a, dx, gs, rfl, h1, h2⟩ := pk_obj e i
  have k := hcs c hc
  exact .x <| .base (.ins h1 k.cl k.ha k.hn k.htk k.hm)
 | lam f c zs ks => cases h
 | dic kvs =>
  cases h
  obtain ⟨a, o, xs, rfl, h1, _⟩ := is_dic_iff.mp i
  exact .x (.fDict (e.1 _ _ h1 nt_frz))
 | exc c b fs =>
  cases h
  obtain ⟨k, a, d, gs, rfl, h1, h2, _⟩ := is_exc_iff.mp i
  refine .e (e.1 _ _ h1 (fun ps z => by cases z)) ?_ k
  rcases h2 with ⟨_, h2⟩ | ⟨p, _, h2, h3⟩
  ·exact .inl h2
  ·exact .inr ⟨p, gs, h2, e.1 _ _ h3 nt_xd⟩
 | lab a d => cases h
theorem clsD_ok {c : D} {v : V} {u : Value} (h : clsD c = some u) (i : Is K C c v) : ClsV v u := by
 cases c with
 | s y =>
  cases is_s_iff.mp i
  cases v with
  | ty n => cases h; exact .ty n
  | ref a => cases h; exact .own a
  | _ => cases h
 | _ => cases h
theorem clsL_ok : ∀ {ds : List D} {vs : List V} {us : List Value}, clsL ds = some us → Iss K C ds vs → Paired ClsV vs us
 | [], vs, us, h, i => by cases h; rw [iss_nil_iff.mp i]; exact .nil
 | d :: ds, vs, us, h, i => by
  obtain ⟨x, r, rfl, i1, i2⟩ := iss_cons_iff.mp i
  simp only [clsL] at h
  cases q1 : clsD d with
  | none => rw [q1] at h; cases h
  | some u =>
   cases q2 : clsL ds with
   | none => rw [q1, q2] at h; cases h
   | some ws =>
    rw [q1, q2] at h
    cases h
    exact .cons (clsD_ok q1 i1) (clsL_ok q2 i2)
theorem ok_isi {cs : List Addr} (hcs : ∀ c, cs.contains c = true → IsiCls K c) : RCOk K (rIsY K) (isiD K cs) := by
 intro C H e ds vs rv Q h hs g
 unfold isiD at h
 split at h
 ·rename_i x ds
  obtain ⟨v, r, rfl, h1, h2⟩ := pks1 hs
  obtain ⟨v2, r2, rfl, h3, h4⟩ := pks1 h2
  cases pks0 h4
  cases q : isiT K cs x ds with
  | none => rw [q] at h; cases h
  | some b =>
   rw [q] at h; cases h
   unfold isiT at q
   cases q1 : tyD x with
   | none => rw [q1] at q; cases q
   | some t =>
    cases q2 : clsL ds with
    | none => rw [q1, q2] at q; cases q
    | some us =>
     rw [q1, q2] at q
     dsimp only at q
     by_cases hc : jbg cs x = true
     ·rw [if_pos hc] at q
      obtain ⟨tp, ys, rfl, k1, k2⟩ := wax e h3
      exact ⟨t, b, .inr ⟨v, tp, ys, us, rfl, k1, clsL_ok q2 k2, tyD_ok hcs e q1 h1 hc, q, g.d e⟩⟩
     ·rw [if_neg hc] at q; cases q
 ·rename_i x c _
  obtain ⟨v, r, rfl, h1, h2⟩ := pks1 hs
  obtain ⟨v2, r2, rfl, h3, h4⟩ := pks1 h2
  cases pks0 h4
  cases q : isiB K cs x c with
  | none => rw [q] at h; cases h
  | some b =>
   rw [q] at h; cases h
   unfold isiB at q
   cases q1 : tyD x with
   | none => rw [q1] at q; cases q
   | some t =>
    cases q2 : clsD c with
    | none => rw [q1, q2] at q; cases q
    | some u =>
     rw [q1, q2] at q
     dsimp only at q
     by_cases hc : jbg cs x = true
     ·rw [if_pos hc] at q
      refine ⟨t, b, .inl ⟨v, v2, u, rfl, ?_, tyD_ok hcs e q1 h1 hc, q, g.d e⟩⟩
      cases c with
      | s y =>
       cases pk_s.mp h3
       cases v2 with
       | ty n => cases q2; exact .ty n
       | ref a => cases q2; exact .own a
       | _ => cases q2
      | _ => cases q2
     ·rw [if_neg hc] at q; cases q
 ·cases h
def fM1 (op : Str → D → Option Rv) (fo fe : P Rv) : P Rv := fo.bind fun ro => pk1 ro fun d => match d with
 | .s (.str a) => fe.bind fun re => pk1 re fun x => P.of (op a x)
 | _ => P.fail
def RM1 (K : PySem.W.Frag) (r : V → List V → Hp → VK → Prop) (op : Str → D → Option Rv) : Prop :=
 ∀ C H, Ex C H → ∀ a d x rv Q, op a d = some rv → Pk K C H d x → Giv K C H rv Q → r (.str a) [x] H Q
theorem sd_m1 {W : WX} {r : V → List V → Hp → VK → Prop} {op : Str → D → Option Rv} {to te : TE} {fo fe : P Rv} (hr : RM1 K r op) (ho : Sd K W (VRel K) to fo) (he : Sd K W (VRel K) te fe) : Sd K W (VRel K) (tM1 r to te) (fM1 op fo fe) := by
 intro σ C H ρ e
 show At K W (VRel K H) σ C H ρ (fun H Q => to σ H fun x H1 => (∃ a, x = .str a) ∧ te σ H1 fun y H2 => r x [y] H2 Q) (yg (fo ρ) fun ro => pk1 ro fun d => match d with
  | .s (.str a) => fe.bind fun re => pk1 re fun x => P.of (op a x)
  | _ => P.fail)
 refine At.bind (tk := fun (x : V) (H1 : Hp) (Q : VK) => (∃ a, x = .str a) ∧ te σ H1 fun y H2 => r x [y] H2 Q) (ho σ C H ρ e) fun ro ρ1 x C1 H1 p1 r1 => ?_
 refine At.pk1 fun d q1 => ?_
 cases d with
 | s z =>
  cases z with
  | str a =>
   have ex : x = .str a := pk_s.mp (xm p1.env r1 q1)
   subst ex
   refine At.imp (t := fun H1 Q => te σ H1 fun y H2 => r (.str a) [y] H2 Q) ?_ fun Q h => ⟨⟨a, rfl⟩, h⟩
   refine At.bind (tk := fun (y : V) (H2 : Hp) (Q : VK) => r (.str a) [y] H2 Q) (he σ C1 H1 ρ1 p1.env) fun re ρ2 y C2 H2 p2 r2 => ?_
   refine At.pk1 fun dx q2 => At.pof fun rv q3 => ?_
   exact At.giv p2.env (fun b h => p1.step.dom b (p2.step.dom b h)) fun Q g => hr C2 H2 p2.env.ext a dx y rv Q q3 (xm p2.env r2 q2) g
  | _ => exact At.nil
 | _ => exact At.nil
def joinD (a : Str) (d : D) : Option Rv := match items d with
 | none => none
 | some ds => match strL ds with
  | none => none
  | some ys => if (ys.map (·.length)).sum + ys.length * a.length ≤ 16777216 then some (rvS (Txt.join a ys)) else none
theorem ok_join : RM1 K (fun x xs H Q => ∃ a p, ∃ ys : List Str, x = .str a ∧ xs = [.ref p] ∧ (SqL K H p (ys.map V.str) ∨ SqT K H p (ys.map V.str)) ∧ (ys.map (·.length)).sum + ys.length * a.length ≤ 16777216 ∧ Q (.str (Txt.join a ys)) H) joinD := by
 intro C H e a d x rv Q h hx g
 unfold joinD at h
 cases q1 : items d with
 | none => rw [q1] at h; cases h
 | some ds =>
  rw [q1] at h
  dsimp only at h
  cases q2 : strL ds with
  | none => rw [q2] at h; cases h
  | some ys =>
   rw [q2] at h
   obtain ⟨h1, rfl⟩ := we h
   obtain ⟨p, xs, rfl, h3, h4⟩ := xag e q1 hx
   cases strL_iss q2 h4
   exact ⟨a, p, ys, rfl, rfl, h3, h1, g.d e⟩
def wbw (a : Str) : D → Option Rv
 | .s (.str b) => if a.length ≤ sizeLine then some (rvS (Txt.stripChars a b)) else none
 | _ => none
theorem ok_strip : RM1 K (fun x xs H Q => ∃ a b, x = .str a ∧ xs = [.str b] ∧ a.length ≤ sizeLine ∧ Q (.str (Txt.stripChars a b)) H) wbw := by
 intro C H e a d x rv Q h hx g
 unfold wbw at h
 split at h
 ·cases pk_s.mp hx
  obtain ⟨h1, rfl⟩ := we h
  exact ⟨a, _, rfl, rfl, h1, g.d e⟩
 ·cases h
def startsD (a : Str) : D → Option Rv
 | .s (.str b) => some (rvB (Txt.startswith a b))
 | _ => none
def endsD (a : Str) : D → Option Rv
 | .s (.str b) => some (rvB (Txt.endswith a b))
 | _ => none
end
end PL
namespace PySem
open Sem (wp)
open AutoSeq1 (wpAny_loadPart')
theorem wpAny_pyNext_enum_endT {prog : Program} {w : World} {A : Around} {E : Value → Shared → Prop} {s : Shared} {e it l : Addr} {i : Nat} {items : Array Value} {old : Value} {Q : Option Value → Shared → Prop} (hh : A.handled = none) (he : IsEnum s.heap e it i old) (hit : s.heap.IsTupleIter it l i) (hl : s.heap.IsTuple l items) (hx : items[i]? = none)
  (hQ : ∀ h', Heap.ExtBut it s.heap h' → Q none { s with heap := h' }) : wpAny (model prog w) A (pyNext (.ref e)) Q E s := by
 have ty : s.TypeIs (.ref e) "enumerate" := ⟨_, he, rfl⟩
 unfold pyNext
 refine wpAny_bind (wpAny_attempt (wpAny_callSpecial?_slot (name := Str.ofString "__next__") ty F.slot_enumerate_next (wpAny_call_entry F.slot_enumerate_next ty F.entry_enumerate_next ?_ (F.args_enumerate_next_1 _))))
 show wpAny _ _ (field (.ref e) 2 >>= _) _ _ _
 refine wpAny_bind (wpAny_field he rfl (x := .ref it) rfl (wpAny_bind (wpAny_nextOf_tuple_end hh hit hl hx fun h' x k1 k2 => ?_)))
 obtain ⟨o, ho, hc⟩ := k2
 exact wpAny_bind (wpAny_isInstance (T := "StopIteration") (b := true) ⟨o, ho, hc⟩ isSubtype_stop (wpAny_pure (hQ _ k1)))
end PySem
namespace PL
open PySem PySem.Spec PyProof.Rows L2
def Sq (t : Bool) (K : PySem.W.Frag) (H : Hp) (a : Addr) (xs : List V) : Prop := match t with
 | true => SqL K H a xs
 | false => SqT K H a xs
theorem ex_q {t : Bool} {K : PySem.W.Frag} {H H' : Hp} {a : Addr} {xs : List V} (e : Ex H H') (h : Sq t K H a xs) : Sq t K H' a xs := by
 cases t with
 | true => exact ex_l e h
 | false => exact ex_t e h
def ItA (t : Bool) (h : Heap) (it l : Addr) (k : Nat) : Prop := match t with
 | true => h.IsListIter it l k
 | false => h.IsTupleIter it l k
def Src (t : Bool) (h : Heap) (it l : Addr) (k : Nat) (xs : Array Value) : Prop := match t with
 | true => h.IsListIter it l k ∧ h.IsList l xs
 | false => h.IsTupleIter it l k ∧ h.IsTuple l xs
theorem ItA.mv {t : Bool} {h h' : Heap} {it l : Addr} {k : Nat} (q : ItA t h it l k) (e1 : ∀ o, h.get? it = some o → h'.get? it = some o) : ItA t h' it l k := by
 cases t with
 | true => exact Heap.IsListIter.at q e1
 | false => exact Heap.IsTupleIter.at q e1
theorem ItA.obj {t : Bool} {h : Heap} {it l : Addr} {k : Nat} (q : ItA t h it l k) : ∃ o, h.get? it = some o ∧ ∀ v, o.data ≠ .cell v := by
 cases t with
 | true =>
  obtain ⟨o, h1, _, d⟩ := q
  exact ⟨o, h1, fun v e => by rw [d] at e; cases e⟩
 | false =>
  obtain ⟨o, h1, _, d⟩ := q
  exact ⟨o, h1, fun v e => by rw [d] at e; cases e⟩
theorem ItA.lt {t : Bool} {h : Heap} {it l : Addr} {k : Nat} (q : ItA t h it l k) : it < h.objs.size := by
 obtain ⟨o, e, _⟩ := q.obj
 exact Heap.lt_size e
theorem Src.it {t : Bool} {h : Heap} {it l : Addr} {k : Nat} {xs : Array Value} (q : Src t h it l k xs) : ItA t h it l k := by
 cases t with
 | true => exact q.1
 | false => exact q.1
section
variable {X : Cx} {pins : List (Addr × Obj)} {σ : L2.St} {H : Hp} {s : Shared} {t : Bool} {a : Addr} {xs ys : List V}
theorem sq_inv (I : Inv X pins σ H s) (h : Sq t X.K H a xs) : ∃ its : List Value, Vals xs its ∧ a < s.heap.objs.size ∧ ∀ it k, ItA t s.heap it a k → Src t s.heap it a k its.toArray := by
 cases t with
 | true =>
  obtain ⟨its, r, p, _⟩ := I.list h
  exact ⟨its, r, p.lt, fun it k q => ⟨q, p.isList⟩⟩
 | false =>
  obtain ⟨its, r, p, _⟩ := I.tuple h
  obtain ⟨o, ho, _⟩ := id p
  exact ⟨its, r, Heap.lt_size ho, fun it k q => ⟨q, p⟩⟩
theorem sq_inj (I : Inv X pins σ H s) (h : Sq t X.K H a xs) (h' : Sq t X.K H a ys) : xs = ys := by
 cases t with
 | true => exact I.list_inj h h'
 | false => exact I.tuple_inj h h'
end
theorem src_draws {prog : Program} {w : World} {A : Around} (t : Bool) (hh : A.handled = none) (it l : Addr) (hne : l ≠ it) (items : Array Value) :
  Draws prog w A it [it, l] items.size (fun i v => items[i]? = some v) (fun i h => Src t h it l i items) := by
 cases t with
 | true => exact Draws.list hh it l hne items
 | false => exact Draws.tuple hh it l hne items
theorem zbx {prog : Program} {w : World} {A : Around} {E : Value → Shared → Prop} {s : Shared} {t : Bool} {e it l : Addr} {i : Nat} {items : Array Value} {old : Value} {Q : Option Value → Shared → Prop} (hh : A.handled = none) (he : IsEnum s.heap e it i old) (q : Src t s.heap it l i items) (hx : items[i]? = none)
  (hQ : ∀ h', Heap.ExtBut it s.heap h' → Q none { s with heap := h' }) : wpAny (model prog w) A (pyNext (.ref e)) Q E s := by
 cases t with
 | true => exact wpAny_pyNext_enum_end hh he q.1 q.2 hx hQ
 | false => exact PySem.wpAny_pyNext_enum_endT hh he q.1 q.2 hx hQ
def IteP (t : Bool) (K : PySem.W.Frag) (a : Addr) : It :=
 ⟨fun i H => ∃ (xs : List V) (x : V), Sq t K H a xs ∧ xs[i]? = some x, fun i H v H' => ∃ (T : Addr) (x : V) (o : Obj), v = .ref T ∧ H T = none ∧ o.dict = none ∧ H' = upd H T (.frz o (.tup [.int (i : Nat), x])) ∧ ∀ xs, Sq t K H a xs → xs[i]? = some x, fun i H => ∃ xs : List V, Sq t K H a xs ∧ xs.length ≤ i⟩
theorem jbh {P : Program} {w : World} {K : PySem.W.Frag} {elts : List Expr} {kk : Nat} {tpos : Pos} (t : Bool) (a e it : Addr) :
  Turn P w K (.Tuple elts kk tpos) (IteP t K a) [e, it] e (fun i h => (∃ old, IsEnum h e it ((i : Nat) : Int) old) ∧ ItA t h it a i ∧ e ≠ it ∧ a ≠ it ∧ e ≠ a) where
 mem := by simp
 obj := fun i h st b hb => by
  obtain ⟨⟨old, he⟩, hi, _⟩ := st
  have z : b = e ∨ b = it := by simpa using hb
  rcases z with z | z
  ·subst z; exact ⟨_, he, fun v q => nomatch q⟩
  ·subst z; exact hi.obj
 keep := fun i h h' st k => by
  obtain ⟨⟨old, he⟩, hi, hne⟩ := st
  exact ⟨⟨old, k e (by simp) _ he⟩, hi.mv fun o q => k it (by simp) _ q, hne⟩
 item := by
  intro X hP hw hK hc i pins s σ H E I hf st hg
  subst hP hw hK
  obtain ⟨⟨old, he⟩, hit, hne, hai, hea⟩ := st
  obtain ⟨xs, x, hq, hx⟩ := hg
  obtain ⟨its, rv, hal, p⟩ := sq_inv I hq
  obtain ⟨u, hu, ru⟩ := rv.get hx
  have hel : e < s.heap.objs.size := Heap.lt_size he
  have hil : it < s.heap.objs.size := hit.lt
  refine wpAny_pyNext_enum_itemD (src_draws t (show X.A.in1.handled = none from I.ok.hd hc) it a hai its.toArray) he (p _ _ hit) (by rw [List.size_toArray]; exact (List.getElem?_eq_some_iff.mp hu).1) hne (by simp; exact ⟨hne, hea⟩) fun x2 h' tk hx2 ho hit' hT hsz hk => ?_
  have ex : x2 = u := by
   have hx2 : its.toArray[i]? = some x2 := hx2
   rw [List.getElem?_toArray, hu] at hx2
   exact (Option.some.inj hx2).symm
  subst ex
  refine ⟨_, rfl, wpAny_letOwnedTupleGo_enum (s := { s with heap := h', toks := tk + 1 }) ho fun h'' he' sb => ?_⟩
  have hT2 : h''.get? s.heap.objs.size = some { cls := .type "tuple", data := .seq #[.int i tk, x2] } := (sb.2 _ (Nat.ne_of_gt hel)).trans hT
  have I1 := I.turnedNew (T := s.heap.objs.size) (ob := .frz { cls := .type "tuple", data := .seq #[.int i tk, x2] } (.tup [.int (i : Nat), x])) (t' := tk + 1) (h' := h'') (ch := [e, it])
   (fun b ob hb q => (sb.2 b (fun z => hb (by simp [z]))).trans (hk b ob (fun z => hb (by simp [z])) (fun z => hb (by simp [z])) q)) hf (Nat.le_refl _)
   ⟨hT2, by show 2 ≤ sizeLine; decide, [.int i tk, x2], .cons ⟨_, rfl⟩ (.cons ru .nil), ⟨_, hT2, rfl, _, rfl⟩⟩
  refine ⟨.ref s.heap.objs.size, _, I1, rfl, ⟨_, x, _, rfl, I.hok.fresh (Nat.le_refl _), rfl, rfl, fun ys hy => by rw [sq_inj I hy hq]; exact hx⟩, ⟨⟨x2, ?_⟩, hit'.it.mv fun o q => (sb.2 it (Ne.symm hne)).trans q, hne, hai, hea⟩, fun b hb => ?_⟩
  ·have e1 : ((i + 1 : Nat) : Int) = (i : Int) + 1 := by omega
   rw [e1]; exact he'
  ·have hb' : b < s.heap.objs.size := by
    have z : b = e ∨ b = it := by simpa using hb
    rcases z with z | z <;> subst z
    ·exact hel
    ·exact hil
   rw [upd_ne (Nat.ne_of_lt hb')]
   exact (hf b hb).1
 done := by
  intro X hP hw hK hc i pins s σ H E I hf st hg
  subst hP hw hK
  obtain ⟨⟨old, he⟩, hit, hne, hai, hea⟩ := st
  obtain ⟨xs, hq, hx⟩ := hg
  obtain ⟨its, rv, _, p⟩ := sq_inv I hq
  obtain ⟨f0, f1, f2, f3, f4, f5⟩ := hf it (by simp)
  have hl := rv.length
  exact zbx (I.ok.hd hc) he (p _ _ hit) (by simp; omega) fun h' eb => ⟨rfl, I.turned (t' := s.toks) (fun b o hb q => eb b o hb q) f0 f1 f3 f4 f5⟩
 self := fun A i s Q E st h => let ⟨⟨_, he⟩, _⟩ := st; wpAny_pyIter_enum he h
end PL
namespace PL
open PySem PySem.Spec PyProof.Rows L2
theorem Src.mv {t : Bool} {h h' : Heap} {it l : Addr} {k : Nat} {xs : Array Value} (q : Src t h it l k xs) (e1 : ∀ o, h.get? it = some o → h'.get? it = some o) (e2 : ∀ o, h.get? l = some o → h'.get? l = some o) : Src t h' it l k xs := by
 cases t with
 | true => exact ⟨q.1.at e1, q.2.at e2⟩
 | false => exact ⟨q.1.at e1, q.2.at e2⟩
theorem Src.lt {t : Bool} {h : Heap} {it l : Addr} {k : Nat} {xs : Array Value} (q : Src t h it l k xs) : it < h.objs.size := by
 cases t with
 | true => obtain ⟨⟨_, a, _⟩, _⟩ := q; exact Heap.lt_size a
 | false => obtain ⟨⟨_, a, _⟩, _⟩ := q; exact Heap.lt_size a
end PL
namespace PL
open PySem L2
inductive Fl where
 | next
 | ret (r : Rv)
 | brk
 | cont
structure PostS (K : PySem.W.Frag) (fx : List Nat) (σ : Sl) (C H : Hp) (ρ : En) (σ' : Sl) (C' H' : Hp) (ρ' : En) : Prop where
 step : Step C H C' H' (kf σ ρ)
 own : ∀ a, kf σ' ρ' a → kf σ ρ a ∨ H a = none
 env : EnvOk K C' H' σ' ρ'
 fix : ∀ i ∈ fx, σ'[i]? = σ[i]?
 len : σ'.length = σ.length
section
variable {K : PySem.W.Frag} {fx : List Nat} {σ σ1 σ2 : Sl} {C H C1 H1 C2 H2 : Hp} {ρ ρ1 ρ2 : En}
theorem PostS.refl (e : EnvOk K C H σ ρ) : PostS K fx σ C H ρ σ C H ρ := ⟨Step.refl e.ext, fun _ h => .inl h, e, fun _ _ => rfl, rfl⟩
theorem PostS.of (p : Post K σ C H ρ C1 H1 ρ1) : PostS K fx σ C H ρ σ C1 H1 ρ1 := ⟨p.step, fun a h => .inl (p.own a h), p.env, fun _ _ => rfl, rfl⟩
theorem PostS.trans (a : PostS K fx σ C H ρ σ1 C1 H1 ρ1) (b : PostS K fx σ1 C1 H1 ρ1 σ2 C2 H2 ρ2) : PostS K fx σ C H ρ σ2 C2 H2 ρ2 := by
 refine ⟨a.step.trans b.step a.own, fun x h => ?_, b.env, fun i h => (b.fix i h).trans (a.fix i h), b.len.trans a.len⟩
 rcases b.own x h with z | z
 ·exact a.own x z
 ·exact .inr (a.step.dom x z)
end
def Met (K : PySem.W.Frag) (W : WX) (fx : List Nat) (σ : Sl) (C H : Hp) (ρ : En) (D : Ends) : Out Fl → Prop
 | .ok .next ρ' => ∀ σ' C' H', PostS K fx σ C H ρ σ' C' H' ρ' → D.nx σ' H'
 | .ok (.ret r) ρ' => ∀ v σ' C' H', PostS K fx σ C H ρ σ' C' H' ρ' → VOk K H C' H' σ' ρ' v r → D.rt v H'
 | .ok .brk ρ' => ∀ σ' C' H', PostS K fx σ C H ρ σ' C' H' ρ' → D.bk σ' H'
 | .ok .cont ρ' => ∀ σ' C' H', PostS K fx σ C H ρ σ' C' H' ρ' → D.ct σ' H'
 | .ex e ρ' => ∀ d σ' C' H', PostS K fx σ C H ρ σ' C' H' ρ' → ExnOk K C' e d → W (.ref e.c) d σ' H'
def SdS (K : PySem.W.Frag) (W : WX) (fx : List Nat) (ts : TS) (g : P Fl) : Prop :=
 ∀ σ C H ρ out D, EnvOk K C H σ ρ → g ρ = some out → Met K W fx σ C H ρ D out → ts D σ H
theorem Met.later {K : PySem.W.Frag} {W : WX} {fx : List Nat} {σ σ1 : Sl} {C H C1 H1 : Hp} {ρ ρ1 : En} {D : Ends} {out : Out Fl} (p : PostS K fx σ C H ρ σ1 C1 H1 ρ1) (m : Met K W fx σ C H ρ D out) : Met K W fx σ1 C1 H1 ρ1 D out := by
 cases out with
 | ok f ρ' =>
  cases f with
  | next => exact fun σ' C' H' q => m σ' C' H' (p.trans q)
  | ret r => exact fun v σ' C' H' q k => m v σ' C' H' (p.trans q) (k.back p.step.dom)
  | brk => exact fun σ' C' H' q => m σ' C' H' (p.trans q)
  | cont => exact fun σ' C' H' q => m σ' C' H' (p.trans q)
 | ex e ρ' => exact fun d σ' C' H' q k => m d σ' C' H' (p.trans q) k
def vf : P Fl := P.ret .next
def sSeq (g h : P Fl) : P Fl := g.bind fun f => match f with
 | .next => h
 | f => P.ret f
def sIf (c : P Bool) (g h : P Fl) : P Fl := c.bind fun b => if b = true then g else h
def sRet (f : P Rv) : P Fl := f.bind fun r => P.ret (.ret r)
def sRetN : P Fl := P.ret (.ret (.dat (.s .non)))
def ja1 (f : P Rv) : P Fl := f.bind fun _ => P.ret .next
def sBrk : P Fl := P.ret .brk
def sCont : P Fl := P.ret .cont
def putD (i : Nat) (d : D) : P Fl := fun ρ => if i < ρ.length then some (.ok .next (ρ.set i (.dat d))) else none
def sSet (i : Nat) (f : P Rv) : P Fl := (z9 f).bind fun d => putD i d
def putM (i : Nat) (r : Rv) : P Fl := fun ρ => match r with
 | .new m => if i < ρ.length then some (.ok .next (ρ.set i (.own m))) else none
 | _ => none
def xba (i : Nat) (f : P Rv) : P Fl := f.bind fun r => putM i r
section
variable {K : PySem.W.Frag} {W : WX} {fx : List Nat} {σ : Sl} {C H : Hp} {ρ : En}
theorem zt {α β : Type} {o : Option (Out α)} {k : α → P β} {out : Out β} (h : yg o k = some out) : (∃ e r, o = some (.ex e r) ∧ out = .ex e r) ∨ ∃ a r, o = some (.ok a r) ∧ k a r = some out := by
 cases o with
 | none => cases h
 | some x =>
  cases x with
  | ok a r => exact .inr ⟨a, r, rfl, h⟩
  | ex e r => exact .inl ⟨e, r, rfl, (Option.some.inj h).symm⟩
theorem z5 {α' α : Type} {R : Hp → Rel α' α} {t : Sl → Rd1 α'} {f : P α} {k : α → P Fl} {out : Out Fl} {D : Ends} {Q : α' → Hp → Prop} (hf : Sd K W R t f) (e : EnvOk K C H σ ρ) (h : (f.bind k) ρ = some out) (m : Met K W fx σ C H ρ D out)
  (hk : ∀ a ρ1 v C1 H1, Post K σ C H ρ C1 H1 ρ1 → R H C1 H1 σ ρ1 v a → k a ρ1 = some out → Q v H1) : t σ H Q := by
 rcases zt (show yg (f ρ) k = some out from h) with ⟨x, r, h1, rfl⟩ | ⟨a, r, h1, h2⟩
 ·refine hf σ C H ρ e _ Q h1 (fun a ρ' z => by cases z) fun x' ρ' z d C' H' p q => ?_
  cases z
  exact m d σ C' H' (PostS.of p) q
 ·refine hf σ C H ρ e _ Q h1 (fun a' ρ' z v C' H' p q => ?_) fun x' ρ' z => by cases z
  cases z
  exact hk a r v C' H' p q h2
end
section
variable {K : PySem.W.Frag} {W : WX} {fx : List Nat} {ta : TE} {tt : TT} {t u : TS} {f : P Rv} {c : P Bool} {g h : P Fl}
theorem ss_next : SdS K W fx tNext vf := fun σ C H ρ out D e ho m => by
 cases ho
 exact m σ C H (PostS.refl e)
theorem ss_seq (ht : SdS K W fx t g) (hu : SdS K W fx u h) : SdS K W fx (tSeq t u) (sSeq g h) := by
 intro σ C H ρ out D e ho m
 show t { D with nx := u D } σ H
 rcases zt (show yg (g ρ) _ = some out from ho) with ⟨x, r, h1, rfl⟩ | ⟨a, r, h1, h2⟩
 ·exact ht σ C H ρ _ _ e h1 m
 ·cases a with
  | next => exact ht σ C H ρ _ _ e h1 fun σ' C' H' p => hu σ' C' H' r out D p.env h2 (Met.later p m)
  | ret v => cases h2; exact ht σ C H ρ _ _ e h1 m
  | brk => cases h2; exact ht σ C H ρ _ _ e h1 m
  | cont => cases h2; exact ht σ C H ρ _ _ e h1 m
theorem ss_if (hc : Sd K W BRel tt c) (ht : SdS K W fx t g) (hu : SdS K W fx u h) : SdS K W fx (tIfS tt t u) (sIf c g h) := by
 intro σ C H ρ out D e ho m
 refine z5 (k := fun b => if b = true then g else h) hc e ho m fun b ρ1 v C1 H1 p r k => ?_
 have r : v = b := r
 subst r
 cases v with
 | true => exact ht σ C1 H1 ρ1 out D p.env k (Met.later (PostS.of p) m)
 | false => exact hu σ C1 H1 ρ1 out D p.env k (Met.later (PostS.of p) m)
theorem ss_ret (hf : Sd K W (VRel K) ta f) : SdS K W fx (tRet ta) (sRet f) := by
 intro σ C H ρ out D e ho m
 refine z5 (k := fun r => P.ret (.ret r)) hf e ho m fun r ρ1 v C1 H1 p q k => ?_
 cases k
 exact m v σ C1 H1 (PostS.of p) q
theorem ss_drop (hf : Sd K W (VRel K) ta f) : SdS K W fx (tDrop ta) (ja1 f) := by
 intro σ C H ρ out D e ho m
 refine z5 (k := fun _ => P.ret .next) hf e ho m fun r ρ1 v C1 H1 p q k => ?_
 cases k
 exact m σ C1 H1 (PostS.of p)
theorem jao {σ : Sl} {C H : Hp} {ρ : En} {i : Nat} {d : D} {v : V} (e : EnvOk K C H σ ρ) (hi : i ∉ fx) (hl : i < ρ.length) (h : Is K C d v) : PostS K fx σ C H ρ (σ.set i (some v)) C H (ρ.set i (.dat d)) := by
 have lσ : i < σ.length := by rw [e.len]; exact hl
 refine ⟨Step.refl e.ext, fun a ⟨j, m, h1, h2⟩ => .inl ?_, ⟨by rw [List.length_set, List.length_set]; exact e.len, e.ext, fun j c q => ?_, fun j k m n a h1 h2 h3 h4 => ?_, e.tab⟩, fun j hj => ?_, by rw [List.length_set]⟩
 ·by_cases hj : i = j
  ·subst hj; rw [List.getElem?_set_self hl] at h1; cases h1
  ·rw [List.getElem?_set_ne hj] at h1 h2; exact ⟨j, m, h1, h2⟩
 ·by_cases hj : i = j
  ·subst hj
   rw [List.getElem?_set_self hl] at q; cases q
   exact ⟨some v, List.getElem?_set_self lσ, v, rfl, h⟩
  ·rw [List.getElem?_set_ne hj] at q ⊢
   exact e.cell j c q
 ·by_cases hj : i = j
  ·subst hj; rw [List.getElem?_set_self hl] at h1; cases h1
  ·by_cases hk : i = k
   ·subst hk; rw [List.getElem?_set_self hl] at h2; cases h2
   ·rw [List.getElem?_set_ne hj] at h1 h3
    rw [List.getElem?_set_ne hk] at h2 h4
    exact e.inj j k m n a h1 h2 h3 h4
 ·exact List.getElem?_set_ne (fun z => hi (by rw [z]; exact hj))
theorem ss_set {i : Nat} (hi : i ∉ fx) (hf : Sd K W (VRel K) ta f) : SdS K W fx (tAsg ta (gName i)) (sSet i f) := by
 intro σ C H ρ out D e ho m
 refine z5 (k := fun d => putD i d) (xaa hf) e ho m fun d ρ1 v C1 H1 p q k => ?_
 show D.nx (σ.set i (some v)) H1
 unfold putD at k
 obtain ⟨hl, rfl⟩ := we k
 exact m _ _ _ ((PostS.of p).trans (jao p.env hi hl q))
theorem ss_setM {i : Nat} (hi : i ∉ fx) (hf : Sd K W (VRel K) ta f) : SdS K W fx (tAsg ta (gName i)) (xba i f) := by
 intro σ C H ρ out D e ho m
 refine z5 (k := fun r => putM i r) hf e ho m fun r ρ1 v C1 H1 p q k => ?_
 show D.nx (σ.set i (some v)) H1
 cases r with
 | dat d => cases k
 | bor j => cases k
 | new mm =>
  obtain ⟨hl, rfl⟩ := we (show (if i < ρ1.length then some (Out.ok Fl.next (ρ1.set i (.own mm))) else none) = some out from k)
  obtain ⟨a, o, rfl, q2, q3, q4, q5, q6⟩ := q
  have e1 := p.env
  have lσ : i < σ.length := by rw [e1.len]; exact hl
  refine m _ C1 H1 ⟨p.step, fun b ⟨j, m', h1, h2⟩ => ?_, ⟨by rw [List.length_set, List.length_set]; exact e1.len, e1.ext, fun j c h => ?_, fun j k' m1 m2 b h1 h2 h3 h4 => ?_, e1.tab⟩, fun j hj => ?_, by rw [List.length_set]⟩
  ·by_cases hj : i = j
   ·subst hj
    rw [List.getElem?_set_self lσ] at h2
    cases h2
    exact .inr q6
   ·rw [List.getElem?_set_ne hj] at h1 h2
    exact .inl (p.own b ⟨j, m', h1, h2⟩)
  ·by_cases hj : i = j
   ·subst hj
    rw [List.getElem?_set_self hl] at h; cases h
    exact ⟨_, List.getElem?_set_self lσ, a, o, rfl, q2, q3, q4⟩
   ·rw [List.getElem?_set_ne hj] at h ⊢
    exact e1.cell j c h
  ·by_cases hj : i = j
   ·by_cases hk : i = k'
    ·rw [← hj, ← hk]
    ·subst hj
     rw [List.getElem?_set_self lσ] at h3; cases h3
     rw [List.getElem?_set_ne hk] at h2 h4
     exact absurd ⟨k', m2, h2, h4⟩ q5
   ·by_cases hk : i = k'
    ·subst hk
     rw [List.getElem?_set_self lσ] at h4; cases h4
     rw [List.getElem?_set_ne hj] at h1 h3
     exact absurd ⟨j, m1, h1, h3⟩ q5
    ·rw [List.getElem?_set_ne hj] at h1 h3
     rw [List.getElem?_set_ne hk] at h2 h4
     exact e1.inj j k' m1 m2 b h1 h2 h3 h4
  ·exact List.getElem?_set_ne (fun z => hi (by rw [z]; exact hj))
end
section
variable {K : PySem.W.Frag} {σ : Sl} {C H : Hp} {ρ : En}
theorem kal {i : Nat} {m m' : M} {a : Addr} {o : HO} (e : EnvOk K C H σ ρ) (h1 : ρ[i]? = some (.own m)) (h2 : σ[i]? = some (some (.ref a))) (hm : MIs K C m' o) :
  Post K σ C H ρ C (upd H a o) (ρ.set i (.own m')) := by
 obtain ⟨v, hv, p, u, q1, q2, q3, q4⟩ := e.cell i _ h1
 rw [h2] at hv; cases hv; cases q1
 have hl : i < ρ.length := (List.getElem?_eq_some_iff.mp h1).1
 have hne : ∀ b w, C b = some w → b ≠ a := fun b w k z => by rw [z, q2] at k; cases k
 have own : ∀ b, kf σ (ρ.set i (.own m')) b → kf σ ρ b := fun b ⟨j, n, k1, k2⟩ => by
  by_cases hj : i = j
  ·subst hj; exact ⟨i, m, h1, k2⟩
  ·rw [List.getElem?_set_ne hj] at k1; exact ⟨j, n, k1, k2⟩
 have ext : Ex C (upd H a o) := ⟨fun b w k n => by rw [upd_ne (hne b w k)]; exact e.ext.1 b w k n, fun b k => by
  by_cases hb : b = a
  ·rw [hb, upd_same] at k; cases k
  ·rw [upd_ne hb] at k; exact e.ext.2 b k⟩
 have tb : ∀ P, TS1 H P → TS1 (upd H a o) P := fun P q => wau q fun u' z => by rw [q3] at z; cases z; exact q4.nx
 refine ⟨⟨Ex.refl C, ext, fun b w k _ nb => ?_, fun b k1 k2 => absurd k1 k2, fun b k => ?_, tb⟩, own, ⟨by rw [List.length_set]; exact e.len, ext, fun j c k => ?_, fun j k n1 n2 b k1 k2 k3 k4 => ?_, fun P h => tb P (e.tab P h)⟩⟩
 ·rw [upd_ne (fun z => nb ⟨i, m, h1, by rw [z]; exact h2⟩)]; exact k
 ·by_cases hb : b = a
  ·subst hb; rw [upd_same] at k; cases k
  ·rw [upd_ne hb] at k; exact k
 ·by_cases hj : i = j
  ·subst hj
   rw [List.getElem?_set_self hl] at k; cases k
   exact ⟨_, h2, a, o, rfl, q2, upd_same, hm⟩
  ·rw [List.getElem?_set_ne hj] at k
   obtain ⟨w, hw, ok⟩ := e.cell j c k
   refine ⟨w, hw, ?_⟩
   cases c with
   | no => trivial
   | dat d => exact ok
   | own n =>
    obtain ⟨p', u', r1, r2, r3, r4⟩ := ok
    refine ⟨p', u', r1, r2, ?_, r4⟩
    have : p' ≠ a := fun z => hj (e.inj i j m n a h1 k h2 (by rw [hw, r1, z]))
    rw [upd_ne this]; exact r3
 ·by_cases hj : i = j
  ·by_cases hk : i = k
   ·rw [← hj, ← hk]
   ·rw [List.getElem?_set_ne hk] at k2
    subst hj
    exact e.inj i k m n2 b h1 k2 k3 k4
  ·rw [List.getElem?_set_ne hj] at k1
   by_cases hk : i = k
   ·subst hk
    exact e.inj j i n1 m b k1 h1 k3 k4
   ·rw [List.getElem?_set_ne hk] at k2
    exact e.inj j k n1 n2 b k1 k2 k3 k4
theorem yba {i : Nat} {m : M} (e : EnvOk K C H σ ρ) (h1 : ρ[i]? = some (.own m)) : ∃ a o, σ[i]? = some (some (.ref a)) ∧ C a = none ∧ H a = some o ∧ MIs K C m o := by
 obtain ⟨v, hv, p, u, q1, q2, q3, q4⟩ := e.cell i _ h1
 exact ⟨p, u, by rw [hv, q1], q2, q3, q4⟩
end
def ownL (i : Nat) {α : Type} (k : List D → P α) : P α := fun ρ => match ρ[i]? with
 | some (.own (.lst ds)) => k ds ρ
 | _ => none
def setL (i : Nat) {α : Type} (ds : List D) (a : α) : P α := fun ρ => some (.ok a (ρ.set i (.own (.lst ds))))
def kac (i : Nat) (fe : P Rv) : P Rv := ownL i fun _ => (z9 fe).bind fun d => ownL i fun ds => if ds.length < sizeLine then setL i (ds ++ [d]) (.dat (.s .non)) else P.fail
section
variable {K : PySem.W.Frag} {W : WX} {σ : Sl} {C H : Hp} {ρ : En}
theorem At.ownL {α' α : Type} {R : Rel α' α} {t : Rd1 α'} {i : Nat} {k : List D → P α} (e : EnvOk K C H σ ρ)
  (h : ∀ ds a xs, ρ[i]? = some (.own (.lst ds)) → σ[i]? = some (some (.ref a)) → H a = some (.lst xs) → Iss K C ds xs → At K W R σ C H ρ t (k ds ρ)) : At K W R σ C H ρ t (PL.ownL i k ρ) := by
 unfold PL.ownL
 cases q : ρ[i]? with
 | none => exact At.nil
 | some c =>
  cases c with
  | no => exact At.nil
  | dat d => exact At.nil
  | own m =>
   cases m with
   | dk kvs => exact At.nil
   | dt kvs => exact At.nil
   | dn _ _ _ => exact At.nil
   | ob c fs => exact At.nil
   | lst ds =>
    obtain ⟨a, o, h1, h2, h3, xs, rfl, h4⟩ := yba e q
    exact h ds a xs q h1 h3 h4
theorem sd_append {i : Nat} {te : TE} {fe : P Rv} (he : Sd K W (VRel K) te fe) : Sd K W (VRel K) (tBM K "list" rAppend (tVar i) (tCons te tNil)) (kac i fe) := by
 intro σ C H ρ e
 show At K W (VRel K H) σ C H ρ (fun H Q => ∃ v, σ[i]? = some (some v) ∧ tyV K "list" v H ∧ te σ H fun y H2 => rAppend v [y] H2 Q) _
 refine At.ownL e fun ds0 a xs0 h0 h1 h2 h3 => ?_
 refine At.imp (t := fun H Q => te σ H fun y H2 => rAppend (.ref a) [y] H2 Q) ?_ fun Q h => ⟨_, h1, .inl ⟨rfl, _, SqL.of h2⟩, h⟩
 refine At.bind (tk := fun (y : V) (H2 : Hp) (Q : VK) => rAppend (.ref a) [y] H2 Q) (xaa he σ C H ρ e) fun d ρ1 y C1 H1 p r => ?_
 refine At.ownL p.env fun ds b xs k0 k1 k2 k3 => ?_
 rw [h1] at k1; cases k1
 by_cases hz : ds.length < sizeLine
 ·rw [if_pos hz]
  refine At.of fun Q hq => ⟨a, xs, y, rfl, rfl, k2, by rw [k3.length]; exact hz, ?_⟩
  exact hq .non C1 _ (kal p.env k0 h1 ⟨_, rfl, k3.app (ze r jg)⟩) (show Is K C1 (.s .non) .non from is_s)
 ·rw [if_neg hz]; exact At.nil
end
def sIncL (i k : Nat) (c : Int) : P Fl := ownL i fun ds => match ds[k]? with
 | some (.s (.int n)) => setL i (ds.set k (.s (.int (n + c)))) .next
 | _ => P.fail
theorem pget_list {X : Cx} : PGet X (fun x y H Q => ∃ p xs k v, x = .ref p ∧ y = .int ((k : Nat) : Int) ∧ SqL X.K H p xs ∧ xs[k]? = some v ∧ Q v H) := by
 intro pins s σ H o i ov iv Q I rx ry h
 obtain ⟨p, xs, k, z, rfl, rfl, hq, he, q⟩ := h
 cases rx
 obtain ⟨t, rfl⟩ := ry
 obtain ⟨its, r, pl, hz⟩ := I.list hq
 obtain ⟨w, ew, rw'⟩ := r.get he
 have hl := r.length
 have hn := line63
 have hk : k < xs.length := (List.getElem?_eq_some_iff.mp he).1
 exact wpAny_getItem_list pl.isList (by omega) (by omega) (by simpa using ew) ⟨z, H, I, rw', q⟩
section
variable {K : PySem.W.Frag} {W : WX} {fx : List Nat} {σ : Sl} {C H : Hp} {ρ : En}
theorem ss_incL {i k : Nat} {c : Int} : SdS K W fx (tAugS (tVar i) (tC (.int ((k : Nat) : Int))) (tC (.int c)) (fun x y H Q => ∃ p xs k v, x = .ref p ∧ y = .int ((k : Nat) : Int) ∧ SqL K H p xs ∧ xs[k]? = some v ∧ Q v H) (rI0 fun i j => .int (i + j)) rSetL) (sIncL i k c) := by
 intro σ C H ρ out D e ho m
 have key : At K W (fun C H σ ρ (v : V) (f : Fl) => f = .next) σ C H ρ (fun H Q => ∃ v, σ[i]? = some (some v) ∧ ∃ p xs k' w, v = .ref p ∧ (V.int ((k : Nat) : Int)) = .int ((k' : Nat) : Int) ∧ SqL K H p xs ∧ xs[k']? = some w ∧
   ∃ a b, w = .int a ∧ V.int c = .int b ∧ rSetL v (.int ((k : Nat) : Int)) (.int (a + b)) H fun H6 => Q .non H6) (sIncL i k c ρ) := by
  refine At.ownL e fun ds a xs h0 h1 h2 h3 => ?_
  cases q : ds[k]? with
  | none => exact At.nil
  | some d =>
   cases d with
   | s x =>
    cases x with
    | int n =>
     obtain ⟨w, hw, hi⟩ := h3.get q
     cases is_s_iff.mp hi
     have hk : k < xs.length := (List.getElem?_eq_some_iff.mp hw).1
     refine At.of fun Q hq => ⟨_, h1, a, xs, k, _, rfl, rfl, SqL.of h2, hw, n, c, rfl, rfl, a, xs, _, k, rfl, rfl, h2, ?_, ?_⟩
     ·unfold ixN
      rw [if_pos (by omega), if_pos (by omega)]
      simp
     ·exact hq .non C _ (kal e h0 h1 ⟨_, rfl, h3.set k is_s⟩) rfl
    | _ => exact At.nil
   | _ => exact At.nil
 refine (key out (fun _ H6 => D.nx σ H6) ho (fun f ρ' z v C' H' p r => ?_) fun x ρ' z d C' H' p q => ?_)
 ·subst z
  cases (show f = Fl.next from r)
  exact m σ C' H' (PostS.of p)
 ·subst z
  exact m d σ C' H' (PostS.of p) q
end
abbrev Tgt := D → En → Option En
def aN (i : Nat) : Tgt := fun d ρ => if i < ρ.length then some (ρ.set i (.dat d)) else none
def aT (n : Nat) (as : List D → En → Option En) : Tgt := fun d ρ => match d with
 | .tup ds => if ds.length = n then as ds ρ else none
 | _ => none
def aNil : List D → En → Option En := fun ds ρ => match ds with
 | [] => some ρ
 | _ => none
def v9 (a : Tgt) (as : List D → En → Option En) : List D → En → Option En := fun ds ρ => match ds with
 | d :: ds => match a d ρ with
  | some ρ' => as ds ρ'
  | none => none
 | [] => none
structure PostG (K : PySem.W.Frag) (js : List Nat) (σ : Sl) (C H : Hp) (ρ : En) (σ' : Sl) (C' H' : Hp) (ρ' : En) : Prop where
 step : Step C H C' H' (fun _ => False)
 own : ∀ a, kf σ' ρ' a → kf σ ρ a
 env : EnvOk K C' H' σ' ρ'
 slot : ∀ i, i ∉ js → σ'[i]? = σ[i]?
 len : σ'.length = σ.length
def SdG (K : PySem.W.Frag) (js : List Nat) (tg : TG) (a : Tgt) : Prop := ∀ σ C H ρ d v ρ' Q, EnvOk K C H σ ρ → Is K C d v → a d ρ = some ρ' → (∀ σ' C' H', PostG K js σ C H ρ σ' C' H' ρ' → Q σ' H') → tg v σ H Q
def SdGs (K : PySem.W.Frag) (js : List Nat) (tg : TGs) (a : List D → En → Option En) : Prop := ∀ σ C H ρ ds vs ρ' Q, EnvOk K C H σ ρ → Iss K C ds vs → a ds ρ = some ρ' → (∀ σ' C' H', PostG K js σ C H ρ σ' C' H' ρ' → Q σ' H') → tg vs σ H Q
section
variable {K : PySem.W.Frag} {js ks : List Nat}
theorem PostG.postS {fx : List Nat} {σ σ' : Sl} {C H C' H' : Hp} {ρ ρ' : En} (p : PostG K js σ C H ρ σ' C' H' ρ') (h : ∀ i ∈ fx, i ∉ js) : PostS K fx σ C H ρ σ' C' H' ρ' :=
 ⟨p.step.weak fun _ z => z.elim, fun a z => .inl (p.own a z), p.env, fun i hi => p.slot i (h i hi), p.len⟩
theorem sg_name {i : Nat} : SdG K [i] (gName i) (aN i) := by
 intro σ C H ρ d v ρ' Q e hd ha hq
 obtain ⟨hl, rfl⟩ := we ha
 have p := jao (fx := []) e (by simp) hl hd
 refine hq _ C H ⟨Step.refl e.ext, fun a ⟨j, m, h1, h2⟩ => ?_, p.env, fun j hj => ?_, p.len⟩
 ·by_cases hj : i = j
  ·subst hj; rw [List.getElem?_set_self hl] at h1; cases h1
  ·rw [List.getElem?_set_ne hj] at h1 h2; exact ⟨j, m, h1, h2⟩
 ·exact List.getElem?_set_ne (fun z => hj (by simp [z]))
theorem sgs_nil : SdGs K [] gNil aNil := by
 intro σ C H ρ ds vs ρ' Q e hd ha hq
 cases ds with
 | nil =>
  cases ha
  exact ⟨iss_nil_iff.mp hd, hq σ C H ⟨Step.refl e.ext, fun _ h => h, e, fun _ _ => rfl, rfl⟩⟩
 | cons d ds => cases ha
theorem PostG.trans {σ σ1 σ2 : Sl} {C H C1 H1 C2 H2 : Hp} {ρ ρ1 ρ2 : En} (a : PostG K js σ C H ρ σ1 C1 H1 ρ1) (b : PostG K ks σ1 C1 H1 ρ1 σ2 C2 H2 ρ2) : PostG K (js ++ ks) σ C H ρ σ2 C2 H2 ρ2 :=
 ⟨a.step.trans b.step fun _ z => z.elim, fun x h => a.own x (b.own x h), b.env, fun i hi => (b.slot i fun z => hi (List.mem_append_right _ z)).trans (a.slot i fun z => hi (List.mem_append_left _ z)), b.len.trans a.len⟩
theorem sgs_cons {tg : TG} {tgs : TGs} {a : Tgt} {as : List D → En → Option En} (h1 : SdG K js tg a) (h2 : SdGs K ks tgs as) : SdGs K (js ++ ks) (gCons tg tgs) (v9 a as) := by
 intro σ C H ρ ds vs ρ' Q e hd ha hq
 cases ds with
 | nil => cases ha
 | cons d ds =>
  obtain ⟨x, r, rfl, k1, k2⟩ := iss_cons_iff.mp hd
  simp only [v9] at ha
  cases q : a d ρ with
  | none => rw [q] at ha; cases ha
  | some ρ1 =>
   rw [q] at ha
   exact ⟨x, r, rfl, h1 σ C H ρ d x ρ1 _ e k1 q fun σ1 C1 H1 p1 => h2 σ1 C1 H1 ρ1 ds r ρ' Q p1.env (Iss.mono p1.step.core ds r k2) ha fun σ2 C2 H2 p2 => hq σ2 C2 H2 (p1.trans p2)⟩
theorem sg_tup {n : Nat} {tgs : TGs} {as : List D → En → Option En} (h : SdGs K js tgs as) : SdG K js (gTup K n tgs) (aT n as) := by
 intro σ C H ρ d v ρ' Q e hd ha hq
 cases d with
 | tup ds =>
  obtain ⟨hl, ha⟩ := (show (if ds.length = n then as ds ρ else none) = some ρ' → ds.length = n ∧ as ds ρ = some ρ' from fun z => by
   by_cases c : ds.length = n
   ·rw [if_pos c] at z; exact ⟨c, z⟩
   ·rw [if_neg c] at z; cases z) ha
  obtain ⟨a, xs, rfl, k1, k2⟩ := y5 hd
  exact ⟨a, xs, rfl, ex_t e.ext k1, by rw [k2.length]; exact hl, h σ C H ρ ds xs ρ' Q e k2 ha hq⟩
 | s x => cases ha
 | lst ds => cases ha
 | ro ds => cases ha
 | obj c fs => cases ha
 | lam f c zs ks => cases ha
 | dic kvs => cases ha
 | exc c b fs => cases ha
 | lab a d => cases ha
end
def sAug (i : Nat) (op : D → D → Option Rv) (f : P Rv) : P Fl := fun ρ0 => match ρ0[i]? with
 | some (.dat d0) => (f.bind fun r => fun ρ => match peek ρ r with
  | some d => (match op d0 d with
   | some (.dat z) => putD i z ρ
   | _ => none)
  | none => none) ρ0
 | _ => none
theorem ss_aug {K : PySem.W.Frag} {W : WX} {fx : List Nat} {i : Nat} {te : TE} {f : P Rv} {r : R2} {op : D → D → Option Rv} (hi : i ∉ fx) (hr : R2Ok K r op) (hf : Sd K W (VRel K) te f) : SdS K W fx (tAug i te r) (sAug i op f) := by
 intro σ C H ρ out D e ho m
 unfold sAug at ho
 cases q0 : ρ[i]? with
 | none => rw [q0] at ho; cases ho
 | some c =>
  rw [q0] at ho
  cases c with
  | no => cases ho
  | own m => cases ho
  | dat d0 =>
   obtain ⟨v, hv, x, rfl, hx⟩ := e.cell i _ q0
   refine ⟨x, hv, z5 (Q := fun y H1 => r x y H1 fun z H2 => D.nx (σ.set i (some z)) H2) hf e ho m fun rv ρ1 y C1 H1 p k z => ?_⟩
   cases q1 : peek ρ1 rv with
   | none => rw [q1] at z; cases z
   | some d =>
    rw [q1] at z
    dsimp only at z
    cases q2 : op d0 d with
    | none => rw [q2] at z; cases z
    | some w =>
     rw [q2] at z
     cases w with
     | new mm => cases z
     | bor j => cases z
     | dat w =>
      obtain ⟨hl, rfl⟩ := we (show (if i < ρ1.length then some (Out.ok Fl.next (ρ1.set i (.dat w))) else none) = some out from z)
      refine hr C1 H1 p.env.ext d0 d x y _ _ q2 (Pk.of p.env.ext (Is.mono p.step.core d0 x hx)) (xm p.env k q1) fun u C2 H2 s2 k2 => ?_
      have p2 := Post.of_step p.env s2
      exact m _ _ _ (((PostS.of p).trans (PostS.of p2)).trans (jao p2.env hi hl k2))
def sExt (i : Nat) (f : P Rv) : P Fl := ownL i fun _ => f.bind fun r => fun ρ => match peek ρ r with
 | some (.lst es) => (ownL i fun ds => if ds.length + es.length ≤ sizeLine then setL i (ds ++ es) .next else P.fail) ρ
 | _ => none
def ItOk (K : PySem.W.Frag) (C : Hp) (J : It) (ds : List D) : Prop := ∀ C' H', Ex C C' → Ex C' H' → ∀ i, (i < ds.length → J.go i H') ∧ (ds.length ≤ i → J.stop i H') ∧
 ∀ x H'' d, J.yld i H' x H'' → ds[i]? = some d → ∃ C'', Step C' H' C'' H'' (fun _ => False) ∧ Is K C'' d x
def wa1 (K : PySem.W.Frag) (_ : Hp) : Rel It (List D) := fun C _ _ _ J ds => ItOk K C J ds
section
variable {K : PySem.W.Frag} {W : WX}
theorem it_list {C : Hp} {a : Addr} {ds : List D} {xs : List V} (h : SqL K C a xs) (hs : Iss K C ds xs) : ItOk K C (Itl K a) ds := by
 intro C' H' e1 e2 i
 have h' : SqL K H' a xs := ex_l e2 (ex_l e1 h)
 refine ⟨fun hi => ?_, fun hi => ⟨xs, h', by rw [hs.length]; exact hi⟩, fun x H'' d hy hd => ?_⟩
 ·obtain ⟨x, hx, _⟩ := hs.get (List.getElem?_eq_getElem hi)
  exact ⟨xs, x, h', hx⟩
 ·obtain ⟨rfl, hy⟩ := hy
  obtain ⟨y, k1, k2⟩ := hs.get hd
  have k3 := hy xs h'
  rw [k1] at k3; cases k3
  exact ⟨C', Step.refl e2, Is.mono e1 d _ k2⟩
theorem it_tup {C : Hp} {a : Addr} {ds : List D} {xs : List V} (h : SqT K C a xs) (hs : Iss K C ds xs) : ItOk K C (Itt K a) ds := by
 intro C' H' e1 e2 i
 have h' : SqT K H' a xs := ex_t e2 (ex_t e1 h)
 refine ⟨fun hi => ?_, fun hi => ⟨xs, h', by rw [hs.length]; exact hi⟩, fun x H'' d hy hd => ?_⟩
 ·obtain ⟨x, hx, _⟩ := hs.get (List.getElem?_eq_getElem hi)
  exact ⟨xs, x, h', hx⟩
 ·obtain ⟨rfl, hy⟩ := hy
  obtain ⟨y, k1, k2⟩ := hs.get hd
  have k3 := hy xs h'
  rw [k1] at k3; cases k3
  exact ⟨C', Step.refl e2, Is.mono e1 d _ k2⟩
def rngD (lo : Int) (n : Nat) : List D := (List.range n).map fun i => .s (.int (lo + (i : Nat)))
theorem jag {lo : Int} {n i : Nat} {d : D} (h : (rngD lo n)[i]? = some d) : i < n ∧ d = .s (.int (lo + (i : Nat))) := by
 unfold rngD at h
 rw [List.getElem?_map] at h
 by_cases hi : i < n
 ·rw [List.getElem?_range hi] at h
  exact ⟨hi, (Option.some.inj h).symm⟩
 ·rw [List.getElem?_eq_none (by rw [List.length_range]; omega)] at h
  cases h
theorem xr (lo : Int) (n : Nat) : (rngD lo n).length = n := by unfold rngD; rw [List.length_map, List.length_range]
theorem it_rng {C : Hp} {lo : Int} {n : Nat} : ItOk K C (Itr lo n) (rngD lo n) := by
 intro C' H' e1 e2 i
 refine ⟨fun hi => by rw [xr] at hi; exact hi, fun hi => by rw [xr] at hi; exact hi, fun x H'' d hy hd => ?_⟩
 obtain ⟨rfl, rfl⟩ := hy
 obtain ⟨_, rfl⟩ := jag hd
 exact ⟨C', Step.refl e2, is_s⟩
def xbh (z : Str) : List D := z.cps.toList.map fun c => .s (.str ⟨#[c]⟩)
theorem it_str {C : Hp} {z : Str} : ItOk K C (Its z) (xbh z) := by
 intro C' H' e1 e2 i
 have hl : (xbh z).length = z.cps.size := by unfold xbh; rw [List.length_map, Array.length_toList]
 refine ⟨fun hi => by rw [hl] at hi; exact hi, fun hi => by rw [hl] at hi; exact hi, fun x H'' d hy hd => ?_⟩
 obtain ⟨rfl, c, hc, rfl⟩ := hy
 unfold xbh at hd
 rw [List.getElem?_map, Array.getElem?_toList, hc] at hd
 cases hd
 exact ⟨C', Step.refl e2, is_s⟩
def jf (n : Nat) : List D → List D
 | [] => []
 | d :: ds => .tup [.s (.int (n : Nat)), d] :: jf (n + 1) ds
theorem vac : ∀ (n : Nat) (ds : List D), (jf n ds).length = ds.length
 | _, [] => rfl
 | n, d :: ds => by unfold jf; rw [List.length_cons, List.length_cons, vac]
theorem vaz : ∀ {n : Nat} {ds : List D} {i : Nat} {d : D}, (jf n ds)[i]? = some d → ∃ x, ds[i]? = some x ∧ d = .tup [.s (.int ((n + i : Nat))), x]
 | n, [], i, d, h => by simp [jf] at h
 | n, x :: ds, 0, d, h => by simp [jf] at h; exact ⟨x, rfl, by rw [← h]; rfl⟩
 | n, x :: ds, i + 1, d, h => by
  obtain ⟨y, h1, h2⟩ := vaz (n := n + 1) (ds := ds) (i := i) (d := d) (by simpa [jf] using h)
  exact ⟨y, by simpa using h1, by rw [h2, show n + 1 + i = n + (i + 1) by omega]⟩
theorem jbr {C : Hp} {tt : Bool} {a : Addr} {ds : List D} {xs : List V} (h : Sq tt K C a xs) (hs : Iss K C ds xs) : ItOk K C (IteP tt K a) (jf 0 ds) := by
 intro C' H' e1 e2 i
 have h' : Sq tt K H' a xs := ex_q e2 (ex_q e1 h)
 refine ⟨fun hi => ?_, fun hi => ⟨xs, h', by rw [hs.length]; rw [vac] at hi; exact hi⟩, fun x H'' d hy hd => ?_⟩
 ·rw [vac] at hi
  obtain ⟨x, hx, _⟩ := hs.get (List.getElem?_eq_getElem hi)
  exact ⟨xs, x, h', hx⟩
 ·obtain ⟨T, y, o, rfl, hT, ho, rfl, hy⟩ := hy
  obtain ⟨z, k1, rfl⟩ := vaz hd
  obtain ⟨w, k2, k3⟩ := hs.get k1
  obtain rfl : w = y := Option.some.inj (k2.symm.trans (hy xs h'))
  have st := Step.newD (o := .frz o (.tup [.int (i : Nat), w])) e2 hT
  refine ⟨_, st, vbi (.of upd_same ho) (ze ?_ (ze (Is.mono (e1.trans st.core) z w k3) jg))⟩
  rw [Nat.zero_add]
  exact is_s
end
end PL
namespace PL
open PySem PySem.Spec PyProof.Rows L2
end PL
namespace PL
open PySem L2
def iX (K : PySem.W.Frag) (tl : TE) : TI := fun σ H R => iList K tl σ H R ∨ iTup K tl σ H R ∨ iStr tl σ H R
theorem pi_X {X : Cx} {tg l : Expr} {tl : TE} (hl : PE X l tl) : PI X tg l (iX X.K tl) := by
 refine ⟨fun pins s σ H R I h => ?_⟩
 rcases h with h | h | h
 ·exact (pi_list hl).run pins s σ H R I h
 ·exact (pi_tup hl).run pins s σ H R I h
 ·exact (pi_str hl).run pins s σ H R I h
def walked : D → Option (List D)
 | .s (.str z) => some (xbh z)
 | d => items d
def vv (f : P Rv) : P (List D) := (z9 f).bind fun d => P.of (walked d)
section
variable {K : PySem.W.Frag} {W : WX} {σ : Sl} {C H : Hp} {ρ : En}
theorem sd_iter {tl : TE} {f : P Rv} (hf : Sd K W (VRel K) tl f) : Sd K W (wa1 K) (iX K tl) (vv f) := by
 intro σ C H ρ e out Q ho hok hex
 have hg := xaa hf σ C H ρ e
 rcases zt (show yg (z9 f ρ) _ = some out from ho) with ⟨x, r, h1, rfl⟩ | ⟨d, r, h1, h2⟩
 ·refine .inl (hg _ _ h1 (fun a ρ' z => by cases z) fun x' ρ' z d C' H' p q => ?_)
  cases z
  exact hex x r rfl d C' H' p q
 ·unfold P.of at h2
  cases q : walked d with
  | none => rw [q] at h2; cases h2
  | some ds =>
   rw [q] at h2; cases h2
   cases d with
   | s x =>
    cases x with
    | str z =>
     cases q
     refine .inr (.inr (hg _ _ h1 (fun a ρ' z v C' H' p r => ?_) fun x' ρ' z => by cases z))
     cases z
     cases is_s_iff.mp r
     exact ⟨_, rfl, hok _ _ rfl _ C' H' p it_str⟩
    | _ => cases q
   | tup es =>
    cases q
    refine .inr (.inl (hg _ _ h1 (fun a ρ' z v C' H' p r => ?_) fun x' ρ' z => by cases z))
    cases z
    obtain ⟨b, xs, rfl, k1, k2⟩ := y5 r
    exact ⟨b, rfl, ⟨xs, ex_t p.env.ext k1⟩, hok _ _ rfl _ C' H' p (it_tup k1 k2)⟩
   | lst es =>
    cases q
    refine .inl (hg _ _ h1 (fun a ρ' z v C' H' p r => ?_) fun x' ρ' z => by cases z)
    cases z
    obtain ⟨b, xs, rfl, k1, k2⟩ := is_lst_iff.mp r
    exact ⟨b, rfl, ⟨xs, SqL.of (p.env.ext.1 _ _ k1 vw)⟩, hok _ _ rfl _ C' H' p (it_list (SqL.of k1) k2)⟩
   | ro es =>
    cases q
    refine .inl (hg _ _ h1 (fun a ρ' z v C' H' p r => ?_) fun x' ρ' z => by cases z)
    cases z
    obtain ⟨b, xs, rfl, k1, k2⟩ := is_ro_iff.mp r
    exact ⟨b, rfl, ⟨xs, ex_l p.env.ext k1⟩, hok _ _ rfl _ C' H' p (it_list k1 k2)⟩
   | obj c fs => cases q
   | lam f c zs ks => cases q
   | dic kvs => cases q
   | exc c b fs => cases q
   | lab a d => cases q
@[irreducible] def inBd (j : Int) : Bool := decide (-(2 ^ 62) ≤ j) && decide (j < 2 ^ 62)
theorem inBd_of {j : Int} (h : inBd j = true) : -(2 ^ 62) ≤ j ∧ j < 2 ^ 62 := by
 unfold inBd at h
 simp only [Bool.and_eq_true, decide_eq_true_eq] at h
 exact h
def vbc (fs : P (List Rv)) : P (List D) := fs.bind fun rs => pks rs fun ds => match ds with
 | [.s (.int j)] => if inBd j = true then P.ret (rngD 0 j.toNat) else P.fail
 | _ => P.fail
theorem sd_rng1 {t : TA} {fs : P (List Rv)} (hf : Sd K W (kbv K) t fs) : Sd K W (wa1 K) (iRng1 t) (vbc fs) := by
 intro σ C H ρ e
 show At K W (wa1 K H) σ C H ρ (fun H R => t σ H fun vs H1 => ∃ j : Int, vs = [.int j] ∧ -(2 ^ 62) ≤ j ∧ j < 2 ^ 62 ∧ R (Itr 0 j.toNat) H1) (yg (fs ρ) fun rs => pks rs fun ds => match ds with
  | [.s (.int j)] => if inBd j = true then P.ret (rngD 0 j.toNat) else P.fail
  | _ => P.fail)
 refine At.bind (tk := fun (vs : List V) (H1 : Hp) (R : It → Hp → Prop) => ∃ j : Int, vs = [.int j] ∧ -(2 ^ 62) ≤ j ∧ j < 2 ^ 62 ∧ R (Itr 0 j.toNat) H1) (hf σ C H ρ e) fun rs ρ1 vs C1 H1 p1 r1 => ?_
 refine At.pks fun ds q1 => ?_
 have pk := peeks_pk p1.env r1 q1
 split
 ·obtain ⟨v, r, rfl, k1, k2⟩ := pks1 pk
  cases pks0 k2
  cases pk_s.mp k1
  rename_i j
  by_cases hb : inBd j = true
  ·rw [if_pos hb]
   obtain ⟨b1, b2⟩ := inBd_of hb
   exact At.imp (At.ret (R := wa1 K H) p1.env (it_rng (K := K) (C := C1) (lo := 0) (n := j.toNat))) fun Q h => ⟨j, rfl, b1, b2, h⟩
  ·rw [if_neg hb]; exact At.nil
 ·exact At.nil
end
def vap (a : Tgt) (body : P Fl) : List D → P Fl
 | [] => P.ret .next
 | d :: ds => fun ρ => match a d ρ with
  | none => none
  | some ρ1 => yg (body ρ1) fun f => match f with
   | .next => vap a body ds
   | .cont => vap a body ds
   | .brk => P.ret .next
   | .ret r => P.ret (.ret r)
def sFor (fi : P (List D)) (a : Tgt) (body : P Fl) : P Fl := fi.bind fun ds => vap a body ds
theorem ja7 {α : Type} {l : List α} {i : Nat} {x : α} (h : l[i]? = some x) : l.drop i = x :: l.drop (i + 1) := by
 obtain ⟨h1, h2⟩ := List.getElem?_eq_some_iff.mp h
 rw [List.drop_eq_getElem_cons h1, h2]
section
variable {K : PySem.W.Frag} {W : WX} {fx js : List Nat}
theorem ss_for {wi : TI} {fi : P (List D)} {tg : TG} {a : Tgt} {tb : TS} {body : P Fl} (hj : ∀ i ∈ fx, i ∉ js) (hi : Sd K W (wa1 K) wi fi) (hg : SdG K js tg a) (hb : SdS K W fx tb body) : SdS K W fx (tFor wi tg tb) (sFor fi a body) := by
 intro σ C H ρ out D e ho m
 refine z5 (k := fun ds => vap a body ds) (Q := fun J H1 => ∃ W : Nat → Nat → L2.St → Hp → Prop, (∃ m, W 0 m σ H1) ∧ ∀ i m σ H, W i m σ H →
  (J.stop i H ∧ D.nx σ H) ∨ (J.go i H ∧ ∃ N : L2.St → Hp → Prop, (∀ σ' H', N σ' H' → ∃ m', m' < m ∧ W (i + 1) m' σ' H') ∧ ∀ x H', J.yld i H x H' → tg x σ H' fun σ2 H2 => tb { D with nx := N, ct := N, bk := D.nx } σ2 H2)) hi e ho m fun ds ρ1 J C1 H1 p r k => ?_
 refine ⟨fun i n σ' H' => ∃ C' ρ', n = ds.length - i ∧ i ≤ ds.length ∧ PostS K fx σ C1 H1 ρ1 σ' C' H' ρ' ∧ vap a body (ds.drop i) ρ' = some out, ⟨ds.length, C1, ρ1, by simp, Nat.zero_le _, PostS.refl p.env, k⟩, ?_⟩
 rintro i n σ' H' ⟨C', ρ', rfl, hi, q, ho'⟩
 have it := r C' H' q.step.core q.env.ext i
 by_cases hlt : i < ds.length
 ·obtain ⟨d, hd⟩ : ∃ d, ds[i]? = some d := ⟨_, List.getElem?_eq_getElem hlt⟩
  rw [ja7 hd] at ho'
  refine .inr ⟨it.1 hlt, fun σ2 H2 => ∃ C2 ρ2, PostS K fx σ C1 H1 ρ1 σ2 C2 H2 ρ2 ∧ vap a body (ds.drop (i + 1)) ρ2 = some out, fun σ2 H2 ⟨C2, ρ2, h1, h2⟩ => ⟨ds.length - (i + 1), by omega, C2, ρ2, rfl, hlt, h1, h2⟩, fun x H'' hy => ?_⟩
  obtain ⟨C'', st, hx⟩ := it.2.2 x H'' d hy hd
  have e2 : EnvOk K C'' H'' σ' ρ' := q.env.step st
  have q2 : PostS K fx σ C1 H1 ρ1 σ' C'' H'' ρ' := q.trans (PostS.of (Post.of_step q.env st))
  unfold vap at ho'
  cases z : a d ρ' with
  | none => rw [z] at ho'; cases ho'
  | some ρ2 =>
   rw [z] at ho'
   refine hg σ' C'' H'' ρ' d x ρ2 _ e2 hx z fun σ3 C3 H3 p3 => ?_
   have q3 := q2.trans (p3.postS hj)
   rcases zt ho' with ⟨x', r', h1, rfl⟩ | ⟨f, r', h1, h2⟩
   ·exact hb σ3 C3 H3 ρ2 _ _ p3.env h1 (Met.later q3 (Met.later (PostS.of p) m))
   ·cases f with
    | next => exact hb σ3 C3 H3 ρ2 _ _ p3.env h1 fun σ4 C4 H4 p4 => ⟨C4, r', q3.trans p4, h2⟩
    | cont => exact hb σ3 C3 H3 ρ2 _ _ p3.env h1 fun σ4 C4 H4 p4 => ⟨C4, r', q3.trans p4, h2⟩
    | brk =>
     cases h2
     exact hb σ3 C3 H3 ρ2 _ _ p3.env h1 fun σ4 C4 H4 p4 => m σ4 C4 H4 (((PostS.of p).trans q3).trans p4)
    | ret v =>
     cases h2
     exact hb σ3 C3 H3 ρ2 _ _ p3.env h1 (Met.later q3 (Met.later (PostS.of p) m))
 ·have ei : i = ds.length := by omega
  subst ei
  rw [List.drop_length] at ho'
  cases ho'
  exact .inl ⟨it.2.1 (Nat.le_refl _), m σ' C' H' ((PostS.of p).trans q)⟩
end
def qaa (c : P Bool) (body : P Fl) : Nat → P Fl
 | 0 => P.fail
 | n + 1 => c.bind fun b => if b = true then body.bind fun f => (match f with
   | .next => qaa c body n
   | .cont => qaa c body n
   | .brk => P.ret .next
   | .ret r => P.ret (.ret r)) else P.ret .next
section
variable {K : PySem.W.Frag} {W : WX} {fx : List Nat}
theorem ss_while {tc : TT} {c : P Bool} {tb : TS} {body : P Fl} (n : Nat) (hc : Sd K W BRel tc c) (hb : SdS K W fx tb body) : SdS K W fx (tWhile tc tb) (qaa c body n) := by
 intro σ C H ρ out D e ho m
 refine ⟨fun k σ' H' => ∃ C' ρ', PostS K fx σ C H ρ σ' C' H' ρ' ∧ qaa c body k ρ' = some out, ⟨n, C, ρ, PostS.refl e, ho⟩, ?_⟩
 rintro k σ' H' ⟨C', ρ', q, h⟩
 cases k with
 | zero => cases h
 | succ k =>
  refine z5 (Q := fun b H1 => if b = true then ∃ N : L2.St → Hp → Prop, (∀ σ2 H2, N σ2 H2 → ∃ m', m' < k + 1 ∧ ∃ C' ρ', PostS K fx σ C H ρ σ2 C' H2 ρ' ∧ qaa c body m' ρ' = some out) ∧ tb { D with nx := N, ct := N, bk := D.nx } σ' H1 else D.nx σ' H1) hc q.env (show (c.bind _) ρ' = some out from h) (Met.later q m) fun b ρ1 v C1 H1 p r z => ?_
  have r : v = b := r
  subst r
  have q1 := q.trans (PostS.of p)
  cases v with
  | false =>
   cases z
   show D.nx σ' H1
   exact m σ' C1 H1 q1
  | true =>
   show ∃ N : L2.St → Hp → Prop, _
   refine ⟨fun σ2 H2 => ∃ C2 ρ2, PostS K fx σ C H ρ σ2 C2 H2 ρ2 ∧ qaa c body k ρ2 = some out, fun σ2 H2 ⟨C2, ρ2, h1, h2⟩ => ⟨k, Nat.lt_succ_self k, C2, ρ2, h1, h2⟩, ?_⟩
   rcases zt (show yg (body ρ1) _ = some out from z) with ⟨x', r', h1, rfl⟩ | ⟨f, r', h1, h2⟩
   ·exact hb σ' C1 H1 ρ1 _ _ p.env h1 (Met.later q1 m)
   ·cases f with
    | next => exact hb σ' C1 H1 ρ1 _ _ p.env h1 fun σ4 C4 H4 p4 => ⟨C4, r', q1.trans p4, h2⟩
    | cont => exact hb σ' C1 H1 ρ1 _ _ p.env h1 fun σ4 C4 H4 p4 => ⟨C4, r', q1.trans p4, h2⟩
    | brk =>
     cases h2
     exact hb σ' C1 H1 ρ1 _ _ p.env h1 fun σ4 C4 H4 p4 => m σ4 C4 H4 (q1.trans p4)
    | ret v =>
     cases h2
     exact hb σ' C1 H1 ρ1 _ _ p.env h1 (Met.later q1 m)
end
end PL
namespace PL
open PySem L2
def yk (ρ : En) : List Nat → En
 | [] => ρ
 | v :: vs => (yk ρ vs).set v .no
def wak (ρ0 ρ : En) : List Nat → En
 | [] => ρ
 | v :: vs => match ρ0[v]? with
  | some c => (wak ρ0 ρ vs).set v c
  | none => wak ρ0 ρ vs
def k9 (vs : List Nat) (a : Tgt) (tests : P Bool) (elt : P Rv) : List D → List D → En → Option (List D × En)
 | [], acc, ρ => some (acc, ρ)
 | d :: ds, acc, ρ => match a d ρ with
  | none => none
  | some ρ1 => match tests ρ1 with
   | some (.ok true ρ2) => (match z9 elt ρ2 with
    | some (.ok y ρ3) => if acc.length < sizeLine then k9 vs a tests elt ds (acc ++ [y]) (yk ρ3 vs) else none
    | _ => none)
   | some (.ok false ρ2) => k9 vs a tests elt ds acc (yk ρ2 vs)
   | _ => none
def jw (vs : List Nat) (fi : P (List D)) (a : Tgt) (tests : P Bool) (elt : P Rv) : P Rv := fi.bind fun ds => fun ρ => match k9 vs a tests elt ds [] (yk ρ vs) with
 | some (acc, ρ') => some (.ok (.new (.lst acc)) (wak ρ ρ' vs))
 | none => none
def fYes : P Bool := P.ret true
theorem vk (σ : Sl) (i : Nat) : ∀ vs : List Nat, (wipe σ vs)[i]? = if i ∈ vs then (if i < σ.length then some none else none) else σ[i]?
 | [] => by simp [wipe]
 | v :: vs => by
  have ih := vk σ i vs
  unfold wipe
  by_cases h : v = i
  ·subst h
   rw [if_pos List.mem_cons_self]
   by_cases hl : v < σ.length
   ·rw [if_pos hl, List.getElem?_set_self (by rw [wipe_length]; exact hl)]
   ·rw [if_neg hl, List.getElem?_eq_none (by rw [List.length_set, wipe_length]; omega)]
  ·rw [List.getElem?_set_ne h, ih]
   have : i ∈ v :: vs ↔ i ∈ vs := by simp [Ne.symm h]
   simp only [this]
theorem yam (ρ : En) : ∀ vs : List Nat, (yk ρ vs).length = ρ.length
 | [] => rfl
 | v :: vs => by unfold yk; rw [List.length_set, yam ρ vs]
theorem w9 (ρ : En) (i : Nat) : ∀ vs : List Nat, (yk ρ vs)[i]? = if i ∈ vs then (if i < ρ.length then some .no else none) else ρ[i]?
 | [] => by simp [yk]
 | v :: vs => by
  have ih := w9 ρ i vs
  unfold yk
  by_cases h : v = i
  ·subst h
   rw [if_pos List.mem_cons_self]
   by_cases hl : v < ρ.length
   ·rw [if_pos hl, List.getElem?_set_self (by rw [yam]; exact hl)]
   ·rw [if_neg hl, List.getElem?_eq_none (by rw [List.length_set, yam]; omega)]
  ·rw [List.getElem?_set_ne h, ih]
   have : i ∈ v :: vs ↔ i ∈ vs := by simp [Ne.symm h]
   simp only [this]
theorem vaa (ρ0 ρ : En) : ∀ vs : List Nat, (wak ρ0 ρ vs).length = ρ.length
 | [] => rfl
 | v :: vs => by
  unfold wak
  cases ρ0[v]? with
  | none => exact vaa ρ0 ρ vs
  | some c => rw [List.length_set]; exact vaa ρ0 ρ vs
theorem yaa (ρ0 ρ : En) (i : Nat) (hl : ρ0.length = ρ.length) : ∀ vs : List Nat, (wak ρ0 ρ vs)[i]? = if i ∈ vs then ρ0[i]? else ρ[i]?
 | [] => by simp [wak]
 | v :: vs => by
  have ih := yaa ρ0 ρ i hl vs
  unfold wak
  cases q : ρ0[v]? with
  | none =>
   by_cases h : v = i
   ·subst h
    rw [if_pos List.mem_cons_self, q]
    have : ρ0.length ≤ v := List.getElem?_eq_none_iff.mp q
    exact List.getElem?_eq_none (by rw [vaa]; omega)
   ·have : i ∈ v :: vs ↔ i ∈ vs := by simp [Ne.symm h]
    simp only [this]
    exact ih
  | some c =>
   have hv : v < ρ0.length := (List.getElem?_eq_some_iff.mp q).1
   by_cases h : v = i
   ·subst h
    rw [if_pos List.mem_cons_self]
    dsimp only
    rw [List.getElem?_set_self (by rw [vaa]; omega), q]
   ·dsimp only
    rw [List.getElem?_set_ne h, ih]
    have : i ∈ v :: vs ↔ i ∈ vs := by simp [Ne.symm h]
    simp only [this]
section
variable {K : PySem.W.Frag} {σ : Sl} {C H : Hp} {ρ : En} {vs : List Nat}
theorem kz {a : Addr} (h : kf (wipe σ vs) (yk ρ vs) a) : ∃ (i : Nat) (m : M), i ∉ vs ∧ ρ[i]? = some (.own m) ∧ σ[i]? = some (some (.ref a)) := by
 obtain ⟨i, m, h1, h2⟩ := h
 rw [w9] at h1
 rw [vk] at h2
 by_cases hi : i ∈ vs
 ·rw [if_pos hi] at h1
  by_cases hl : i < ρ.length
  ·rw [if_pos hl] at h1; cases h1
  ·rw [if_neg hl] at h1; cases h1
 ·rw [if_neg hi] at h1 h2
  exact ⟨i, m, hi, h1, h2⟩
theorem EnvOk.wipe (e : EnvOk K C H σ ρ) : EnvOk K C H (L2.wipe σ vs) (yk ρ vs) := by
 refine ⟨by rw [wipe_length, yam]; exact e.len, e.ext, fun i c h => ?_, fun i j m n a h1 h2 h3 h4 => ?_, e.tab⟩
 ·rw [w9] at h
  rw [vk]
  by_cases hi : i ∈ vs
  ·rw [if_pos hi] at h ⊢
   by_cases hl : i < ρ.length
   ·rw [if_pos hl] at h; cases h
    rw [if_pos (by rw [e.len]; exact hl)]
    exact ⟨none, rfl, trivial⟩
   ·rw [if_neg hl] at h; cases h
  ·rw [if_neg hi] at h ⊢
   exact e.cell i c h
 ·obtain ⟨hi, h1'⟩ : i ∉ vs ∧ ρ[i]? = some (.own m) := by
   rw [w9] at h1
   by_cases hi : i ∈ vs
   ·rw [if_pos hi] at h1
    by_cases hl : i < ρ.length
    ·rw [if_pos hl] at h1; cases h1
    ·rw [if_neg hl] at h1; cases h1
   ·rw [if_neg hi] at h1; exact ⟨hi, h1⟩
  obtain ⟨hj, h2'⟩ : j ∉ vs ∧ ρ[j]? = some (.own n) := by
   rw [w9] at h2
   by_cases hi : j ∈ vs
   ·rw [if_pos hi] at h2
    by_cases hl : j < ρ.length
    ·rw [if_pos hl] at h2; cases h2
    ·rw [if_neg hl] at h2; cases h2
   ·rw [if_neg hi] at h2; exact ⟨hi, h2⟩
  rw [vk, if_neg hi] at h3
  rw [vk, if_neg hj] at h4
  exact e.inj i j m n a h1' h2' h3 h4
theorem wipe_eq {σ' : Sl} {js : List Nat} (hs : ∀ i, i ∉ js → σ'[i]? = (wipe σ vs)[i]?) (hl : σ'.length = (wipe σ vs).length) (hj : ∀ j ∈ js, j ∈ vs) : wipe σ' vs = wipe σ vs := by
 apply List.ext_getElem?
 intro i
 rw [vk, vk σ]
 rw [wipe_length] at hl
 by_cases hi : i ∈ vs
 ·rw [if_pos hi, if_pos hi, hl]
 ·rw [if_neg hi, if_neg hi, hs i fun z => hi (hj i z), vk, if_neg hi]
theorem EnvOk.aside {L : Addr} {o : HO} (e : EnvOk K C H σ ρ) (hc : C L = none) (hn : ¬ kf σ ρ L) (hx : ∀ u, H L = some u → NX u) : EnvOk K C (upd H L o) σ ρ := by
 refine ⟨e.len, ⟨fun a u h n => ?_, fun a h => ?_⟩, fun i c h => ?_, e.inj, fun P h => wau (e.tab P h) hx⟩
 ·rw [upd_ne (fun z => by rw [z, hc] at h; cases h)]; exact e.ext.1 a u h n
 ·by_cases hb : a = L
  ·rw [hb]; exact hc
  ·rw [upd_ne hb] at h; exact e.ext.2 a h
 ·obtain ⟨v, hv, ok⟩ := e.cell i c h
  refine ⟨v, hv, ?_⟩
  cases c with
  | no => trivial
  | dat d => exact ok
  | own m =>
   obtain ⟨p, u, q1, q2, q3, q4⟩ := ok
   refine ⟨p, u, q1, q2, ?_, q4⟩
   rw [upd_ne (fun z => hn ⟨i, m, h, by rw [hv, q1, z]⟩)]; exact q3
end
structure CompI (K : PySem.W.Frag) (σ : Sl) (vs : List Nat) (C1 H1 : Hp) (ρ1 : En) (L : Addr) (acc : List D) (C H : Hp) (ρ : En) : Prop where
 env : EnvOk K C H (wipe σ vs) ρ
 step : Step C1 H1 C H (kf (wipe σ vs) (yk ρ1 vs))
 own : ∀ a, kf (wipe σ vs) ρ a → kf (wipe σ vs) (yk ρ1 vs) a
 lst : ∃ xs, H L = some (.lst xs) ∧ Iss K C acc xs
 core : C L = none
section
variable {K : PySem.W.Frag} {W : WX} {js vs : List Nat}
theorem no_exn {σ : Sl} {C H : Hp} {ρ : En} {α' α : Type} {R : Rel α' α} {t : Rd1 α'} {o : Option (Out α)} (h : At K (fun _ _ _ _ => False) R σ C H ρ t o) {a : α} {ρ' : En} (e : o = some (.ok a ρ')) {Q : α' → Hp → Prop}
  (hq : ∀ v C' H', Post K σ C H ρ C' H' ρ' → R C' H' σ ρ' v a → Q v H') : t H Q := by
 refine h _ Q e (fun b ρ2 z v C' H' p r => ?_) fun x ρ2 z => by cases z
 cases z
 exact hq v C' H' p r
theorem sd_comp {wi : TI} {fi : P (List D)} {tg : TG} {a : Tgt} {tt : TT} {tests : P Bool} {te : TE} {elt : P Rv} (hj : ∀ j ∈ js, j ∈ vs) (hi : Sd K W (wa1 K) wi fi) (hg : SdG K js tg a)
  (ht : Sd K (fun _ _ _ _ => False) BRel tt tests) (he : Sd K (fun _ _ _ _ => False) (VRel K) te elt) : Sd K W (VRel K) (tLc wi tg tt te vs) (jw vs fi a tests elt) := by
 intro σ C H ρ e out Q ho hok hex
 rcases zt (show yg (fi ρ) _ = some out from ho) with ⟨x, r, h1, rfl⟩ | ⟨ds, ρ1, h1, h2⟩
 ·refine hi σ C H ρ e _ _ h1 (fun a ρ' z => by cases z) fun x' ρ' z d C' H' p q => ?_
  cases z
  exact hex x r rfl d C' H' p q
 refine hi σ C H ρ e _ _ h1 (fun ds' ρ' z J C1 H1 p1 r => ?_) fun x' ρ' z => by cases z
 cases z
 intro L hL
 have e1 := p1.env
 have cL : C1 L = none := e1.ext.none hL
 have nL : ¬ kf σ ρ1 L := fun ⟨i, m, k1, k2⟩ => by
  obtain ⟨p, o, q1, q2, q3, q4⟩ := yba e1 k1
  rw [k2] at q1; cases q1
  rw [hL] at q3; cases q3
 have nLw : ¬ kf (wipe σ vs) (yk ρ1 vs) L := fun h => by
  obtain ⟨i, m, _, k1, k2⟩ := kz h
  exact nL ⟨i, m, k1, k2⟩
 cases hc : k9 vs a tests elt ds [] (yk ρ1 vs) with
 | none => simp only [hc] at h2; cases h2
 | some z =>
  obtain ⟨accF, ρF⟩ := z
  simp only [hc] at h2
  cases h2
  refine ⟨fun i n H' => ∃ acc C' ρ', n = ds.length - i ∧ i ≤ ds.length ∧ CompI K σ vs C1 H1 ρ1 L acc C' H' ρ' ∧ k9 vs a tests elt (ds.drop i) acc ρ' = some (accF, ρF),
   ⟨ds.length, [], C1, yk ρ1 vs, by simp, Nat.zero_le _, ⟨(e1.wipe).aside cL nLw (fun u z => by rw [hL] at z; cases z), (Step.newM e1.ext hL).weak fun _ z => z.elim, fun _ h => h, ⟨[], upd_same, jg⟩, cL⟩, hc⟩, ?_⟩
  rintro i n H' ⟨acc, C', ρ', rfl, hi', q, hcf⟩
  have it := r C' H' q.step.core q.env.ext i
  by_cases hlt : i < ds.length
  ·obtain ⟨d, hd⟩ : ∃ d, ds[i]? = some d := ⟨_, List.getElem?_eq_getElem hlt⟩
   rw [ja7 hd] at hcf
   refine .inr ⟨it.1 hlt, fun H2 => ∃ acc C2 ρ2, CompI K σ vs C1 H1 ρ1 L acc C2 H2 ρ2 ∧ k9 vs a tests elt (ds.drop (i + 1)) acc ρ2 = some (accF, ρF),
    fun H2 ⟨acc, C2, ρ2, k1, k2⟩ => ⟨ds.length - (i + 1), by omega, acc, C2, ρ2, rfl, hlt, k1, k2⟩, fun x H'' hy => ?_⟩
   obtain ⟨C'', st, hx⟩ := it.2.2 x H'' d hy hd
   have e2 : EnvOk K C'' H'' (wipe σ vs) ρ' := q.env.step st
   simp only [k9] at hcf
   cases z : a d ρ' with
   | none => simp only [z] at hcf; cases hcf
   | some ρ2 =>
    simp only [z] at hcf
    refine hg (wipe σ vs) C'' H'' ρ' d x ρ2 _ e2 hx z fun σ3 C3 H3 p3 => ?_
    have hw : wipe σ3 vs = wipe σ vs := wipe_eq p3.slot p3.len hj
    refine ⟨hw, ?_⟩
    -- what has been kept so far
    have st3 : Step C' H' C3 H3 (fun _ => False) := st.trans p3.step fun _ z => z.elim
    have own3 : ∀ b, kf σ3 ρ2 b → kf (wipe σ vs) (yk ρ1 vs) b := fun b h => q.own b (p3.own b h)
    -- the next turn's state
    have next : ∀ {C4 H4 : Hp} {ρ4 : En}, Post K σ3 C3 H3 ρ2 C4 H4 ρ4 → CompI K σ vs C1 H1 ρ1 L acc C4 H4 (yk ρ4 vs) := fun {C4 H4 ρ4} p4 => by
     obtain ⟨xs, l1, l2⟩ := q.lst
     have l3 : H3 L = some (.lst xs) := st3.keep L _ l1 vw fun z => z
     have nl3 : ¬ kf σ3 ρ2 L := fun h => nLw (own3 L h)
     have stA : Step C' H' C4 H4 (kf (wipe σ vs) (yk ρ1 vs)) := (st3.weak fun _ z => z.elim).trans (p4.step.weak fun b h => .inl (own3 b h)) fun b h => .inl h
     refine ⟨by rw [← hw]; exact p4.env.wipe, q.step.trans stA fun b h => .inl h, fun b h => ?_, ⟨xs, p4.step.keep L _ l3 vw nl3, Iss.mono (st3.core.trans p4.step.core) _ _ l2⟩, ?_⟩
     ·rw [← hw] at h
      obtain ⟨j, m, _, k1, k2⟩ := kz h
      exact own3 b (p4.own b ⟨j, m, k1, k2⟩)
     ·cases k : C4 L with
      | none => rfl
      | some u =>
       rcases stA.new L q.core (by rw [k]; exact fun z => by cases z) with z | z
       ·rw [l1] at z; cases z
       ·exact absurd z nLw
    cases y : tests ρ2 with
    | none => simp only [y] at hcf; cases hcf
    | some o =>
     cases o with
     | ex x' r' => simp only [y] at hcf; cases hcf
     | ok b ρ3 =>
      refine no_exn (ht σ3 C3 H3 ρ2 p3.env) y fun vb C4 H4 p4 r4 => ?_
      have r4 : vb = b := r4
      subst r4
      cases vb with
      | false =>
       simp only [y] at hcf
       show ∃ acc C2 ρ2, _
       exact ⟨acc, C4, _, next p4, hcf⟩
      | true =>
       simp only [y] at hcf
       show te σ3 H4 fun y H4 => _
       cases w : z9 elt ρ3 with
       | none => simp only [w] at hcf; cases hcf
       | some o =>
        cases o with
        | ex x' r' => simp only [w] at hcf; cases hcf
        | ok dy ρ5 =>
         simp only [w] at hcf
         by_cases hz : acc.length < sizeLine
         ·rw [if_pos hz] at hcf
          refine no_exn (xaa he σ3 C4 H4 ρ3 p4.env) w fun yv C5 H5 p5 r5 => ?_
          have nx := next (p4.trans p5)
          obtain ⟨xs, l1, l2⟩ := nx.lst
          refine ⟨xs, l1, by rw [l2.length]; exact hz, acc ++ [dy], C5, _, ⟨nx.env.aside nx.core (fun h => nLw (nx.own L h)) (fun u z => by rw [l1] at z; cases z; exact ⟨vw, fun _ z => by cases z⟩), ?_, nx.own, ⟨_, upd_same, l2.app (ze r5 jg)⟩, nx.core⟩, hcf⟩
          refine ⟨nx.step.core, ⟨fun b u h n => ?_, fun b h => ?_⟩, fun b u h nt hb => ?_, nx.step.new, fun b h => ?_, fun P q => wau (nx.step.tabs P q) (fun u z => by rw [l1] at z; cases z; exact ⟨vw, fun _ z => by cases z⟩)⟩
          ·rw [upd_ne (fun z => by rw [z, nx.core] at h; cases h)]; exact nx.env.ext.1 b u h n
          ·by_cases hbL : b = L
           ·rw [hbL]; exact nx.core
           ·rw [upd_ne hbL] at h; exact nx.env.ext.2 b h
          ·rw [upd_ne (fun z => by rw [z, hL] at h; cases h)]; exact nx.step.keep b u h nt hb
          ·by_cases hbL : b = L
           ·rw [hbL, upd_same] at h; cases h
           ·rw [upd_ne hbL] at h; exact nx.step.dom b h
         ·rw [if_neg hz] at hcf; cases hcf
  ·have ei : i = ds.length := by omega
   subst ei
   rw [List.drop_length] at hcf
   simp only [k9] at hcf
   cases hcf
   obtain ⟨xs, l1, l2⟩ := q.lst
   refine .inl ⟨it.2.1 (Nat.le_refl _), ?_⟩
   have el : ρ1.length = ρF.length := by rw [← e1.len, ← q.env.len, wipe_length]
   have stW : Step C1 H1 C' H' (kf σ ρ1) := q.step.weak fun b h => by
    obtain ⟨j, m, _, k1, k2⟩ := kz h
    exact .inl ⟨j, m, k1, k2⟩
   have ownR : ∀ b, kf σ (wak ρ1 ρF vs) b → kf σ ρ1 b := fun b ⟨j, m, k1, k2⟩ => by
    rw [yaa ρ1 ρF j el] at k1
    by_cases hjv : j ∈ vs
    ·rw [if_pos hjv] at k1; exact ⟨j, m, k1, k2⟩
    ·rw [if_neg hjv] at k1
     obtain ⟨j', m', _, z1, z2⟩ := kz (q.own b ⟨j, m, k1, by rw [vk, if_neg hjv]; exact k2⟩)
     exact ⟨j', m', z1, z2⟩
   -- a thing of a wiped slot is no thing within
   have apart : ∀ (j : Nat) (m : M) (p : Addr), j ∈ vs → ρ1[j]? = some (.own m) → σ[j]? = some (some (.ref p)) → ¬ kf (wipe σ vs) (yk ρ1 vs) p := fun j m p hjv k1 k2 h => by
    obtain ⟨j', m', hn, z1, z2⟩ := kz h
    exact hn (by rw [← e1.inj j j' m m' p k1 z1 k2 z2]; exact hjv)
   have envR : EnvOk K C' H' σ (wak ρ1 ρF vs) := by
    refine ⟨by rw [vaa, ← el]; exact e1.len, q.env.ext, fun j c k => ?_, fun i j m n b k1 k2 k3 k4 => ?_, q.env.tab⟩
    ·rw [yaa ρ1 ρF j el] at k
     by_cases hjv : j ∈ vs
     ·rw [if_pos hjv] at k
      obtain ⟨v, hv, ok⟩ := e1.cell j c k
      refine ⟨v, hv, ?_⟩
      cases c with
      | no => trivial
      | dat d => obtain ⟨y, hy, z⟩ := ok; exact ⟨y, hy, Is.mono q.step.core d y z⟩
      | own m =>
       obtain ⟨p, o, q1, q2, q3, q4⟩ := ok
       have ap := apart j m p hjv k (by rw [hv, q1])
       refine ⟨p, o, q1, ?_, q.step.keep p o q3 q4.nx.1 ap, q4.mono q.step.core⟩
       cases z : C' p with
       | none => rfl
       | some u =>
        rcases q.step.new p q2 (by rw [z]; exact fun z => by cases z) with z | z
        ·rw [q3] at z; cases z
        ·exact absurd z ap
     ·rw [if_neg hjv] at k
      obtain ⟨v, hv, ok⟩ := q.env.cell j c k
      rw [vk, if_neg hjv] at hv
      exact ⟨v, hv, ok⟩
    ·rw [yaa ρ1 ρF i el] at k1
     rw [yaa ρ1 ρF j el] at k2
     have out : ∀ (i : Nat) (m : M), i ∉ vs → ρF[i]? = some (.own m) → σ[i]? = some (some (.ref b)) → kf (wipe σ vs) (yk ρ1 vs) b := fun i m hn z1 z2 => q.own b ⟨i, m, z1, by rw [vk, if_neg hn]; exact z2⟩
     by_cases hiv : i ∈ vs
     ·rw [if_pos hiv] at k1
      by_cases hjv : j ∈ vs
      ·rw [if_pos hjv] at k2; exact e1.inj i j m n b k1 k2 k3 k4
      ·rw [if_neg hjv] at k2
       exact absurd (out j n hjv k2 k4) (apart i m b hiv k1 k3)
     ·rw [if_neg hiv] at k1
      by_cases hjv : j ∈ vs
      ·rw [if_pos hjv] at k2
       exact absurd (out i m hiv k1 k3) (apart j n b hjv k2 k4)
      ·rw [if_neg hjv] at k2
       exact q.env.inj i j m n b k1 k2 (by rw [vk, if_neg hiv]; exact k3) (by rw [vk, if_neg hjv]; exact k4)
   refine hok _ _ rfl (.ref L) C' H' (p1.trans ⟨stW, ownR, envR⟩) ?_
   exact ⟨L, _, rfl, q.core, l1, ⟨xs, rfl, l2⟩, fun h => nL (ownR L h), p1.step.dom L hL⟩
end
end PL
namespace PL
open PySem L2
def rvD : Rv → Bool
 | .bor _ => false
 | _ => true
def spF (K : PySem.W.Frag) (n : Nat) (F : P Rv) : Sp := fun vs H Q E => vs.length = n ∧ ∃ C cs out, EnvOk K C H (vs.map some) cs ∧ F cs = some out ∧
 (∀ r cs', out = .ok r cs' → rvD r = true ∧ ∀ v C' H', Post K (vs.map some) C H cs C' H' cs' → VOk K H C' H' (vs.map some) cs' v r → Q v H') ∧
 (∀ e cs', out = .ex e cs' → ∀ d C' H', Post K (vs.map some) C H cs C' H' cs' → ExnOk K C' e d → E (.ref e.c) d H')
def merge (fx : List Nat) : Nat → List Cell → En → Option (List Cell)
 | _, [], _ => some []
 | k, .own _ :: cs, .own m :: ρ => if k ∈ fx then (match merge fx (k + 1) cs ρ with
  | some r => some (.own m :: r)
  | none => none) else none
 | _, .own _ :: _, _ => none
 | k, c :: cs, _ :: ρ => match merge fx (k + 1) cs ρ with
  | some r => some (c :: r)
  | none => none
 | _, _ :: _, [] => none
def handed (n : Nat) (ρ : En) : Rv → Option Rv
 | .dat d => some (.dat d)
 | .new m => some (.new m)
 | .bor i => match ρ[i]? with
  | some (.dat d) => some (.dat d)
  | some (.own m) => if n ≤ i then some (.new m) else none
  | _ => none
def runF (fx : List Nat) (N : Nat) (body : P Fl) : P Rv := fun cs => match body (cs ++ List.replicate (N - cs.length) .no) with
 | some (.ok (.ret r) ρ) => (match handed cs.length ρ r with
  | some r' => (match merge fx 0 cs ρ with
   | some cs' => some (.ok r' cs')
   | none => none)
  | none => none)
 | some (.ok .next ρ) => (match merge fx 0 cs ρ with
  | some cs' => some (.ok (.dat (.s .non)) cs')
  | none => none)
 | some (.ex e ρ) => (match merge fx 0 cs ρ with
  | some cs' => some (.ex e cs')
  | none => none)
 | _ => none
theorem xap {fx : List Nat} : ∀ {k : Nat} {cs : List Cell} {ρ : En} {cs' : List Cell}, merge fx k cs ρ = some cs' → cs'.length = cs.length ∧
  ∀ i c, cs'[i]? = some c → (cs[i]? = some c ∧ ∀ m, c ≠ .own m) ∨ ∃ m m', c = .own m' ∧ cs[i]? = some (.own m) ∧ ρ[i]? = some (.own m') ∧ k + i ∈ fx
 | k, [], ρ, cs', h => by
  simp only [merge] at h
  cases h
  exact ⟨rfl, fun i c h => by simp at h⟩
 | k, c0 :: cs, ρ, cs', h => by
  have step : ∀ (c1 : Cell) (ρr : En) (r : List Cell), merge fx (k + 1) cs ρr = some r → cs' = c1 :: r → (ρr = ρ.tail) →
    ((c1 = c0 ∧ ∀ m, c1 ≠ .own m) ∨ ∃ m m', c1 = .own m' ∧ c0 = .own m ∧ ρ[0]? = some (.own m') ∧ k ∈ fx) → cs'.length = (c0 :: cs).length ∧
    ∀ i c, cs'[i]? = some c → ((c0 :: cs)[i]? = some c ∧ ∀ m, c ≠ .own m) ∨ ∃ m m', c = .own m' ∧ (c0 :: cs)[i]? = some (.own m) ∧ ρ[i]? = some (.own m') ∧ k + i ∈ fx := by
   intro c1 ρr r hr e et h0
   subst e
   obtain ⟨l, g⟩ := xap hr
   refine ⟨by rw [List.length_cons, List.length_cons, l], fun i c hc => ?_⟩
   cases i with
   | zero =>
    have hc : c1 = c := by simpa using hc
    subst hc
    rcases h0 with ⟨rfl, h1⟩ | ⟨m, m', rfl, rfl, h1, h2⟩
    ·exact .inl ⟨by simp, h1⟩
    ·exact .inr ⟨m, m', rfl, by simp, h1, h2⟩
   | succ i =>
    have hc : r[i]? = some c := by simpa using hc
    rcases g i c hc with ⟨h1, h2⟩ | ⟨m, m', h1, h2, h3, h4⟩
    ·exact .inl ⟨by simpa using h1, h2⟩
    ·refine .inr ⟨m, m', h1, by simpa using h2, ?_, by rw [show k + (i + 1) = k + 1 + i by omega]; exact h4⟩
     rw [et] at h3
     rw [List.getElem?_tail] at h3
     exact h3
  cases ρ with
  | nil => cases c0 <;> simp only [merge] at h <;> cases h
  | cons c2 ρ =>
   cases c0 with
   | no =>
    simp only [merge] at h
    cases q : merge fx (k + 1) cs ρ with
    | none => simp only [q] at h; cases h
    | some r => simp only [q] at h; cases h; exact step .no ρ r q rfl rfl (.inl ⟨rfl, fun m z => by cases z⟩)
   | dat d =>
    simp only [merge] at h
    cases q : merge fx (k + 1) cs ρ with
    | none => simp only [q] at h; cases h
    | some r => simp only [q] at h; cases h; exact step (.dat d) ρ r q rfl rfl (.inl ⟨rfl, fun m z => by cases z⟩)
   | own m =>
    cases c2 with
    | no => simp only [merge] at h; cases h
    | dat d => simp only [merge] at h; cases h
    | own m' =>
     simp only [merge] at h
     by_cases hk : k ∈ fx
     ·rw [if_pos hk] at h
      cases q : merge fx (k + 1) cs ρ with
      | none => simp only [q] at h; cases h
      | some r => simp only [q] at h; cases h; exact step (.own m') ρ r q rfl rfl (.inr ⟨m, m', rfl, rfl, rfl, hk⟩)
     ·rw [if_neg hk] at h; cases h
theorem vbb {fx : List Nat} : ∀ {k : Nat} {cs : List Cell} {ρ : En} {cs' : List Cell}, merge fx k cs ρ = some cs' → ∀ i m, cs[i]? = some (.own m) → ∃ m', ρ[i]? = some (.own m') ∧ cs'[i]? = some (.own m') ∧ k + i ∈ fx := by
 intro k cs ρ cs' h i m hi
 obtain ⟨l, g⟩ := xap h
 have il : i < cs'.length := by rw [l]; exact (List.getElem?_eq_some_iff.mp hi).1
 rcases g i _ (List.getElem?_eq_getElem il) with ⟨h1, h2⟩ | ⟨m1, m2, h1, h2, h3, h4⟩
 ·rw [hi] at h1
  exact absurd (Option.some.inj h1).symm (h2 m)
 ·exact ⟨m2, h3, by rw [List.getElem?_eq_getElem il, h1], h4⟩
section
variable {K : PySem.W.Frag} {W : WX} {fx : List Nat}
theorem ka9 {N : List Str} {vs : List V} {i : Nat} {v : V} (h : (L2.start N vs)[i]? = some (some v)) : (vs.map some)[i]? = some (some v) ∧ i < vs.length := by
 unfold L2.start at h
 by_cases hi : i < vs.length
 ·rw [List.getElem?_append_left (by rw [List.length_map]; exact hi)] at h
  exact ⟨h, hi⟩
 ·rw [List.getElem?_append_right (by rw [List.length_map]; omega)] at h
  have := List.mem_of_getElem? h
  rw [List.mem_replicate] at this
  cases this.2
theorem jav {N : List Str} {vs : List V} {i : Nat} {x : Option V} (h : (vs.map some)[i]? = some x) : (L2.start N vs)[i]? = some x := by
 unfold L2.start
 have hi : i < vs.length := by
  have := (List.getElem?_eq_some_iff.mp h).1
  rw [List.length_map] at this; exact this
 rw [List.getElem?_append_left (by rw [List.length_map]; exact hi)]
 exact h
theorem cs_get {cs : List Cell} {n i : Nat} {c : Cell} (h : (cs ++ List.replicate n .no)[i]? = some c) : cs[i]? = some c ∨ c = .no := by
 by_cases hi : i < cs.length
 ·rw [List.getElem?_append_left hi] at h
  exact .inl h
 ·rw [List.getElem?_append_right (by omega)] at h
  have := List.mem_of_getElem? h
  rw [List.mem_replicate] at this
  exact .inr this.2
theorem EnvOk.begin {C H : Hp} {vs : List V} {cs : List Cell} {N : List Str} (hN : vs.length ≤ N.length) (e : EnvOk K C H (vs.map some) cs) : EnvOk K C H (L2.start N vs) (cs ++ List.replicate (N.length - cs.length) .no) := by
 have le : cs.length = vs.length := by rw [← e.len, List.length_map]
 refine ⟨by unfold L2.start; rw [List.length_append, List.length_append, List.length_map, List.length_replicate, List.length_replicate, le], e.ext, fun i c h => ?_, fun i j m n a h1 h2 h3 h4 => ?_, e.tab⟩
 ·rcases cs_get h with h1 | rfl
  ·obtain ⟨v, hv, ok⟩ := e.cell i c h1
   exact ⟨v, jav hv, ok⟩
  ·have hl : i < (cs ++ List.replicate (N.length - cs.length) Cell.no).length := (List.getElem?_eq_some_iff.mp h).1
   have hs : i < (L2.start N vs).length := by
    unfold L2.start
    rw [List.length_append, List.length_map, List.length_replicate]
    rw [List.length_append, List.length_replicate] at hl
    omega
   exact ⟨(L2.start N vs)[i], List.getElem?_eq_getElem hs, trivial⟩
 ·rcases cs_get h1 with h1 | z
  ·rcases cs_get h2 with h2 | z
   ·exact e.inj i j m n a h1 h2 (ka9 h3).1 (ka9 h4).1
   ·cases z
  ·cases z
theorem vba {vs : List V} {cs : List Cell} {N : List Str} {n : Nat} {a : Addr} (h : kf (L2.start N vs) (cs ++ List.replicate n .no) a) : kf (vs.map some) cs a := by
 obtain ⟨i, m, h1, h2⟩ := h
 rcases cs_get h1 with h1 | z
 ·exact ⟨i, m, h1, (ka9 h2).1⟩
 ·cases z
theorem Post.finish {C H C' H' : Hp} {vs : List V} {cs cs' : List Cell} {N : List Str} {n : Nat} {σ' : Sl} {ρ' : En} (e : EnvOk K C H (vs.map some) cs) (p : PostS K fx (L2.start N vs) C H (cs ++ List.replicate n .no) σ' C' H' ρ') (hm : merge fx 0 cs ρ' = some cs') :
  Post K (vs.map some) C H cs C' H' cs' := by
 obtain ⟨l, g⟩ := xap hm
 have st : Step C H C' H' (kf (vs.map some) cs) := p.step.weak fun a z => .inl (vba z)
 have slot : ∀ (i : Nat) (m : M), cs[i]? = some (.own m) → σ'[i]? = (vs.map some)[i]? := fun i m h => by
  obtain ⟨m', h1, h2, h3⟩ := vbb hm i m h
  rw [Nat.zero_add] at h3
  rw [p.fix i h3]
  obtain ⟨v, hv, _⟩ := e.cell i _ h
  rw [hv]
  exact jav hv
 refine ⟨st, fun a ⟨i, m, h1, h2⟩ => ?_, ⟨by rw [l]; exact e.len, p.env.ext, fun i c h => ?_, fun i j m n a h1 h2 h3 h4 => ?_, p.env.tab⟩⟩
 ·rcases g i _ h1 with ⟨k1, k2⟩ | ⟨m1, m2, k1, k2, k3, k4⟩
  ·exact absurd rfl (k2 m)
  ·exact ⟨i, m1, k2, h2⟩
 ·rcases g i _ h with ⟨k1, k2⟩ | ⟨m1, m2, rfl, k2, k3, k4⟩
  ·obtain ⟨v, hv, ok⟩ := e.cell i c k1
   refine ⟨v, hv, ?_⟩
   cases c with
   | no => trivial
   | dat d => obtain ⟨y, hy, z⟩ := ok; exact ⟨y, hy, Is.mono st.core d y z⟩
   | own m => exact absurd rfl (k2 m)
  ·obtain ⟨v, hv, ok⟩ := p.env.cell i _ k3
   rw [slot i m1 k2] at hv
   exact ⟨v, hv, ok⟩
 ·rcases g i _ h1 with ⟨k1, k2⟩ | ⟨m1, m2, k1, k2, k3, k4⟩
  ·exact absurd rfl (k2 m)
  ·rcases g j _ h2 with ⟨q1, q2⟩ | ⟨n1, n2, q1, q2, q3, q4⟩
   ·exact absurd rfl (q2 n)
   ·exact p.env.inj i j m2 n2 a k3 q3 (by rw [slot i m1 k2]; exact h3) (by rw [slot j n1 q2]; exact h4)
theorem VOk.finish {C H C' H' : Hp} {vs : List V} {cs cs' : List Cell} {N : List Str} {n : Nat} {σ' : Sl} {ρ' : En} {v : V} {r r' : Rv} (e : EnvOk K C H (vs.map some) cs) (p : PostS K fx (L2.start N vs) C H (cs ++ List.replicate n .no) σ' C' H' ρ')
  (hm : merge fx 0 cs ρ' = some cs') (h : VOk K H C' H' σ' ρ' v r) (hh : handed cs.length ρ' r = some r') : rvD r' = true ∧ VOk K H C' H' (vs.map some) cs' v r' := by
 obtain ⟨l, g⟩ := xap hm
 have P := Post.finish e p hm
 have slot : ∀ (i : Nat) (m : M), cs[i]? = some (.own m) → σ'[i]? = (vs.map some)[i]? := fun i m h => by
  obtain ⟨m', h1, h2, h3⟩ := vbb hm i m h
  rw [Nat.zero_add] at h3
  rw [p.fix i h3]
  obtain ⟨v, hv, _⟩ := e.cell i _ h
  rw [hv]
  exact jav hv
 have up : ∀ a, kf (vs.map some) cs' a → ∃ (i : Nat) (m : M), i < cs.length ∧ ρ'[i]? = some (.own m) ∧ σ'[i]? = some (some (.ref a)) := fun a ⟨i, m, h1, h2⟩ => by
  rcases g i _ h1 with ⟨k1, k2⟩ | ⟨m1, m2, k1, k2, k3, k4⟩
  ·exact absurd rfl (k2 m)
  ·exact ⟨i, m2, (List.getElem?_eq_some_iff.mp k2).1, k3, by rw [slot i m1 k2]; exact h2⟩
 cases r with
 | dat d => cases hh; exact ⟨rfl, h⟩
 | new m =>
  cases hh
  obtain ⟨a, o, h1, h2, h3, h4, h5, h6⟩ := h
  refine ⟨rfl, a, o, h1, h2, h3, h4, fun z => ?_, h6⟩
  obtain ⟨i, m, _, k1, k2⟩ := up a z
  exact h5 ⟨i, m, k1, k2⟩
 | bor i =>
  obtain ⟨h1, c, h2⟩ := h
  simp only [handed, h2] at hh
  obtain ⟨w, hw, ok⟩ := p.env.cell i c h2
  rw [h1] at hw; cases hw
  cases c with
  | no => cases hh
  | dat d =>
   cases hh
   obtain ⟨y, hy, z⟩ := ok
   cases hy
   exact ⟨rfl, z⟩
  | own m =>
   obtain ⟨hi, rfl⟩ := we hh
   obtain ⟨a, o, q1, q2, q3, q4⟩ := ok
   cases q1
   refine ⟨rfl, a, o, rfl, q2, q3, q4, fun z => ?_, ?_⟩
   ·obtain ⟨j, m', k0, k1, k2⟩ := up a z
    have := p.env.inj i j m m' a h2 k1 h1 k2
    omega
   ·rcases p.own a ⟨i, m, h2, h1⟩ with z | z
    ·obtain ⟨j, m', k1, k2⟩ := vba z
     obtain ⟨m2, k3, _, _⟩ := vbb hm j m' k1
     have hj : j < cs.length := (List.getElem?_eq_some_iff.mp k1).1
     have := p.env.inj i j m m2 a h2 k3 h1 (by rw [slot j m' k1]; exact k2)
     omega
    ·exact z
theorem fn_ok {P : Program} {w : World} {mg : Str → Option Value} {base : Heap} {x qual : Str} {st : Stmt} {f : Addr} {fd : FuncData} {N ps : List Str} {k : Nat} {n : Nat} {body : PL.P Fl} (F : Fun K x qual st f fd) (S : FnScope N ps (defScope st)) (hn : ps.length = n) (hN : n ≤ N.length)
  (hbody : ∀ (cdv : Value) (A : Around) (outer : List PySem.Env) (s : Shared) (H : Hp) (E : XK), Room k (A.deeper (PyProof.Rows.envOfC qual (defScope st) s.heap.objs.size f cdv)) →
   ∃ t, PSs (cxOf (L2.CX P w) P w K mg base N qual (defScope st) f cdv A outer s H E) (defBody st) t ∧ SdS K (fun cls d _ H => E cls d H) fx t body) :
  FnOk P w K mg base (L2.CX P w) (k + 1) f fd ps (spF K n (runF fx N.length body)) := by
 refine F.okX S (fun vs H Q E h => by rw [hn]; exact h.1) fun cdv A outer s H vs Q E hr h => ?_
 obtain ⟨t, ht, hs⟩ := hbody cdv A outer s H E hr
 refine ⟨t, ht, ?_⟩
 obtain ⟨hl, C, cs, out, e, ho, hok, hex⟩ := h
 have hlen : vs.length ≤ N.length := by rw [hl]; exact hN
 have e0 := EnvOk.begin (N := N) hlen e
 unfold runF at ho
 cases q : body (cs ++ List.replicate (N.length - cs.length) .no) with
 | none => rw [q] at ho; cases ho
 | some o =>
  rw [q] at ho
  refine hs (L2.start N vs) C H _ o _ e0 q ?_
  cases o with
  | ex x r =>
   dsimp only at ho
   cases z : merge fx 0 cs r with
   | none => rw [z] at ho; cases ho
   | some cs' =>
    rw [z] at ho; cases ho
    exact fun d σ' C' H' p k => hex x cs' rfl d C' H' (Post.finish e p z) k
  | ok fl r =>
   cases fl with
   | next =>
    dsimp only at ho
    cases z : merge fx 0 cs r with
    | none => rw [z] at ho; cases ho
    | some cs' =>
     rw [z] at ho; cases ho
     exact fun σ' C' H' p => (hok _ cs' rfl).2 .non C' H' (Post.finish e p z) (show Is K C' (.s .non) .non from is_s)
   | brk => cases ho
   | cont => cases ho
   | ret v =>
    dsimp only at ho
    cases y : handed cs.length r v with
    | none => rw [y] at ho; cases ho
    | some r' =>
     rw [y] at ho
     dsimp only at ho
     cases z : merge fx 0 cs r with
     | none => rw [z] at ho; cases ho
     | some cs' =>
      rw [z] at ho; cases ho
      exact fun u σ' C' H' p k => (hok r' cs' rfl).2 u C' H' (Post.finish e p z) (VOk.finish e p z k y).2
end
abbrev Arg := Sum D Nat
def ArgOk (K : PySem.W.Frag) (C : Hp) (σ : Sl) : List Arg → List V → Prop
 | [], vs => vs = []
 | .inl d :: as, vs => ∃ v r, vs = v :: r ∧ Is K C d v ∧ ArgOk K C σ as r
 | .inr i :: as, vs => ∃ v r, vs = v :: r ∧ σ[i]? = some (some v) ∧ ArgOk K C σ as r
theorem ArgOk.mono {K : PySem.W.Frag} {C C' : Hp} {σ : Sl} (e : Ex C C') : ∀ {as : List Arg} {vs : List V}, ArgOk K C σ as vs → ArgOk K C' σ as vs
 | [], vs, h => h
 | .inl d :: as, vs, h => by
  obtain ⟨v, r, h1, h2, h3⟩ := h
  exact ⟨v, r, h1, Is.mono e d v h2, ArgOk.mono e h3⟩
 | .inr i :: as, vs, h => by
  obtain ⟨v, r, h1, h2, h3⟩ := h
  exact ⟨v, r, h1, h2, ArgOk.mono e h3⟩
def ARel (K : PySem.W.Frag) (_ : Hp) : Rel (List V) (List Arg) := fun C _ σ _ vs as => ArgOk K C σ as vs
def uNil : P (List Arg) := P.ret []
def uD (f : P Rv) (g : P (List Arg)) : P (List Arg) := (z9 f).bind fun d => g.bind fun as => P.ret (.inl d :: as)
def uM (i : Nat) (g : P (List Arg)) : P (List Arg) := (ownS i).bind fun _ => g.bind fun as => P.ret (.inr i :: as)
where ownS (i : Nat) : P Unit := fun ρ => match ρ[i]? with
 | some (.own _) => some (.ok () ρ)
 | _ => none
def cellsOf (ρ : En) : List Arg → Option (List Cell)
 | [] => some []
 | .inl d :: as => match cellsOf ρ as with
  | some cs => some (.dat d :: cs)
  | none => none
 | .inr i :: as => match ρ[i]? with
  | some (.own m) => (match cellsOf ρ as with
   | some cs => some (.own m :: cs)
   | none => none)
  | _ => none
def slotsOf : List Arg → List Nat
 | [] => []
 | .inl _ :: as => slotsOf as
 | .inr i :: as => i :: slotsOf as
def qr (ρ : En) : List Arg → List Cell → En
 | .inl _ :: as, _ :: cs => qr ρ as cs
 | .inr i :: as, c :: cs => (qr ρ as cs).set i c
 | _, _ => ρ
def wq (n : Nat) (F : P Rv) (as : List Arg) : P Rv := fun ρ => if (slotsOf as).Nodup ∧ as.length = n then (match cellsOf ρ as with
 | none => none
 | some cs => match F cs with
  | none => none
  | some (.ok r cs') => some (.ok r (qr ρ as cs'))
  | some (.ex e cs') => some (.ex e (qr ρ as cs'))) else none
def wd (n : Nat) (F : P Rv) (fs : P (List Arg)) : P Rv := fs.bind fun as => wq n F as
section
variable {K : PySem.W.Frag} {W : WX}
theorem su_nil : Sd K W (ARel K) tNil uNil := fun σ C H ρ e => At.ret (R := ARel K H) (v := []) e rfl
theorem su_d {ta : TE} {tr : TA} {f : P Rv} {g : P (List Arg)} (ha : Sd K W (VRel K) ta f) (hr : Sd K W (ARel K) tr g) : Sd K W (ARel K) (tCons ta tr) (uD f g) := by
 intro σ C H ρ e
 show At K W (ARel K H) σ C H ρ (fun H Q => ta σ H fun x H1 => tr σ H1 fun xs H2 => Q (x :: xs) H2) (yg (z9 f ρ) fun d => g.bind fun ds => P.ret (.inl d :: ds))
 refine At.bind (tk := fun x H1 Q => tr σ H1 fun xs H2 => Q (x :: xs) H2) (xaa ha σ C H ρ e) fun d ρ1 x C1 H1 p1 r1 => ?_
 refine At.bind (tk := fun xs H2 Q => Q (x :: xs) H2) (hr σ C1 H1 ρ1 p1.env) fun ds ρ2 vs C2 H2 p2 r2 => ?_
 exact At.ret (R := ARel K H) (v := x :: vs) p2.env ⟨x, vs, rfl, Is.mono p2.step.core d x r1, r2⟩
theorem su_m {i : Nat} {tr : TA} {g : P (List Arg)} (hr : Sd K W (ARel K) tr g) : Sd K W (ARel K) (tCons (tVar i) tr) (uM i g) := by
 intro σ C H ρ e
 unfold uM P.bind uM.ownS
 cases q : ρ[i]? with
 | none => exact At.nil
 | some c =>
  cases c with
  | no => exact At.nil
  | dat d => exact At.nil
  | own m =>
   obtain ⟨a, o, h1, h2, h3, h4⟩ := yba e q
   refine At.imp (t := fun H Q => tr σ H fun xs H2 => Q (.ref a :: xs) H2) ?_ fun Q h => ⟨.ref a, h1, h⟩
   refine At.bind (tk := fun xs H2 Q => Q (.ref a :: xs) H2) (hr σ C H ρ e) fun ds ρ2 vs C2 H2 p2 r2 => ?_
   exact At.ret (R := ARel K H) (v := .ref a :: vs) p2.env ⟨_, vs, rfl, h1, r2⟩
theorem xad {σ : Sl} {C : Hp} {ρ : En} : ∀ {as : List Arg} {vs : List V} {cs : List Cell}, ArgOk K C σ as vs → cellsOf ρ as = some cs → cs.length = vs.length ∧
  ∀ (k : Nat) (c : Cell), cs[k]? = some c → (∃ d v, c = .dat d ∧ vs[k]? = some v ∧ Is K C d v) ∨ ∃ i m v, c = .own m ∧ ρ[i]? = some (.own m) ∧ σ[i]? = some (some v) ∧ vs[k]? = some v ∧ as[k]? = some (.inr i)
 | [], vs, cs, h, hc => by cases hc; cases h; exact ⟨rfl, fun k c z => by simp at z⟩
 | .inl d :: as, vs, cs, h, hc => by
  obtain ⟨v, r, rfl, h2, h3⟩ := h
  simp only [cellsOf] at hc
  cases q : cellsOf ρ as with
  | none => rw [q] at hc; cases hc
  | some cs' =>
   rw [q] at hc; cases hc
   obtain ⟨l, g⟩ := xad h3 q
   refine ⟨by rw [List.length_cons, List.length_cons, l], fun k c z => ?_⟩
   cases k with
   | zero => exact .inl ⟨d, v, by simpa using z.symm, by simp, h2⟩
   | succ k =>
    rcases g k c (by simpa using z) with ⟨d', v', k1, k2, k3⟩ | ⟨i, m, v', k1, k2, k3, k4, k5⟩
    ·exact .inl ⟨d', v', k1, by simpa using k2, k3⟩
    ·exact .inr ⟨i, m, v', k1, k2, k3, by simpa using k4, by simpa using k5⟩
 | .inr i :: as, vs, cs, h, hc => by
  obtain ⟨v, r, rfl, h2, h3⟩ := h
  simp only [cellsOf] at hc
  cases q0 : ρ[i]? with
  | none => simp only [q0] at hc; cases hc
  | some c0 =>
   cases c0 with
   | no => simp only [q0] at hc; cases hc
   | dat d => simp only [q0] at hc; cases hc
   | own m =>
    simp only [q0] at hc
    cases q : cellsOf ρ as with
    | none => simp only [q] at hc; cases hc
    | some cs' =>
     simp only [q] at hc; cases hc
     obtain ⟨l, g⟩ := xad h3 q
     refine ⟨by rw [List.length_cons, List.length_cons, l], fun k c z => ?_⟩
     cases k with
     | zero => exact .inr ⟨i, m, v, by simpa using z.symm, q0, h2, by simp, by simp⟩
     | succ k =>
      rcases g k c (by simpa using z) with ⟨d', v', k1, k2, k3⟩ | ⟨i, m, v', k1, k2, k3, k4, k5⟩
      ·exact .inl ⟨d', v', k1, by simpa using k2, k3⟩
      ·exact .inr ⟨i, m, v', k1, k2, k3, by simpa using k4, by simpa using k5⟩
theorem slots_inj : ∀ {as : List Arg}, (slotsOf as).Nodup → ∀ {j k i : Nat}, as[j]? = some (.inr i) → as[k]? = some (.inr i) → j = k
 | [], _, j, k, i, h, _ => by simp at h
 | .inl d :: as, hn, 0, k, i, h, _ => by simp at h
 | .inl d :: as, hn, j + 1, 0, i, _, h => by simp at h
 | .inl d :: as, hn, j + 1, k + 1, i, h1, h2 => by have z := slots_inj (as := as) hn (j := j) (k := k) (i := i) (by simpa using h1) (by simpa using h2); omega
 | .inr i0 :: as, hn, 0, 0, i, h1, h2 => rfl
 | .inr i0 :: as, hn, 0, k + 1, i, h1, h2 => by
  simp at h1; subst h1
  exact absurd (slots_mem (by simpa using h2)) (List.nodup_cons.mp hn).1
 | .inr i0 :: as, hn, j + 1, 0, i, h1, h2 => by
  simp at h2; subst h2
  exact absurd (slots_mem (by simpa using h1)) (List.nodup_cons.mp hn).1
 | .inr i0 :: as, hn, j + 1, k + 1, i, h1, h2 => by have z := slots_inj (as := as) (List.nodup_cons.mp hn).2 (j := j) (k := k) (i := i) (by simpa using h1) (by simpa using h2); omega
where slots_mem : ∀ {as : List Arg} {k i : Nat}, as[k]? = some (.inr i) → i ∈ slotsOf as
 | [], k, i, h => by simp at h
 | .inl d :: as, 0, i, h => by simp at h
 | .inl d :: as, k + 1, i, h => slots_mem (as := as) (by simpa using h)
 | .inr i0 :: as, 0, i, h => by simp at h; subst h; exact List.mem_cons_self
 | .inr i0 :: as, k + 1, i, h => List.mem_cons_of_mem _ (slots_mem (as := as) (by simpa using h))
theorem ybd (ρ : En) : ∀ (as : List Arg) (cs : List Cell), (qr ρ as cs).length = ρ.length
 | [], cs => by simp [qr]
 | .inl _ :: as, [] => by simp [qr]
 | .inr _ :: as, [] => by simp [qr]
 | .inl _ :: as, _ :: cs => by simp only [qr]; exact ybd ρ as cs
 | .inr i :: as, c :: cs => by simp only [qr]; rw [List.length_set]; exact ybd ρ as cs
theorem wbd (ρ : En) : ∀ (as : List Arg) (cs : List Cell), as.length = cs.length → (slotsOf as).Nodup → ∀ (i : Nat) (c : Cell), (qr ρ as cs)[i]? = some c →
  (ρ[i]? = some c ∧ i ∉ slotsOf as) ∨ ∃ (k : Nat), as[k]? = some (.inr i) ∧ cs[k]? = some c
 | [], [], _, hn, i, c, h => .inl ⟨h, by simp [slotsOf]⟩
 | .inl d :: as, c0 :: cs, hl, hn, i, c, h => by
  simp only [qr] at h
  rcases wbd ρ as cs (by simpa using hl) hn i c h with z | ⟨k, k1, k2⟩
  ·exact .inl z
  ·exact .inr ⟨k + 1, by simpa using k1, by simpa using k2⟩
 | .inr j :: as, c0 :: cs, hl, hn, i, c, h => by
  simp only [qr] at h
  have hn' := List.nodup_cons.mp (show (j :: slotsOf as).Nodup from hn)
  by_cases hj : j = i
  ·subst hj
   have hlt : j < (qr ρ as cs).length := by
    have := (List.getElem?_eq_some_iff.mp h).1
    rw [List.length_set] at this; exact this
   rw [List.getElem?_set_self hlt] at h
   exact .inr ⟨0, by simp, by simpa using h⟩
  ·rw [List.getElem?_set_ne hj] at h
   rcases wbd ρ as cs (by simpa using hl) hn'.2 i c h with ⟨z1, z2⟩ | ⟨k, k1, k2⟩
   ·exact .inl ⟨z1, by show i ∉ j :: slotsOf as; simp only [List.mem_cons, not_or]; exact ⟨fun z => hj z.symm, z2⟩⟩
   ·exact .inr ⟨k + 1, by simpa using k1, by simpa using k2⟩
theorem ArgOk.len {σ : Sl} {C : Hp} : ∀ {as : List Arg} {vs : List V}, ArgOk K C σ as vs → as.length = vs.length
 | [], vs, h => by cases h; rfl
 | .inl d :: as, vs, h => by
  obtain ⟨v, r, rfl, _, h3⟩ := h
  rw [List.length_cons, List.length_cons, ArgOk.len h3]
 | .inr i :: as, vs, h => by
  obtain ⟨v, r, rfl, _, h3⟩ := h
  rw [List.length_cons, List.length_cons, ArgOk.len h3]
theorem ArgOk.at {σ : Sl} {C : Hp} : ∀ {as : List Arg} {vs : List V}, ArgOk K C σ as vs → ∀ {k i : Nat}, as[k]? = some (.inr i) → ∃ v, vs[k]? = some v ∧ σ[i]? = some (some v)
 | [], vs, h, k, i, e => by simp at e
 | .inl d :: as, vs, h, 0, i, e => by simp at e
 | .inl d :: as, vs, h, k + 1, i, e => by
  obtain ⟨v, r, rfl, _, h3⟩ := h
  obtain ⟨w, h4, h5⟩ := ArgOk.at h3 (k := k) (i := i) (by simpa using e)
  exact ⟨w, by simpa using h4, h5⟩
 | .inr j :: as, vs, h, 0, i, e => by
  obtain ⟨v, r, rfl, h2, h3⟩ := h
  simp at e; subst e
  exact ⟨v, by simp, h2⟩
 | .inr j :: as, vs, h, k + 1, i, e => by
  obtain ⟨v, r, rfl, _, h3⟩ := h
  obtain ⟨w, h4, h5⟩ := ArgOk.at h3 (k := k) (i := i) (by simpa using e)
  exact ⟨w, by simpa using h4, h5⟩
theorem EnvOk.args {σ : Sl} {C H : Hp} {ρ : En} {as : List Arg} {vs : List V} {cs : List Cell} (e : EnvOk K C H σ ρ) (ha : ArgOk K C σ as vs) (hn : (slotsOf as).Nodup) (hc : cellsOf ρ as = some cs) : EnvOk K C H (vs.map some) cs := by
 obtain ⟨l, g⟩ := xad ha hc
 refine ⟨by rw [List.length_map, l], e.ext, fun k c h => ?_, fun j k m n a h1 h2 h3 h4 => ?_, e.tab⟩
 ·rcases g k c h with ⟨d, v, rfl, k1, k2⟩ | ⟨i, m, v, rfl, k1, k2, k3, k4⟩
  ·exact ⟨some v, by rw [List.getElem?_map, k1]; rfl, v, rfl, k2⟩
  ·obtain ⟨w, hw, ok⟩ := e.cell i _ k1
   rw [k2] at hw; cases hw
   exact ⟨some v, by rw [List.getElem?_map, k3]; rfl, ok⟩
 ·rcases g j _ h1 with ⟨d, v, z, _⟩ | ⟨i1, m1, v1, q1, q2, q3, q4, q5⟩
  ·cases z
  ·rcases g k _ h2 with ⟨d, v, z, _⟩ | ⟨i2, m2, v2, r1, r2, r3, r4, r5⟩
   ·cases z
   ·rw [List.getElem?_map, q4] at h3
    rw [List.getElem?_map, r4] at h4
    have e1 : v1 = .ref a := Option.some.inj (Option.some.inj h3)
    have e2 : v2 = .ref a := Option.some.inj (Option.some.inj h4)
    subst e1 e2
    have := e.inj i1 i2 m1 m2 a q2 r2 q3 r3
    subst this
    exact slots_inj hn q5 r5
theorem wbh {σ : Sl} {C H : Hp} {ρ : En} {as : List Arg} {vs : List V} {cs : List Cell} (ha : ArgOk K C σ as vs) (hc : cellsOf ρ as = some cs) {a : Addr} (h : kf (vs.map some) cs a) : ∃ (i : Nat) (m : M) (k : Nat), ρ[i]? = some (.own m) ∧ σ[i]? = some (some (.ref a)) ∧ as[k]? = some (.inr i) := by
 obtain ⟨l, g⟩ := xad ha hc
 obtain ⟨k, m, h1, h2⟩ := h
 rcases g k _ h1 with ⟨d, v, z, _⟩ | ⟨i, m1, v1, q1, q2, q3, q4, q5⟩
 ·cases z
 ·rw [List.getElem?_map, q4] at h2
  have e1 : v1 = .ref a := Option.some.inj (Option.some.inj h2)
  subst e1
  exact ⟨i, m1, k, q2, q3, q5⟩
theorem Post.back {σ : Sl} {C H C' H' : Hp} {ρ : En} {as : List Arg} {vs : List V} {cs cs' : List Cell} (e : EnvOk K C H σ ρ) (ha : ArgOk K C σ as vs) (hn : (slotsOf as).Nodup) (hc : cellsOf ρ as = some cs)
  (p : Post K (vs.map some) C H cs C' H' cs') : Post K σ C H ρ C' H' (qr ρ as cs') := by
 obtain ⟨l, g⟩ := xad ha hc
 have sub : ∀ a, kf (vs.map some) cs a → kf σ ρ a := fun a h => by
  obtain ⟨i, m, k, h1, h2, _⟩ := wbh (H := H) ha hc h
  exact ⟨i, m, h1, h2⟩
 have l' : as.length = cs'.length := by
  have := p.env.len
  rw [List.length_map] at this
  rw [← this]
  exact ha.len
 have st : Step C H C' H' (kf σ ρ) := p.step.weak fun a z => .inl (sub a z)
 have bg := wbd ρ as cs' l' hn
 have up : ∀ (i k : Nat) (c : Cell), as[k]? = some (.inr i) → cs'[k]? = some c → ∃ v, σ[i]? = some (some v) ∧ vs[k]? = some v ∧ CellOk K C' H' (some v) c := fun i k c h1 h2 => by
  obtain ⟨w, hw, ok⟩ := p.env.cell k c h2
  obtain ⟨v, h3, h4⟩ := ha.at h1
  rw [List.getElem?_map, h3] at hw
  have e1 : some v = w := Option.some.inj hw
  subst e1
  exact ⟨v, h4, h3, ok⟩
 -- an own slot that is no argument
 have apart : ∀ (i : Nat) (m : M) (a : Addr), ρ[i]? = some (.own m) → i ∉ slotsOf as → σ[i]? = some (some (.ref a)) → ¬ kf (vs.map some) cs a := fun i m a h1 h2 h3 h => by
  obtain ⟨j, n, k, k1, k2, k3⟩ := wbh (H := H) ha hc h
  have := e.inj i j m n a h1 k1 h3 k2
  subst this
  exact h2 (slots_inj.slots_mem k3)
 refine ⟨st, fun a ⟨i, m, h1, h2⟩ => ?_, ⟨by rw [ybd]; exact e.len, p.env.ext, fun i c h => ?_, fun i j m n a h1 h2 h3 h4 => ?_, p.env.tab⟩⟩
 ·rcases bg i _ h1 with ⟨k1, _⟩ | ⟨k, k1, k2⟩
  ·exact ⟨i, m, k1, h2⟩
  ·obtain ⟨v, k3, k4, ok⟩ := up i k _ k1 k2
   rw [h2] at k3
   have e1 : v = .ref a := (Option.some.inj (Option.some.inj k3)).symm
   subst e1
   exact sub a (p.own a ⟨k, m, k2, by rw [List.getElem?_map, k4]; rfl⟩)
 ·rcases bg i c h with ⟨k1, k2⟩ | ⟨k, k1, k2⟩
  ·obtain ⟨v, hv, ok⟩ := e.cell i c k1
   refine ⟨v, hv, ?_⟩
   cases c with
   | no => trivial
   | dat d => obtain ⟨y, hy, z⟩ := ok; exact ⟨y, hy, Is.mono st.core d y z⟩
   | own m =>
    obtain ⟨q, o, q1, q2, q3, q4⟩ := ok
    have ap := apart i m q k1 k2 (by rw [hv, q1])
    refine ⟨q, o, q1, ?_, p.step.keep q o q3 q4.nx.1 ap, q4.mono st.core⟩
    cases z : C' q with
    | none => rfl
    | some u =>
     rcases p.step.new q q2 (by rw [z]; exact fun z => by cases z) with z | z
     ·rw [q3] at z; cases z
     ·exact absurd z ap
  ·obtain ⟨v, k3, k4, ok⟩ := up i k c k1 k2
   exact ⟨some v, k3, ok⟩
 ·have cls : ∀ (i : Nat) (m : M), (qr ρ as cs')[i]? = some (.own m) → σ[i]? = some (some (.ref a)) → (∃ m', ρ[i]? = some (.own m')) := fun i m z1 z2 => by
   rcases bg i _ z1 with ⟨k1, _⟩ | ⟨k, k1, k2⟩
   ·exact ⟨m, k1⟩
   ·obtain ⟨v, k3, k4, ok⟩ := up i k _ k1 k2
    rw [z2] at k3
    have e1 : v = .ref a := (Option.some.inj (Option.some.inj k3)).symm
    subst e1
    obtain ⟨k', m', y1, y2⟩ := p.own a ⟨k, m, k2, by rw [List.getElem?_map, k4]; rfl⟩
    rcases g k' _ y1 with ⟨d, v, z, _⟩ | ⟨i2, m2, v2, r1, r2, r3, r4, r5⟩
    ·cases z
    ·rw [List.getElem?_map, r4] at y2
     have e2 : v2 = .ref a := Option.some.inj (Option.some.inj y2)
     subst e2
     have il : i < ρ.length := by rw [← e.len]; exact (List.getElem?_eq_some_iff.mp z2).1
     -- the slot i is an argument's, so its cell is own
     have : ∃ m', ρ[i]? = some (.own m') := by
      have hk : k < cs.length := by
       rw [l]
       exact (List.getElem?_eq_some_iff.mp k4).1
      rcases g k _ (List.getElem?_eq_getElem hk) with ⟨d, v, z, z3, z4⟩ | ⟨i3, m3, v3, s1, s2, s3, s4, s5⟩
      ·exfalso
       exact noinl hc k1 (by rw [List.getElem?_eq_getElem hk, z])
      ·rw [k1] at s5
       cases s5
       exact ⟨m3, s2⟩
     exact this
  obtain ⟨m', z1⟩ := cls i m h1 h3
  obtain ⟨n', z2⟩ := cls j n h2 h4
  exact e.inj i j m' n' a z1 z2 h3 h4
where noinl : ∀ {ρ : En} {as : List Arg} {cs : List Cell} {k i : Nat} {d : D}, cellsOf ρ as = some cs → as[k]? = some (.inr i) → cs[k]? = some (.dat d) → False
 | ρ, [], cs, k, i, d, h, h1, h2 => by simp at h1
 | ρ, .inl x :: as, cs, k, i, d, h, h1, h2 => by
  simp only [cellsOf] at h
  cases q : cellsOf ρ as with
  | none => rw [q] at h; cases h
  | some cs' =>
   rw [q] at h; cases h
   cases k with
   | zero => simp at h1
   | succ k => exact noinl q (by simpa using h1) (by simpa using h2)
 | ρ, .inr x :: as, cs, k, i, d, h, h1, h2 => by
  simp only [cellsOf] at h
  cases q0 : ρ[x]? with
  | none => simp only [q0] at h; cases h
  | some c0 =>
   cases c0 with
   | no => simp only [q0] at h; cases h
   | dat d => simp only [q0] at h; cases h
   | own m =>
    simp only [q0] at h
    cases q : cellsOf ρ as with
    | none => simp only [q] at h; cases h
    | some cs' =>
     simp only [q] at h; cases h
     cases k with
     | zero => simp at h2
     | succ k => exact noinl q (by simpa using h1) (by simpa using h2)
theorem ybu {σ : Sl} {C H : Hp} {ρ : En} {n : Nat} {F : P Rv} {as : List Arg} {vs : List V} {H0 : Hp} (e : EnvOk K C H σ ρ) (ha : ArgOk K C σ as vs) (hd : ∀ b, H b = none → H0 b = none)
  (hF : ∀ cs r cs', F cs = some (.ok r cs') → rvD r = true) :
  At K W (VRel K H0) σ C H ρ (fun H Q => spF K n F vs H Q (fun cls d H => W cls d σ H)) (wq n F as ρ) := by
 unfold wq
 by_cases hnd : (slotsOf as).Nodup ∧ as.length = n
 ·rw [if_pos hnd]
  obtain ⟨hnd, hn⟩ := hnd
  cases q : cellsOf ρ as with
  | none => exact At.nil
  | some cs =>
   dsimp only
   cases q2 : F cs with
   | none => exact At.nil
   | some out =>
    have ea := EnvOk.args e ha hnd q
    intro out' Q ho hok hex
    refine ⟨by rw [← hn]; exact ha.len.symm, C, cs, out, ea, q2, fun r cs' z => ?_, fun x cs' z d C' H' p k => ?_⟩
    ·subst z
     cases ho
     have hr := hF _ _ _ q2
     refine ⟨hr, fun v C' H' p k => ?_⟩
     have pb := Post.back e ha hnd q p
     refine hok r _ rfl v C' H' pb ?_
     cases r with
     | dat d => exact k
     | bor i => cases hr
     | new m =>
      obtain ⟨a, o, k1, k2, k3, k4, k5, k6⟩ := k
      refine ⟨a, o, k1, k2, k3, k4, fun z => ?_, hd a k6⟩
      obtain ⟨i, m', z1, z2⟩ := pb.own a z
      obtain ⟨b, o', y1, y2, y3, y4⟩ := yba e z1
      rw [z2] at y1; cases y1
      rw [k6] at y3; cases y3
    ·subst z
     cases ho
     exact hex x _ rfl d C' H' (Post.back e ha hnd q p) k
 ·rw [if_neg hnd]; exact At.nil
theorem zbo {fx : List Nat} {N : Nat} {body : P Fl} : ∀ cs r cs', runF fx N body cs = some (.ok r cs') → rvD r = true := by
 intro cs r cs' h
 unfold runF at h
 split at h
 ·rename_i r0 ρ _
  cases q : handed cs.length ρ r0 with
  | none => rw [q] at h; cases h
  | some r' =>
   rw [q] at h
   dsimp only at h
   cases q2 : merge fx 0 cs ρ with
   | none => rw [q2] at h; cases h
   | some cs2 =>
    rw [q2] at h
    cases h
    cases r0 with
    | dat d => cases q; rfl
    | new m => cases q; rfl
    | bor i =>
     unfold handed at q
     split at q
     ·rename_i z; cases z
     ·rename_i z; cases z
     ·split at q
      ·cases q; rfl
      ·split at q
       ·cases q; rfl
       ·cases q
      ·cases q
 ·rename_i ρ _
  cases q2 : merge fx 0 cs ρ with
  | none => rw [q2] at h; cases h
  | some cs2 => rw [q2] at h; cases h; rfl
 ·rename_i ρ _
  cases q2 : merge fx 0 cs ρ with
  | none => rw [q2] at h; cases h
  | some cs2 => rw [q2] at h; cases h
 ·cases h
theorem sd_call {n : Nat} {F : P Rv} {t : TA} {fs : P (List Arg)} (hF : ∀ cs r cs', F cs = some (.ok r cs') → rvD r = true) (hs : Sd K W (ARel K) t fs) :
  Sd K W (VRel K) (tCallS (spF K n F) (WE W) t) (wd n F fs) := by
 intro σ C H ρ e
 show At K W (VRel K H) σ C H ρ (fun H Q => t σ H fun vs H1 => spF K n F vs H1 Q (fun cls d H => W cls d σ H)) (yg (fs ρ) fun as => wq n F as)
 refine At.bind (tk := fun (vs : List V) (H1 : Hp) (Q : VK) => spF K n F vs H1 Q (fun cls d H => W cls d σ H)) (hs σ C H ρ e) fun as ρ1 vs C1 H1 p1 r1 => ?_
 exact ybu p1.env r1 p1.step.dom hF
end
end PL
namespace PL
open PySem L2
def asI (r : Rv) : P (Option Int) := fun ρ => match peek ρ r with
 | some (.s (.int i)) => some (.ok (some i) ρ)
 | _ => none
def zNo : P (Option Int) := P.ret none
def zAt (f : P Rv) : P (Option Int) := f.bind asI
def fSl (fo : P Rv) (lo hi : P (Option Int)) : P Rv := fo.bind fun ro => lo.bind fun l => hi.bind fun h => pk1 ro fun d => P.of (slD d l h)
section
variable {K : PySem.W.Frag} {W : WX} {te : TE} {tl tu : TO} {f : P Rv} {lo hi : P (Option Int)}
theorem sz_no : Sd K W IRel tNoPart zNo := fun σ C H ρ e => At.ret (R := IRel H) (v := none) e rfl
theorem sz_at (hf : Sd K W (VRel K) te f) : Sd K W IRel (tPart te) (zAt f) := by
 intro σ C H ρ e
 show At K W (IRel H) σ C H ρ (fun H Q => te σ H fun x H1 => ∃ i, x = .int i ∧ Q (some i) H1) (yg (f ρ) asI)
 refine At.bind (tk := fun (x : V) (H1 : Hp) (Q : Option Int → Hp → Prop) => ∃ i, x = .int i ∧ Q (some i) H1) (hf σ C H ρ e) fun r ρ1 x C1 H1 p1 r1 => ?_
 unfold asI
 cases q : peek ρ1 r with
 | none => exact At.nil
 | some d =>
  cases d with
  | s y =>
   cases y with
   | int i => exact At.imp (At.ret (R := IRel H) (v := some i) p1.env rfl) fun Q h => ⟨i, pk_s.mp (xm p1.env r1 q), h⟩
   | _ => exact At.nil
  | _ => exact At.nil
theorem sd_sl (hf : Sd K W (VRel K) te f) (hl : Sd K W IRel tl lo) (hh : Sd K W IRel tu hi) : Sd K W (VRel K) (tSl (rSlX K) te tl tu) (fSl f lo hi) := by
 intro σ C H ρ e
 show At K W (VRel K H) σ C H ρ (fun H Q => te σ H fun x H1 => tl σ H1 fun l H2 => tu σ H2 fun u H3 => rSlX K x l u H3 Q) (yg (f ρ) fun ro => lo.bind fun l => hi.bind fun h => pk1 ro fun d => P.of (slD d l h))
 refine At.bind (tk := fun (x : V) (H1 : Hp) (Q : VK) => tl σ H1 fun l H2 => tu σ H2 fun u H3 => rSlX K x l u H3 Q) (hf σ C H ρ e) fun ro ρ1 x C1 H1 p1 r1 => ?_
 refine At.bind (tk := fun (l : Option Int) (H2 : Hp) (Q : VK) => tu σ H2 fun u H3 => rSlX K x l u H3 Q) (hl σ C1 H1 ρ1 p1.env) fun l ρ2 vl C2 H2 p2 r2 => ?_
 refine At.bind (tk := fun (u : Option Int) (H3 : Hp) (Q : VK) => rSlX K x vl u H3 Q) (hh σ C2 H2 ρ2 p2.env) fun u ρ3 vu C3 H3 p3 r3 => ?_
 have r2 : vl = l := r2
 have r3 : vu = u := r3
 subst r2 r3
 have r1' := VOk.mono (VOk.mono r1 p1.env p2) p2.env p3
 refine At.pk1 fun d q1 => At.pof fun rv q3 => ?_
 exact At.giv p3.env (fun b h => p1.step.dom b (p2.step.dom b (p3.step.dom b h))) fun Q g => ok_sl p3.env.ext q3 (xm p3.env r1' q1) g
end
def py (d : D) : PyData := (toPy d).getD .none
def shp (d : D) : Bool := match toPy d with
 | some a => SeqAt.shaped a
 | none => false
def dle (x y : D) : Bool := PySem.W.dataLe false py x y
theorem yax {d : D} (h : shp d = true) : toPy d = some (py d) ∧ SeqAt.shaped (py d) = true := by
 unfold shp at h
 unfold py
 cases q : toPy d with
 | none => rw [q] at h; cases h
 | some a => rw [q] at h; exact ⟨rfl, h⟩
theorem xbx {a : PyData} (h : SeqAt.shaped a = true) : a.depth ≤ 64 := by
 have h : (a.canLay0 && decide (a.depth ≤ 64)) = true := h
 exact of_decide_eq_true (Bool.and_eq_true_iff.mp h).2
def vbr : PyData → Bool
 | .none => true
 | _ => false
theorem vb6 {d : PyData} (h : vbr d = false) : d ≠ .none := by
 rintro rfl
 cases h
def rLtD (K : PySem.W.Frag) : R2 := fun x y H Q => ∃ a b, Dp K H x a ∧ Dp K H y b ∧ SeqAt.shaped a = true ∧ PySem.W.alike a b = true ∧ a ≠ .none ∧ Q (.bl (PySem.W.dataLt a b)) H
theorem op_ltDt {X : Cx} (hu : X.A.units + 65 < cLine) : OpR X (compareOp .Lt) (rLtD X.K) := by
 intro pins s σ H x y v u Q I rx ry h
 obtain ⟨a, b, hx, hy, sa, hal, hn, q⟩ := h
 obtain ⟨as, r1⟩ := Dp.reads I a x v hx rx
 obtain ⟨bs, r2⟩ := Dp.reads I b y u hy ry
 have := xbx sa
 exact PySem.W.rcLt_alike a b X.A s v u as bs r1 r2 hal hn (by omega) X.prog X.w _ _ ⟨.bl _, H, I, rfl, q⟩
def ltB (x y : D) : Option Bool := match toPy x with
 | none => none
 | some a => match toPy y with
  | none => none
  | some b => if (SeqAt.shaped a && PySem.W.alike a b && !vbr a) = true then some (PySem.W.dataLt a b) else none
def ltXD : D → D → Option Rv
 | .s (.int i), .s (.int j) => some (rvB (decide (i < j)))
 | .s (.str a), .s (.str b) => some (rvB (strLt a b))
 | x, y => match ltB x y with
  | some b => some (rvB b)
  | none => none
def rLtXX (K : PySem.W.Frag) : R2 := fun x y H Q => rLtX x y H Q ∨ rLtD K x y H Q
theorem op_ltXX {X : Cx} (hu : X.A.units + 65 < cLine) : OpR X (compareOp .Lt) (rLtXX X.K) := op_ltX.or (op_ltDt hu)
theorem ok_ltXX {K : PySem.W.Frag} : R2Ok K (rLtXX K) ltXD := by
 intro C H e dx dy x y rv Q h hx hy g
 unfold ltXD at h
 split at h
 ·cases pk_s.mp hx; cases pk_s.mp hy; cases h
  exact .inl (.inl ⟨_, _, rfl, rfl, g.d e⟩)
 ·cases pk_s.mp hx; cases pk_s.mp hy; cases h
  exact .inl (.inr ⟨_, _, rfl, rfl, g.d e⟩)
 ·unfold ltB at h
  cases q1 : toPy dx with
  | none => rw [q1] at h; cases h
  | some a =>
   cases q2 : toPy dy with
   | none => rw [q1, q2] at h; cases h
   | some b =>
    rw [q1, q2] at h
    dsimp only at h
    by_cases hc : (SeqAt.shaped a && PySem.W.alike a b && !vbr a) = true
    ·rw [if_pos hc] at h
     cases h
     obtain ⟨h1, h2⟩ := Bool.and_eq_true_iff.mp hc
     obtain ⟨h3, h4⟩ := Bool.and_eq_true_iff.mp h1
     exact .inr ⟨a, b, qbg e q1 hx, qbg e q2 hy, h3, h4, vb6 (by simpa using h2), g.d e⟩
    ·rw [if_neg hc] at h; cases h
abbrev EIs {α β : Type} (R : α → β → Prop) := PySem.W.EachIs R
section
variable {X : Cx}
def va1 : D → D → Option Rv := mulD
def rMulXX (K : PySem.W.Frag) : R2 := fun x y H Q => rMulX K x y H Q
theorem op_mulXX : OpR X (binaryOp .Mult) (rMulXX X.K) := op_mulX
theorem ok_mulXX {K : PySem.W.Frag} : R2Ok K (rMulXX K) va1 := ok_mul
end
end PL
namespace PL
open PySem L2
structure CtxOk {ι : Type} (X : ι → Cx) (P : Program) (w : World) (K : PySem.W.Frag) (mg : Str → Option Value) (base : Heap) (k : Nat) (W : WX) (N : List Str) (sc : Scope) : Prop where
 pP : ∀ i, (X i).prog = P
 pw : ∀ i, (X i).w = w
 pK : ∀ i, (X i).K = K
 pm : ∀ i, (X i).mg = mg
 pb : ∀ i, (X i).base = base
 room : ∀ i, Room k (X i).A
 tk : ∀ i, Takes (X i) W
 calm : ∀ i, (X i).calm = true
 pass : ∀ i, PassesOwn (model (X i).prog (X i).w) (X i).A (X i).env (X i).xe
 nN : ∀ i, (X i).N = N
 ns : ∀ i, (X i).env.scope = sc
 nd' : N.Nodup
section
variable {ι : Type}
def BE (X : ι → Cx) (K : PySem.W.Frag) (W : WX) (e : Expr) (f : P Rv) : Prop := ∃ t, (∀ i, PE (X i) e t) ∧ Sd K W (VRel K) t f
def BT (X : ι → Cx) (K : PySem.W.Frag) (W : WX) (e : Expr) (g : P Bool) : Prop := ∃ t, (∀ i, PT (X i) e t) ∧ Sd K W BRel t g
def BW (X : ι → Cx) (K : PySem.W.Frag) (W : WX) (e : Expr) (g : P Bool) : Prop := ∃ t, (∀ i, PW (X i) e t) ∧ Sd K W BRel t g
def BTs (X : ι → Cx) (K : PySem.W.Frag) (W : WX) (e : List Expr) (g : P Bool) : Prop := ∃ t, (∀ i, PTs (X i) e t) ∧ Sd K W BRel t g
def BAv (X : ι → Cx) (K : PySem.W.Frag) (W : WX) (es : List Expr) (f : P (List Rv)) : Prop := ∃ t, (∀ i, PA (X i) es t) ∧ Sd K W (kbv K) t f
def BAd (X : ι → Cx) (K : PySem.W.Frag) (W : WX) (es : List Expr) (f : P (List D)) : Prop := ∃ t, (∀ i, PA (X i) es t) ∧ Sd K W (xah K) t f
def BAa (X : ι → Cx) (K : PySem.W.Frag) (W : WX) (es : List Expr) (f : P (List Arg)) : Prop := ∃ t, (∀ i, PA (X i) es t) ∧ Sd K W (ARel K) t f
def BO (X : ι → Cx) (K : PySem.W.Frag) (W : WX) (e : Option Expr) (f : P (Option Int)) : Prop := ∃ t, (∀ i, PO (X i) e t) ∧ Sd K W IRel t f
def BI (X : ι → Cx) (K : PySem.W.Frag) (W : WX) (tg e : Expr) (f : P (List D)) : Prop := ∃ t, (∀ i, PI (X i) tg e t) ∧ Sd K W (wa1 K) t f
def BG (X : ι → Cx) (K : PySem.W.Frag) (js : List Nat) (e : Expr) (a : Tgt) : Prop := ∃ t, (∀ i, PG (X i) e t) ∧ SdG K js t a
def BGs (X : ι → Cx) (K : PySem.W.Frag) (js : List Nat) (es : List Expr) (a : List D → En → Option En) : Prop := ∃ t, (∀ i, PGs (X i) es t) ∧ SdGs K js t a
def BS (X : ι → Cx) (K : PySem.W.Frag) (W : WX) (fx : List Nat) (st : Stmt) (g : P Fl) : Prop := ∃ t, (∀ i, PS (X i) st t) ∧ SdS K W fx t g
def BSs (X : ι → Cx) (K : PySem.W.Frag) (W : WX) (fx : List Nat) (st : List Stmt) (g : P Fl) : Prop := ∃ t, (∀ i, PSs (X i) st t) ∧ SdS K W fx t g
variable {X : ι → Cx} {P : Program} {w : World} {K : PySem.W.Frag} {mg : Str → Option Value} {base : Heap} {k : Nat} {W : WX} {N : List Str} {sc : Scope}
variable {a b c e o : Expr} {es : List Expr} {pos p p2 apos tpos : Pos} {x : Str} {fa fb fc fe : PL.P Rv} {g h : PL.P Bool}
theorem CtxOk.nd (B : CtxOk X P w K mg base k W N sc) (i : ι) : (X i).N.Nodup := by rw [B.nN i]; exact B.nd'
theorem CtxOk.at_ (B : CtxOk X P w K mg base k W N sc) {n : Nat} {x : Str} (h : N[n]? = some x) (i : ι) : (X i).N[n]? = some x := by rw [B.nN i]; exact h
theorem CtxOk.vis (B : CtxOk X P w K mg base k W N sc) {x : Str} (h : Vis sc x) (i : ι) : Vis (X i).env.scope x := by rw [B.ns i]; exact h
theorem CtxOk.lo (B : CtxOk X P w K mg base k W N sc) {x : Str} (h : Loc sc x) (i : ι) : Loc (X i).env.scope x := by rw [B.ns i]; exact h
theorem CtxOk.lcl (B : CtxOk X P w K mg base k W N sc) {x : Str} (h : sc.names.lookup x = some .local) (i : ι) : (X i).env.scope.names.lookup x = some .local := by rw [B.ns i]; exact h
theorem CtxOk.gl (B : CtxOk X P w K mg base k W N sc) {x : Str} (h : sc.names.lookup x = some .globalImplicit) (i : ι) : Gl (X i) x := by
 show (X i).env.scope.names.lookup x = some .globalImplicit
 rw [B.ns i]; exact h
theorem CtxOk.u64 (B : CtxOk X P w K mg base k W N sc) (i : ι) : (X i).A.units + 67 < cLine := by have := (B.room i).un; omega
theorem qa (B : CtxOk X P w K mg base k W N sc) (n : Nat) (hN : N[n]? = some x := by rfl) (hv : Vis sc x := by first | exact Or.inl rfl | exact Or.inr (Or.inl rfl) | exact Or.inr (Or.inr rfl)) (hd : (x == ("__debug__" : Str)) = false := by decide)
  (hcd : (x == ("__classdict__" : Str)) = false := by decide) : BE X K W (.Name x pos) (fVar n) := ⟨_, fun i => pe_var (B.at_ hN i) (B.vis hv i) hd hcd, sd_var⟩
theorem wa {z : Int} {j} : BE X K W (.Constant (.int z) j pos) (fC (.s (.int z))) := ⟨_, fun i => pe_int, sd_c⟩
theorem jb {z : Str} {j} : BE X K W (.Constant (.str z) j pos) (fC (.s (.str z))) := ⟨_, fun i => pe_str, sd_c⟩
theorem xl {z : Bool} {j} : BE X K W (.Constant (.bool z) j pos) (fC (.s (.bl z))) := ⟨_, fun i => pe_bl, sd_c⟩
theorem xn {j} : BE X K W (.Constant .none j pos) (fC (.s .non)) := ⟨_, fun i => pe_non, sd_c⟩
theorem be_glob {v : V} {u : Value} (B : CtxOk X P w K mg base k W N sc) (hm : mg x = some u) (r : RelV v u) (hg : sc.names.lookup x = some .globalImplicit := by rfl) (hd : (x == ("__debug__" : Str)) = false := by decide) : BE X K W (.Name x pos) (fC (.s v)) :=
 ⟨_, fun i => pe_glob (B.gl hg i) (by rw [B.pm i]; exact hm) r hd, sd_c⟩
theorem yad {T : String} (B : CtxOk X P w K mg base k W N sc) (hm : mg x = none) (hv : bootBuiltins x = some (.type T)) (hg : sc.names.lookup x = some .globalImplicit := by rfl) (hn : x ≠ "__name__" := by decide) (hd : (x == ("__debug__" : Str)) = false := by decide) : BE X K W (.Name x pos) (fC (.s (.ty T))) :=
 ⟨_, fun i => pe_bltn (B.gl hg i) (by rw [B.pm i]; exact hm) hv (show RelV (.ty T) (.type T) from rfl) hn hd, sd_c⟩
theorem be_op {op : Operator} {r : R2} {f : D → D → Option Rv} (ho : ∀ i, OpR (X i) (binaryOp op) r) (hr : R2Ok K r f) (ha : BE X K W a fa) (hb : BE X K W b fb) : BE X K W (.BinOp a op b pos) (fOp f fa fb) := by
 obtain ⟨ta, pa, sa⟩ := ha
 obtain ⟨tb, pb, sb⟩ := hb
 exact ⟨_, fun i => pe_op (ho i) (pa i) (pb i), sd_op hr sa sb⟩
theorem qh (B : CtxOk X P w K mg base k W N sc) (ha : BE X K W a fa) (hb : BE X K W b fb) : BE X K W (.BinOp a .Add b pos) (fOp addD fa fb) := be_op (fun i => by have := @op_addX (X i); rw [B.pK i] at this; exact this) ok_add ha hb
theorem zbj (B : CtxOk X P w K mg base k W N sc) (ha : BE X K W a fa) (hb : BE X K W b fb) : BE X K W (.BinOp a .Mult b pos) (fOp va1 fa fb) := be_op (fun i => by have := @op_mulXX (X i); rw [B.pK i] at this; exact this) ok_mulXX ha hb
theorem qak (B : CtxOk X P w K mg base k W N sc) (ha : BE X K W a fa) (hb : BE X K W b fb) : BE X K W (.BinOp a .Mod b pos) (fOp modD fa fb) := be_op (fun i => op_mod) ok_mod ha hb
theorem be_fdiv (B : CtxOk X P w K mg base k W N sc) (ha : BE X K W a fa) (hb : BE X K W b fb) : BE X K W (.BinOp a .FloorDiv b pos) (fOp kb0 fa fb) := be_op (fun i => op_fdiv) ok_fdiv ha hb
theorem be_neg (ha : BE X K W a fa) : BE X K W (.UnaryOp .USub a pos) (fUn negD fa) := by
 obtain ⟨ta, pa, sa⟩ := ha
 exact ⟨_, fun i => pe_un un_neg (pa i), sd_un ok_neg sa⟩
inductive COp (X : ι → Cx) (K : PySem.W.Frag) (op : CmpOp) : (D → D → Option Rv) → Prop where
 | mk (r : R2) (f : D → D → Option Rv) (ho : ∀ i, OpR (X i) (compareOp op) r) (hr : R2Ok K r f) : COp X K op f
theorem c_eq (B : CtxOk X P w K mg base k W N sc) : COp X K .Eq eqD := .mk _ _ (fun i => by have := @op_eqD (X i) (by have := B.u64 i; omega); rw [B.pK i] at this; exact this) ok_eq
theorem c_ne (B : CtxOk X P w K mg base k W N sc) : COp X K .NotEq neD := .mk _ _ (fun i => by have := @op_neD (X i) (by have := B.u64 i; omega); rw [B.pK i] at this; exact this) ok_ne
theorem c_lt (B : CtxOk X P w K mg base k W N sc) : COp X K .Lt ltXD := .mk _ _ (fun i => by have := @op_ltXX (X i) (by have := B.u64 i; omega); rw [B.pK i] at this; exact this) ok_ltXX
theorem c_le (B : CtxOk X P w K mg base k W N sc) : COp X K .LtE leD := .mk _ _ (fun i => op_le) ok_le
theorem c_gt (B : CtxOk X P w K mg base k W N sc) : COp X K .Gt gtD := .mk _ _ (fun i => op_gt) ok_gt
theorem c_is (B : CtxOk X P w K mg base k W N sc) : COp X K .Is isD := .mk _ _ (fun i => op_isX) ok_is
theorem kad (B : CtxOk X P w K mg base k W N sc) : COp X K .IsNot z0 := .mk _ _ (fun i => op_isNotX) ok_isNot
theorem c_in (B : CtxOk X P w K mg base k W N sc) : COp X K .In inD := .mk _ _ (fun i => by have := @op_inX (X i); rw [B.pK i] at this; exact this) ok_in
theorem xb8 (B : CtxOk X P w K mg base k W N sc) : COp X K .NotIn zbb := .mk _ _ (fun i => by have := @op_notInX (X i); rw [B.pK i] at this; exact this) ok_notIn
theorem yo {op : CmpOp} {f : D → D → Option Rv} (ho : COp X K op f) (ha : BE X K W a fa) (hb : BE X K W b fb) (hm : behindInMarks op b = false := by first | exact nomark _ | rfl) : BE X K W (.Compare a [op] [b] pos) (fOp f fa fb) := by
 obtain ⟨r, f, ho, hr⟩ := ho
 obtain ⟨ta, pa, sa⟩ := ha
 obtain ⟨tb, pb, sb⟩ := hb
 exact ⟨_, fun i => pe_cmpR (ho i) (pa i) (pb i) hm, sd_op hr sa sb⟩
theorem yc {op : CmpOp} {f : D → D → Option Rv} (ho : COp X K op f) (ha : BE X K W a fa) (hb : BE X K W b fb) (hm : behindInMarks op b = false := by first | exact nomark _ | rfl) : BT X K W (.Compare a [op] [b] pos) (wc (fOp f fa fb)) := by
 obtain ⟨r, f, ho, hr⟩ := ho
 obtain ⟨ta, pa, sa⟩ := ha
 obtain ⟨tb, pb, sb⟩ := hb
 exact ⟨_, fun i => pt_cmpR (ho i) (pa i) (pb i) hm, qba (sd_op hr sa sb)⟩
theorem be_chain {op op' : CmpOp} {f f' : D → D → Option Rv} (ho : COp X K op f) (ho' : COp X K op' f') (ha : BE X K W a fa) (hb : BE X K W b fb) (hc : BE X K W c fc) (hm : lastMarks [op, op'] [b, c] = false := by with_unfolding_all rfl) : BE X K W (.Compare a [op, op'] [b, c] pos) (yb0 f f' fa fb fc) := by
 obtain ⟨r, f, ho, hr⟩ := ho
 obtain ⟨r', f', ho', hr'⟩ := ho'
 obtain ⟨ta, pa, sa⟩ := ha
 obtain ⟨tb, pb, sb⟩ := hb
 obtain ⟨tc, pc, sc⟩ := hc
 exact ⟨_, fun i => pe_chain (ho i) (ho' i) (pa i) (pb i) (pc i) hm, sd_chain hr hr' sa sb sc⟩
theorem zx (ha : BE X K W a fa) (he : ∀ i, ∀ whole, isTrue a (X i).env whole = (do let v ← whole; standAt a.pos; holding [v] (truthy v)) := by intro _ _; rfl) : BT X K W a (wc fa) := by
 obtain ⟨ta, pa, sa⟩ := ha
 exact ⟨_, fun i => pt_val (pa i) (he i), sd_tb sa⟩
theorem bt_w (ha : BW X K W a g) : BT X K W a g := by
 obtain ⟨ta, pa, sa⟩ := ha
 exact ⟨_, fun i => (pa i).pt, sa⟩
theorem jax (ha : BT X K W a g) : BW X K W (.BoolOp .And [a] pos) g := by
 obtain ⟨ta, pa, sa⟩ := ha
 exact ⟨_, fun i => pw_and1 (pa i), sa⟩
theorem w3 (ha : BT X K W a g) : BW X K W (.BoolOp .Or [a] pos) g := by
 obtain ⟨ta, pa, sa⟩ := ha
 exact ⟨_, fun i => pw_or1 (pa i), sa⟩
theorem ja0 (ha : BT X K W a g) (hb : BW X K W (.BoolOp .And (b :: es) pos) h) : BW X K W (.BoolOp .And (a :: b :: es) pos) (fAnd g h) := by
 obtain ⟨ta, pa, sa⟩ := ha
 obtain ⟨tb, pb, sb⟩ := hb
 exact ⟨_, fun i => pw_and (pa i) (pb i), sd_and sa sb⟩
theorem qax (ha : BT X K W a g) (hb : BW X K W (.BoolOp .Or (b :: es) pos) h) : BW X K W (.BoolOp .Or (a :: b :: es) pos) (fOr g h) := by
 obtain ⟨ta, pa, sa⟩ := ha
 obtain ⟨tb, pb, sb⟩ := hb
 exact ⟨_, fun i => pw_or (pa i) (pb i), sd_or sa sb⟩
theorem kx (ha : BT X K W a g) : BT X K W (.UnaryOp .Not a pos) (fNot g) := by
 obtain ⟨ta, pa, sa⟩ := ha
 exact ⟨_, fun i => pt_not (pa i), sd_not sa⟩
theorem wad {op} (ha : BE X K W a fa) : BE X K W (.BoolOp op [a] pos) fa := by
 obtain ⟨ta, pa, sa⟩ := ha
 exact ⟨_, fun i => pe_one (pa i), sa⟩
theorem vx (ha : BE X K W a fa) (hb : BE X K W (.BoolOp .And (b :: es) pos) fb) : BE X K W (.BoolOp .And (a :: b :: es) pos) (x9 fa fb) := by
 obtain ⟨ta, pa, sa⟩ := ha
 obtain ⟨tb, pb, sb⟩ := hb
 exact ⟨_, fun i => pe_and (pa i) (pb i), sd_andV sa sb⟩
theorem be_or (ha : BE X K W a fa) (hb : BE X K W (.BoolOp .Or (b :: es) pos) fb) : BE X K W (.BoolOp .Or (a :: b :: es) pos) (fOrV fa fb) := by
 obtain ⟨ta, pa, sa⟩ := ha
 obtain ⟨tb, pb, sb⟩ := hb
 exact ⟨_, fun i => pe_or (pa i) (pb i), sd_orV sa sb⟩
theorem be_not (ha : BE X K W a fa) : BE X K W (.UnaryOp .Not a pos) (fNotV fa) := by
 obtain ⟨ta, pa, sa⟩ := ha
 exact ⟨_, fun i => pe_not (pa i), sd_notV sa⟩
theorem be_if (hc : BT X K W c g) (ha : BE X K W a fa) (hb : BE X K W b fb) : BE X K W (.IfExp c a b pos) (fIf g fa fb) := by
 obtain ⟨tc, pc, sc⟩ := hc
 obtain ⟨ta, pa, sa⟩ := ha
 obtain ⟨tb, pb, sb⟩ := hb
 exact ⟨_, fun i => pe_ifExp (pc i) (pa i) (pb i), sd_if sc sa sb⟩
variable {fr : PL.P (List Rv)} {gd : PL.P (List D)} {ga : PL.P (List Arg)}
theorem zd : BAv X K W [] fNil := ⟨_, fun i => pa_nil, sd_nil⟩
theorem yb (ha : BE X K W e fe) (hr : BAv X K W es fr) (hs : ∀ i, starEach (e :: es) (X i).env = (false, eval e (X i).env) :: starEach es (X i).env := by intro _; rfl) : BAv X K W (e :: es) (yd fe fr) := by
 obtain ⟨ta, pa, sa⟩ := ha
 obtain ⟨tb, pb, sb⟩ := hr
 exact ⟨_, fun i => pa_cons (pa i) (pb i) (hs i), sd_cons sa sb⟩
theorem wb : BAd X K W [] vNil := ⟨_, fun i => pa_nil, sg_nil⟩
theorem ja (ha : BE X K W e fe) (hr : BAd X K W es gd) (hs : ∀ i, starEach (e :: es) (X i).env = (false, eval e (X i).env) :: starEach es (X i).env := by intro _; rfl) : BAd X K W (e :: es) (ya fe gd) := by
 obtain ⟨ta, pa, sa⟩ := ha
 obtain ⟨tb, pb, sb⟩ := hr
 exact ⟨_, fun i => pa_cons (pa i) (pb i) (hs i), yak sa sb⟩
theorem zc : BAa X K W [] uNil := ⟨_, fun i => pa_nil, su_nil⟩
theorem aa_d (ha : BE X K W e fe) (hr : BAa X K W es ga) (hs : ∀ i, starEach (e :: es) (X i).env = (false, eval e (X i).env) :: starEach es (X i).env := by intro _; rfl) : BAa X K W (e :: es) (uD fe ga) := by
 obtain ⟨ta, pa, sa⟩ := ha
 obtain ⟨tb, pb, sb⟩ := hr
 exact ⟨_, fun i => pa_cons (pa i) (pb i) (hs i), su_d sa sb⟩
theorem aa_m (B : CtxOk X P w K mg base k W N sc) (n : Nat) (hr : BAa X K W es ga) (hN : N[n]? = some x := by rfl) (hv : Vis sc x := by first | exact Or.inl rfl | exact Or.inr (Or.inl rfl) | exact Or.inr (Or.inr rfl)) (hd : (x == ("__debug__" : Str)) = false := by decide)
  (hcd : (x == ("__classdict__" : Str)) = false := by decide) (hs : ∀ i, starEach (.Name x pos :: es) (X i).env = (false, eval (.Name x pos) (X i).env) :: starEach es (X i).env := by intro _; rfl) : BAa X K W (.Name x pos :: es) (uM n ga) := by
 obtain ⟨tb, pb, sb⟩ := hr
 exact ⟨_, fun i => pa_cons (pe_var (B.at_ hN i) (B.vis hv i) hd hcd) (pb i) (hs i), su_m sb⟩
theorem vc {x1} (hs : BAd X K W es gd) : BE X K W (.Tuple es x1 pos) (fTup gd) := by
 obtain ⟨ta, pa, sa⟩ := hs
 exact ⟨_, fun i => pe_tupP (pa i), sd_tup sa⟩
theorem qv (hs : BAd X K W es gd) : BE X K W (.List es pos) (fLst gd) := by
 obtain ⟨ta, pa, sa⟩ := hs
 exact ⟨_, fun i => pe_lst (pa i), sd_lst sa⟩
variable {lo hi : Option Expr} {zl zh : PL.P (Option Int)}
theorem qe (B : CtxOk X P w K mg base k W N sc) (ha : BE X K W a fa) (hb : BE X K W b fb) (hs : PlainIx b := by exact fun _ _ => rfl) : BE X K W (.Subscript a b pos) (fOp ixD fa fb) := by
 obtain ⟨ta, pa, sa⟩ := ha
 obtain ⟨tb, pb, sb⟩ := hb
 exact ⟨_, fun i => pe_ix (by have := @ix_seq (X i); rw [B.pK i] at this; exact this) (pa i) (pb i) hs, sd_op ok_ix sa sb⟩
theorem vo : BO X K W none zNo := ⟨_, fun i => po_none, sz_no⟩
theorem xj (ha : BE X K W a fa) : BO X K W (some a) (zAt fa) := by
 obtain ⟨ta, pa, sa⟩ := ha
 exact ⟨_, fun i => po_some (pa i), sz_at sa⟩
theorem zah (B : CtxOk X P w K mg base k W N sc) (ha : BE X K W a fa) (hl : BO X K W lo zl) (hh : BO X K W hi zh) : BE X K W (.Subscript a (.Slice lo hi none p2) pos) (fSl fa zl zh) := by
 obtain ⟨ta, pa, sa⟩ := ha
 obtain ⟨tl, pl, sl⟩ := hl
 obtain ⟨tu, pu, su⟩ := hh
 exact ⟨_, fun i => pe_slice (by have := @sl_X (X i); rw [B.pK i] at this; exact this) (pa i) (pl i) (pu i), sd_sl sa sl su⟩
end
end PL
namespace PL
open PySem L2
section
variable {ι : Type} {X : ι → Cx} {P : Program} {w : World} {K : PySem.W.Frag} {mg : Str → Option Value} {base : Heap} {k : Nat} {W : WX} {N : List Str} {sc : Scope}
variable {a b c e o : Expr} {es : List Expr} {pos p p2 apos tpos : Pos} {x : Str} {fa fb fc fe fo : PL.P Rv} {g h : PL.P Bool} {fr : PL.P (List Rv)} {gd : PL.P (List D)} {ga : PL.P (List Arg)}
inductive CFn (X : ι → Cx) (K : PySem.W.Frag) (mg : Str → Option Value) (x : Str) : (List D → Option Rv) → Prop where
 | fn (id : String) (r : List V → Hp → VK → Prop) (f : List D → Option Rv) (hm : mg x = none) (hv : bootBuiltins x = some (.builtin id)) (hn : x ≠ "__name__") (hd : (x == ("__debug__" : Str)) = false) (ho : ∀ i, CallR (X i) (.builtin id) r) (hr : RCOk K r f) : CFn X K mg x f
 | ty (T : String) (r : List V → Hp → VK → Prop) (f : List D → Option Rv) (hm : mg x = none) (hv : bootBuiltins x = some (.type T)) (hn : x ≠ "__name__") (hd : (x == ("__debug__" : Str)) = false) (ho : ∀ i, CallR (X i) (.type T) r) (hr : RCOk K r f) : CFn X K mg x f
theorem jbe (B : CtxOk X P w K mg base k W N sc) (hm : mg "len" = none) : CFn X K mg "len" lenD := .fn "len" _ _ hm (by decide +kernel) (by decide) (by decide) (fun i => by have := @call_len (X i); rw [B.pK i] at this; exact this) ok_len
theorem b_max (B : CtxOk X P w K mg base k W N sc) (hm : mg "max" = none) : CFn X K mg "max" maxD := .fn "max" _ _ hm (by decide +kernel) (by decide) (by decide) (fun i => call_max2 (B.calm i)) ok_max
theorem b_min (B : CtxOk X P w K mg base k W N sc) (hm : mg "min" = none) : CFn X K mg "min" minD := .fn "min" _ _ hm (by decide +kernel) (by decide) (by decide) (fun i => call_min2 (B.calm i)) ok_min
theorem b_list (B : CtxOk X P w K mg base k W N sc) (hm : mg "list" = none) : CFn X K mg "list" xbz := .ty "list" _ _ hm (by decide +kernel) (by decide) (by decide) (fun i => by have := @call_list_of (X i); rw [B.pK i] at this; exact this) ok_list
theorem qae (B : CtxOk X P w K mg base k W N sc) (hm : mg "tuple" = none) : CFn X K mg "tuple" zz := .ty "tuple" _ _ hm (by decide +kernel) (by decide) (by decide) (fun i => by have := @zb8 (X i); rw [B.pK i] at this; exact this) ok_tuple
theorem b_int (B : CtxOk X P w K mg base k W N sc) (hm : mg "int" = none) : CFn X K mg "int" intD := .ty "int" _ _ hm (by decide +kernel) (by decide) (by decide) (fun i => call_intX) ok_int
theorem b_all (B : CtxOk X P w K mg base k W N sc) (hm : mg "all" = none) : CFn X K mg "all" allD := .fn "all" _ _ hm (by decide +kernel) (by decide) (by decide) (fun i => by have := @cr_all (X i) (B.calm i); rw [B.pK i] at this; exact this) ok_all
theorem wat {cs : List Addr} (hcs : ∀ c, cs.contains c = true → IsiCls K c) (B : CtxOk X P w K mg base k W N sc) (hm : mg "isinstance" = none) : CFn X K mg "isinstance" (isiD K cs) := .fn "isinstance" _ _ hm (by decide +kernel) (by decide) (by decide) (fun i => by have := @call_isY (X i); rw [B.pK i] at this; exact this) (ok_isi hcs)
theorem vh {f : List D → Option Rv} (B : CtxOk X P w K mg base k W N sc) (hc : CFn X K mg x f) (ha : BAv X K W (e :: es) fr) (hg : sc.names.lookup x = some .globalImplicit := by rfl)
  (he : ∀ i, starEach (e :: es) (X i).env = (false, eval e (X i).env) :: starEach es (X i).env := by intro _; rfl) (hpl : ∀ i, (backTo pos (starEach es (X i).env)).any (·.1) = false := by intro _; rfl) : BE X K W (.Call (.Name x p) (e :: es) [] pos) (fCB f fr) := by
 obtain ⟨ta, pa, sa⟩ := ha
 cases hc with
 | fn id r _ hm hv hn hd ho hr => exact ⟨_, fun i => pe_callB (ho i) (B.gl hg i) (by rw [B.pm i]; exact hm) hv (pa i) hn hd (he i) (hpl i), sd_cb hr sa⟩
 | ty T r _ hm hv hn hd ho hr => exact ⟨_, fun i => pe_callTy (ho i) (B.gl hg i) (by rw [B.pm i]; exact hm) hv (pa i) hn hd (he i) (hpl i), sd_cb hr sa⟩
inductive CM1 (X : ι → Cx) (K : PySem.W.Frag) (name : Str) : (Str → D → Option Rv) → Prop where
 | mk (id : String) (r : V → List V → Hp → VK → Prop) (f : Str → D → Option Rv) (slot : Slot "str" name id) (ty : typeOf (.builtin id) = pure (.type "method_descriptor")) (ho : ∀ i, MtR (X i) id r) (hr : RM1 K r f) : CM1 X K name f
theorem m_join (B : CtxOk X P w K mg base k W N sc) : CM1 X K "join" joinD := .mk _ _ _ F.slot_str_join F.type_str_join (fun i => by have := @mt_join (X i); rw [B.pK i] at this; exact this) ok_join
theorem m_strip (B : CtxOk X P w K mg base k W N sc) : CM1 X K "strip" wbw := .mk _ _ _ F.slot_str_strip F.type_str_strip (fun i => mt_stripChars) ok_strip
theorem be_m1 {name : Str} {f : Str → D → Option Rv} (hc : CM1 X K name f) (ho : BE X K W o fo) (he : BE X K W e fe) (hs : ∀ i, starEach [e] (X i).env = [(false, eval e (X i).env)] := by intro _; rfl)
  (hbase : ∀ i, attributeBase o name (X i).env (eval o (X i).env) = eval o (X i).env := by intro _; rfl) (hline : (apos.endLine == pos.line) = true := by rfl) : BE X K W (.Call (.Attribute o name apos) [e] [] pos) (fM1 f fo fe) := by
 obtain ⟨to, po, so⟩ := ho
 obtain ⟨te, pe, se⟩ := he
 obtain ⟨id, r, f, slot, ty, hm, hr⟩ := hc
 exact ⟨_, fun i => pe_m1 slot ty (hm i) (po i) (pe i) (hs i) (hbase i) hline, sd_m1 hr so se⟩
theorem vat (B : CtxOk X P w K mg base k W N sc) (n : Nat) (he : BE X K W e fe) (hN : N[n]? = some x := by rfl) (hv : Vis sc x := by first | exact Or.inl rfl | exact Or.inr (Or.inl rfl) | exact Or.inr (Or.inr rfl))
  (hd : (x == ("__debug__" : Str)) = false := by decide) (hcd : (x == ("__classdict__" : Str)) = false := by decide)
  (hbase : ∀ i, attributeBase (.Name x p) "append" (X i).env (eval (.Name x p) (X i).env) = eval (.Name x p) (X i).env := by intro _; rfl)
  (hfew : ∀ i, ((backTo pos (starEach [e] (X i).env)).all (fun x => !x.1) && (backToKw pos (keywordEach [] (X i).env)).all (fun x => x.1.isSome)
   && decide (([e] : List Expr).length + ([] : List Keyword).length + (if ([] : List Keyword).isEmpty then 0 else 1) < 30)) = true := by intro _; rfl)
  (hline : (apos.endLine == pos.line) = true := by rfl) (hs : ∀ i, starEach [e] (X i).env = (false, eval e (X i).env) :: starEach [] (X i).env := by intro _; rfl) (hplain : ∀ i, (backTo pos (starEach [] (X i).env)).any (·.1) = false := by intro _; rfl) :
  BE X K W (.Call (.Attribute (.Name x p) "append" apos) [e] [] pos) (kac n fe) := by
 obtain ⟨te, pe, se⟩ := he
 exact ⟨_, fun i => by
  have := @pe_bm (X i) (.Name x p) e [] _ _ "append" apos pos "list" _ _ PySem.F.plainAttrs_list PySem.F.slot_list_append PySem.F.type_list_append mt_append (pe_var (B.at_ hN i) (B.vis hv i) hd hcd) (pa_cons (pe i) pa_nil (hs i)) (hbase i) (hfew i) hline (hs i) (hplain i)
  rw [B.pK i] at this
  exact this, sd_append se⟩
structure xv (P : Program) (w : World) (K : PySem.W.Frag) (mg : Str → Option Value) (base : Heap) (k : Nat) (x : Str) (n : Nat) (F : PL.P Rv) : Prop where
 ex : ∃ (f : Addr) (fd : FuncData) (ps : List Str), FnOk P w K mg base (L2.CX P w) k f fd ps (spF K n F) ∧ mg x = some (.ref f) ∧ PySem.W.keepIn K (.ref f) = true ∧ Binds K fd ps []
 rv : ∀ cs r cs', F cs = some (.ok r cs') → rvD r = true
theorem pe_callE {X : Cx} {f : Addr} {fd : FuncData} {ps : List Str} {sp : Sp} {t : TA} (h1 : X.prog = P) (h2 : X.w = w) (h3 : X.K = K) (h4 : X.mg = mg) (h5 : X.base = base) (tk : Takes X W) (F : FnOk P w K mg base (L2.CX P w) k f fd ps sp) (hr : Room k X.A) (hg : Gl X x) (hm : mg x = some (.ref f))
  (hk : PySem.W.keepIn K (.ref f) = true) (hb : Binds K fd ps []) (ha : PA X (e :: es) t) (hdb : (x == ("__debug__" : Str)) = false) (he : starEach (e :: es) X.env = (false, eval e X.env) :: starEach es X.env) (hpl : (backTo pos (starEach es X.env)).any (·.1) = false) :
  PE X (.Call (.Name x p) (e :: es) [] pos) (tCallS sp (WE W) t) := by
 subst h1 h2 h3 h4 h5
 exact pe_callS F hr hg hm hk hb (fun σ => passAt tk σ) ha hdb he hpl
theorem qc {n : Nat} {F : PL.P Rv} (B : CtxOk X P w K mg base k W N sc) (hF : xv P w K mg base k x n F) (ha : BAa X K W (e :: es) ga) (hg : sc.names.lookup x = some .globalImplicit := by rfl) (hdb : (x == ("__debug__" : Str)) = false := by decide)
  (he : ∀ i, starEach (e :: es) (X i).env = (false, eval e (X i).env) :: starEach es (X i).env := by intro _; rfl) (hpl : ∀ i, (backTo pos (starEach es (X i).env)).any (·.1) = false := by intro _; rfl) : BE X K W (.Call (.Name x p) (e :: es) [] pos) (wd n F ga) := by
 obtain ⟨ta, pa, sa⟩ := ha
 obtain ⟨f, fd, ps, h1, h2, h3, h4⟩ := hF.ex
 exact ⟨_, fun i => pe_callE (B.pP i) (B.pw i) (B.pK i) (B.pm i) (B.pb i) (B.tk i) h1 (B.room i) (B.gl hg i) h2 h3 h4 (pa i) hdb (he i) (hpl i), sd_call hF.rv sa⟩
variable {tg : Expr} {fi : PL.P (List D)} {js ks : List Nat} {at_ : Tgt} {ats : List D → En → Option En} {tgs : List Expr}
theorem bi_X (B : CtxOk X P w K mg base k W N sc) (ha : BE X K W a fa) : BI X K W tg a (vv fa) := by
 obtain ⟨ta, pa, sa⟩ := ha
 exact ⟨_, fun i => by have := @pi_X (X i) tg a ta (pa i); rw [B.pK i] at this; exact this, sd_iter sa⟩
theorem yal (B : CtxOk X P w K mg base k W N sc) (hm : mg "range" = none) (ha : BAv X K W [a] fr) (hg : sc.names.lookup ("range" : Str) = some .globalImplicit := by rfl) (hs : ∀ i, starEach [a] (X i).env = [(false, eval a (X i).env)] := by intro _; rfl) : BI X K W tg (.Call (.Name "range" p) [a] [] pos) (vbc fr) := by
 obtain ⟨ta, pa, sa⟩ := ha
 exact ⟨_, fun i => pi_range1 (B.gl hg i) (by rw [B.pm i]; exact hm) (pa i) (hs i), sd_rng1 sa⟩
theorem qd (B : CtxOk X P w K mg base k W N sc) (n : Nat) (hi : N[n]? = some x := by rfl) (hx : Loc sc x := by first | exact .inl rfl | exact .inr rfl) (hf : ∀ i, (X i).fn x = true ∨ (X i).env.scope.names.lookup x = some .local := by intro _; first | exact .inl rfl | exact .inr rfl) : BG X K [n] (.Name x pos) (aN n) :=
 ⟨_, fun i => pg_name (B.nd i) (B.at_ hi i) (B.lo hx i) (hf i), sg_name⟩
theorem kb8 : BGs X K [] [] aNil := ⟨_, fun i => pgs_nil, sgs_nil⟩
end
end PL
namespace PL
open PySem L2
section
variable {ι : Type} {X : ι → Cx} {P : Program} {w : World} {K : PySem.W.Frag} {mg : Str → Option Value} {base : Heap} {k : Nat} {W : WX} {N : List Str} {sc : Scope}
variable {a b c e o : Expr} {es : List Expr} {pos p p2 apos tpos : Pos} {x : Str} {fa fb fc fe fo : PL.P Rv} {g h : PL.P Bool} {fr : PL.P (List Rv)} {gd : PL.P (List D)} {ga : PL.P (List Arg)}
variable {tg : Expr} {fi : PL.P (List D)} {js ks fx : List Nat} {at_ : Tgt} {ats : List D → En → Option En} {tgs : List Expr}
theorem ql (h1 : BG X K js e at_) (h2 : BGs X K ks es ats) (hs : ∀ i, (assignEach (e :: es) (X i).env).map (·.2) = assign e (X i).env :: (assignEach es (X i).env).map (·.2) := by intro _; rfl) : BGs X K (js ++ ks) (e :: es) (v9 at_ ats) := by
 obtain ⟨ta, pa, sa⟩ := h1
 obtain ⟨tb, pb, sb⟩ := h2
 exact ⟨_, fun i => pgs_cons (pa i) (pb i) (hs i), sgs_cons sa sb⟩
theorem bg_tup {kk : Nat} (B : CtxOk X P w K mg base k W N sc) (n : Nat) (hs : BGs X K js es ats) (hn : ∀ i, (assignEach es (X i).env).length = n := by intro _; rfl) (hst : ∀ i, (assignEach es (X i).env).findIdx? (·.1) = none := by intro _; rfl) : BG X K js (.Tuple es kk pos) (aT n ats) := by
 obtain ⟨ta, pa, sa⟩ := hs
 exact ⟨_, fun i => by have := @pg_tup (X i) pos es kk ta n (B.calm i) (pa i) (hn i) (hst i); rw [B.pK i] at this; exact this, sg_tup sa⟩
abbrev BlkIx (ι : Type) := ι × Shared × Hp × Addr × List (Str × Addr) × List Addr
abbrev blkX (X : ι → Cx) (scope : Scope) : BlkIx ι → Cx := fun j => (X j.1).blk j.2.1 j.2.2.1 scope (compEnvC scope j.2.2.2.2.1 j.2.2.2.1 (X j.1).env) j.2.2.2.2.2
theorem CtxOk.blkOk (B : CtxOk X P w K mg base k W N sc) {scope : Scope} {own : List (Str × Nat)} (h : BlkOk N sc scope own) (i : ι) : BlkOk (X i).N (X i).env.scope scope own := by rw [B.nN i, B.ns i]; exact h
def W0 : WX := fun _ _ _ _ => False
def relab (scope sc : Scope) : Scope := relabel scope { scope := sc, locals := 0, globals := 0, cells := [] }
theorem CtxOk.blk (B : CtxOk X P w K mg base k W N sc) (scope : Scope) : CtxOk (blkX X scope) P w K mg base k W0 N (relab scope sc) :=
 ⟨fun j => B.pP j.1, fun j => B.pw j.1, fun j => B.pK j.1, fun j => B.pm j.1, fun j => B.pb j.1, fun j => B.room j.1, fun j => takes0, fun j => B.calm j.1, fun j => PassesOwn.never, fun j => B.nN j.1, fun j => by obtain ⟨i, s, H, C, cl, fp⟩ := j; rw [← B.ns i]; rfl, B.nd'⟩
theorem km : BTs X K W [] fYes := ⟨_, fun i => pts_nil, fun σ C H ρ e => At.ret (R := BRel H) (v := true) e rfl⟩
variable {iter elt : Expr} {ifs : List Expr} {scope : Scope} {own : List (Str × Nat)}
theorem ya1 (B : CtxOk X P w K mg base k W N sc) (own : List (Str × Nat)) (hi : BI X K W tg iter fi) (hg : BG (blkX X scope) K js tg at_) (ht : BTs (blkX X scope) K W0 ifs g) (he : BE (blkX X scope) K W0 elt fe)
  (ok : BlkOk N sc scope own := by exact blkOk_by (by decide +kernel)) (hj : ∀ j ∈ js, j ∈ own.map (·.2) := by decide) (hs : ∀ i, ∀ x, foldedSetIterable iter (X i).env x = pure x := by intro _ _; rfl) :
  BE X K W (.ListComp elt [⟨tg, iter, ifs, 0⟩] scope pos) (jw (own.map (·.2)) fi at_ g fe) := by
 obtain ⟨ti, pi, si⟩ := hi
 obtain ⟨tG, pG, sG⟩ := hg
 obtain ⟨tt, pt, st⟩ := ht
 obtain ⟨te, pe, se⟩ := he
 exact ⟨_, fun i => pe_lc (B.calm i) (B.nd i) (pi i) (B.blkOk ok i) (fun s H C cl fp => pG (i, s, H, C, cl, fp)) (fun s H C cl fp => pt (i, s, H, C, cl, fp)) (fun s H C cl fp => pe (i, s, H, C, cl, fp)) (hs i), sd_comp hj si sG st se⟩
variable {st : Stmt} {sts th el : List Stmt} {G1 G2 G3 : PL.P Fl}
theorem kc : BSs X K W fx [] vf := ⟨_, fun i => pss_nil, ss_next⟩
theorem va (h1 : BS X K W fx st G1) (h2 : BSs X K W fx sts G2) : BSs X K W fx (st :: sts) (sSeq G1 G2) := by
 obtain ⟨ta, pa, sa⟩ := h1
 obtain ⟨tb, pb, sb⟩ := h2
 exact ⟨_, fun i => pss_cons (pa i) (pb i), ss_seq sa sb⟩
theorem qb (h1 : BS X K W fx st G1) : BSs X K W fx [st] G1 := by
 obtain ⟨ta, pa, sa⟩ := h1
 exact ⟨_, fun i => pss_one (pa i), sa⟩
theorem vad (he : BE X K W e fe) (hs : ∀ i, swapsWith e none pos.line (X i).env = pure false := by intro _; rfl) : BS X K W fx (.Expr e pos) (ja1 fe) := by
 obtain ⟨ta, pa, sa⟩ := he
 exact ⟨_, fun i => ps_expr (pa i) (hs i), ss_drop sa⟩
theorem xc (he : BE X K W e fe) : BS X K W fx (.Return (some e) pos) (sRet fe) := by
 obtain ⟨ta, pa, sa⟩ := he
 exact ⟨_, fun i => ps_ret (pa i), ss_ret sa⟩
theorem zg (hc : BT X K W c g) (h1 : BSs X K W fx th G1) (h2 : BSs X K W fx el G2) : BS X K W fx (.If c th el pos) (sIf g G1 G2) := by
 obtain ⟨tc, pc, sc⟩ := hc
 obtain ⟨ta, pa, sa⟩ := h1
 obtain ⟨tb, pb, sb⟩ := h2
 exact ⟨_, fun i => ps_if (pc i) (pa i) (pb i), ss_if sc sa sb⟩
theorem jd (B : CtxOk X P w K mg base k W N sc) (n : Nat) (he : BE X K W e fe) (hi : N[n]? = some x := by rfl) (hx : Loc sc x := by first | exact .inl rfl | exact .inr rfl) (hs : ∀ i, swapsWith e (some (.Name x p)) pos.line (X i).env = pure false := by intro _; rfl)
  (hf : ∀ i, (X i).fn x = true ∨ (X i).env.scope.names.lookup x = some .local := by intro _; first | exact .inl rfl | exact .inr rfl) (hn : n ∉ fx := by decide) : BS X K W fx (.Assign [.Name x p] e pos) (sSet n fe) := by
 obtain ⟨ta, pa, sa⟩ := he
 exact ⟨_, fun i => ps_set (B.nd i) (B.at_ hi i) (B.lo hx i) (pa i) (hs i) (hf i), ss_set hn sa⟩
theorem vbd (B : CtxOk X P w K mg base k W N sc) (n : Nat) (he : BE X K W e fe) (hi : N[n]? = some x := by rfl) (hx : Loc sc x := by first | exact .inl rfl | exact .inr rfl) (hs : ∀ i, swapsWith e (some (.Name x p)) pos.line (X i).env = pure false := by intro _; rfl)
  (hf : ∀ i, (X i).fn x = true ∨ (X i).env.scope.names.lookup x = some .local := by intro _; first | exact .inl rfl | exact .inr rfl) (hn : n ∉ fx := by decide) : BS X K W fx (.Assign [.Name x p] e pos) (xba n fe) := by
 obtain ⟨ta, pa, sa⟩ := he
 exact ⟨_, fun i => ps_set (B.nd i) (B.at_ hi i) (B.lo hx i) (pa i) (hs i) (hf i), ss_setM hn sa⟩
theorem ps_lcE {spos : Pos} (B : CtxOk X P w K mg base k W N sc) (own : List (Str × Nat)) (hi : BI X K W tg iter fi) (hg : BG (blkX X scope) K js tg at_) (ht : BTs (blkX X scope) K W0 ifs g) (he : BE (blkX X scope) K W0 elt fe)
  (ok : BlkOk N sc scope own) (hj : ∀ j ∈ js, j ∈ own.map (·.2)) (hs : ∀ i, ∀ x, foldedSetIterable iter (X i).env x = pure x)
  {n : Nat} (hN : N[n]? = some x) (hx : sc.names.lookup x = some .local) (hsw : ∀ i, swapsWith (.ListComp elt [⟨tg, iter, ifs, 0⟩] scope pos) (some (.Name x p)) spos.line (X i).env = pure true) :
  ∃ t, (∀ i, PS (X i) (.Assign [.Name x p] (.ListComp elt [⟨tg, iter, ifs, 0⟩] scope pos) spos) (tAsg t (gName n))) ∧ Sd K W (VRel K) t (jw (own.map (·.2)) fi at_ g fe) := by
 obtain ⟨ti, pi, si⟩ := hi
 obtain ⟨tG, pG, sG⟩ := hg
 obtain ⟨tt, pt, st⟩ := ht
 obtain ⟨te, pe, se⟩ := he
 exact ⟨_, fun i => ps_setLc (B.calm i) (B.nd i) (B.at_ hN i) (B.lcl hx i) (hsw i) (pi i) (B.blkOk ok i) (fun s H C cl fp => pG (i, s, H, C, cl, fp)) (fun s H C cl fp => pt (i, s, H, C, cl, fp)) (fun s H C cl fp => pe (i, s, H, C, cl, fp)) (hs i), sd_comp hj si sG st se⟩
theorem bs_lc {spos : Pos} (B : CtxOk X P w K mg base k W N sc) (n : Nat) (own : List (Str × Nat)) (hi : BI X K W tg iter fi) (hg : BG (blkX X scope) K js tg at_) (ht : BTs (blkX X scope) K W0 ifs g) (he : BE (blkX X scope) K W0 elt fe)
  (ok : BlkOk N sc scope own := by exact blkOk_by (by decide +kernel)) (hj : ∀ j ∈ js, j ∈ own.map (·.2) := by decide) (hs : ∀ i, ∀ x, foldedSetIterable iter (X i).env x = pure x := by intro _ _; rfl)
  (hN : N[n]? = some x := by rfl) (hx : sc.names.lookup x = some .local := by rfl) (hsw : ∀ i, swapsWith (.ListComp elt [⟨tg, iter, ifs, 0⟩] scope pos) (some (.Name x p)) spos.line (X i).env = pure true := by intro _; exact sw_true rfl rfl rfl (by decide +kernel)) (hn : n ∉ fx := by decide) :
  BS X K W fx (.Assign [.Name x p] (.ListComp elt [⟨tg, iter, ifs, 0⟩] scope pos) spos) (sSet n (jw (own.map (·.2)) fi at_ g fe)) := by
 obtain ⟨t, h1, h2⟩ := ps_lcE B own hi hg ht he ok hj hs hN hx hsw
 exact ⟨_, h1, ss_set hn h2⟩
def ybe : D → D → Option Rv
 | .s (.int i), .s (.int j) => some (rvI (i + j))
 | .s (.str a), .s (.str b) => if a.length + b.length ≤ sizeLine then some (rvS (a ++ b)) else none
 | _, _ => none
def rAugAdd : R2 := fun x y H Q => rI0 (fun i j => .int (i + j)) x y H Q ∨ ∃ i j, x = .str i ∧ y = .str j ∧ i.length + j.length ≤ sizeLine ∧ Q (.str (i ++ j)) H
theorem ok_augAdd : R2Ok K rAugAdd ybe := by
 intro C H e dx dy x y rv Q h hx hy g
 unfold ybe at h
 split at h
 ·cases pk_s.mp hx; cases pk_s.mp hy; cases h
  exact .inl ⟨_, _, rfl, rfl, g.d e⟩
 ·cases pk_s.mp hx; cases pk_s.mp hy
  obtain ⟨h1, rfl⟩ := we h
  exact .inr ⟨_, _, rfl, rfl, h1, g.d e⟩
 ·cases h
theorem bs_aug {op : Operator} {r : R2} {f : D → D → Option Rv} (B : CtxOk X P w K mg base k W N sc) (n : Nat) (ho : ∀ i, OpR (X i) (inplaceOp op) r) (hr : R2Ok K r f) (he : BE X K W e fe) (hi : N[n]? = some x) (hx : Loc sc x)
  (hf : ∀ i, (X i).fn x = true ∨ (X i).env.scope.names.lookup x = some .local) (hn : n ∉ fx) : BS X K W fx (.AugAssign (.Name x p) op e pos) (sAug n f fe) := by
 obtain ⟨ta, pa, sa⟩ := he
 exact ⟨_, fun i => ps_aug (B.nd i) (B.at_ hi i) (B.lo hx i) (pa i) (ho i) (hf i), ss_aug hn hr sa⟩
theorem bs_augAdd (B : CtxOk X P w K mg base k W N sc) (n : Nat) (he : BE X K W e fe) (hi : N[n]? = some x := by rfl) (hx : Loc sc x := by first | exact .inl rfl | exact .inr rfl)
  (hf : ∀ i, (X i).fn x = true ∨ (X i).env.scope.names.lookup x = some .local := by intro _; first | exact .inl rfl | exact .inr rfl) (hn : n ∉ fx := by decide) : BS X K W fx (.AugAssign (.Name x p) .Add e pos) (sAug n ybe fe) :=
 bs_aug B n (fun i => iop_add.or iop_add_str) ok_augAdd he hi hx hf hn
theorem bs_incL {j j2 : Nat} {p3 p4 : Pos} (B : CtxOk X P w K mg base k W N sc) (n q : Nat) (z : Int) (hN : N[n]? = some x := by rfl) (hv : Vis sc x := by first | exact Or.inl rfl | exact Or.inr (Or.inl rfl) | exact Or.inr (Or.inr rfl)) (hd : (x == ("__debug__" : Str)) = false := by decide)
  (hcd : (x == ("__classdict__" : Str)) = false := by decide) (ha : ∀ ov iv new, augStore (.Constant (.int ((q : Nat) : Int)) j p3) ov iv new = (do holding [new, ov, iv] (setItem ov iv new); release [new, ov, iv] []; pure .next) := by intros; rfl) :
  BS X K W fx (.AugAssign (.Subscript (.Name x p) (.Constant (.int ((q : Nat) : Int)) j p3) p2) .Add (.Constant (.int z) j2 p4) pos) (sIncL n q z) :=
 ⟨_, fun i => by
  have := @ps_augS (X i) pos (.Name x p) (.Constant (.int ((q : Nat) : Int)) j p3) (.Constant (.int z) j2 p4) _ _ _ _ _ _ .Add p2 (pe_var (B.at_ hN i) (B.vis hv i) hd hcd) pe_int pget_list pe_int iop_add set_list ha
  rw [B.pK i] at this
  exact this, ss_incL⟩
theorem waj (B : CtxOk X P w K mg base k W N sc) (hi : BI X K W tg iter fi) (hg : BG X K js tg at_) (hb : BSs X K W fx sts G1) (hj : ∀ i ∈ fx, i ∉ js := by decide) (hs : ∀ i, ∀ x, foldedSetIterable iter (X i).env x = pure x := by intro _ _; rfl) : BS X K W fx (.For tg iter sts [] pos) (sFor fi at_ G1) := by
 obtain ⟨ti, pi, si⟩ := hi
 obtain ⟨tG, pG, sG⟩ := hg
 obtain ⟨tb, pb, sb⟩ := hb
 exact ⟨_, fun i => ps_for (B.pass i) (B.calm i) (pi i) (pG i) (pb i) (hs i), ss_for hj si sG sb⟩
theorem bs_while (B : CtxOk X P w K mg base k W N sc) (n : Nat) (hc : BT X K W c g) (hb : BSs X K W fx sts G1) : BS X K W fx (.While c sts [] pos) (qaa g G1 n) := by
 obtain ⟨ti, pi, si⟩ := hc
 obtain ⟨tb, pb, sb⟩ := hb
 exact ⟨_, fun i => ps_while (B.pass i) (pi i) (pb i), ss_while n si sb⟩
end
def WB (E : XK) : WX := fun cls d _ H => E cls d H
section
variable {P : Program} {w : World} {K : PySem.W.Frag} {mg : Str → Option Value} {base : Heap} {k n : Nat} {x qual : Str} {st : Stmt} {f : Addr} {fd : FuncData} {N ps : List Str} {fx : List Nat} {body : PL.P Fl}
theorem jn (F : Fun K x qual st f fd) (hmg : mg x = some (.ref f)) (hb : Binds K fd ps []) (S : FnScope N ps (defScope st)) (hn : ps.length = n) (hN : n ≤ N.length)
  (hbody : ∀ (cdv : Value) (A : Around) (outer : List PySem.Env) (s : Shared) (H : Hp) (E : XK), CtxOk (fun _ : Unit => cxOf (L2.CX P w) P w K mg base N qual (defScope st) f cdv A outer s H E) P w K mg base k (WB E) N (defScope st) →
   BSs (fun _ : Unit => cxOf (L2.CX P w) P w K mg base N qual (defScope st) f cdv A outer s H E) K (WB E) fx (defBody st) body) : xv P w K mg base (k + 1) x n (runF fx N.length body) :=
 ⟨⟨f, fd, ps, fn_ok F S hn hN fun cdv A outer s H E hr => by
  obtain ⟨t, h1, h2⟩ := hbody cdv A outer s H E ⟨fun _ => rfl, fun _ => rfl, fun _ => rfl, fun _ => rfl, fun _ => rfl, fun _ => hr, fun _ => takes_of rfl rfl rfl rfl, fun _ => rfl, fun _ => passes_of rfl, fun _ => rfl, fun _ => rfl, S.nd⟩
  exact ⟨t, h1 (), h2⟩, hmg, F.kp, hb⟩, zbo⟩
end
end PL
namespace PL
open PySem L2
theorem xat {ι : Type} {X : ι → Cx} {P : Program} {w : World} {K : PySem.W.Frag} {mg : Str → Option Value} {base : Heap} {k : Nat} {W : WX} {N : List Str} {sc : Scope} {x : Str} {pos : Pos} {v : V} (B : CtxOk X P w K mg base k W N sc) (h : ∃ u, mg x = some u ∧ RelV v u)
  (hg : sc.names.lookup x = some .globalImplicit := by rfl) (hd : (x == ("__debug__" : Str)) = false := by decide) : BE X K W (.Name x pos) (fC (.s v)) := by
 obtain ⟨u, h1, h2⟩ := h
 exact be_glob B h1 h2 hg hd
end PL
namespace PL
open PySem L2
def wp {α : Type} (f : P α) (Q : α → En → Prop) (E : Exn → En → Prop) (ρ : En) : Prop := match f ρ with
 | none => False
 | some (.ok a r) => Q a r
 | some (.ex e r) => E e r
def wpO {α : Type} (o : Option α) (Q : α → Prop) : Prop := match o with
 | some a => Q a
 | none => False
section
variable {α β : Type} {Q : α → En → Prop} {Q' : β → En → Prop} {QR : Rv → En → Prop} {QB : Bool → En → Prop} {QF : Fl → En → Prop} {QD : D → En → Prop} {QDs : List D → En → Prop} {QRs : List Rv → En → Prop} {QA : List Arg → En → Prop} {QI : Option Int → En → Prop} {E : Exn → En → Prop} {ρ : En}
theorem wa2 {a : α} {Q : α → Prop} : wpO (some a) Q ↔ Q a := Iff.rfl
theorem qa3 {Q : α → Prop} : wpO none Q ↔ False := Iff.rfl
theorem y9 {c : Prop} [Decidable c] {a : α} {Q : α → Prop} : wpO (if c then some a else none) Q ↔ c ∧ Q a := by
 by_cases h : c
 ·rw [if_pos h]; exact ⟨fun q => ⟨h, q⟩, fun q => q.2⟩
 ·rw [if_neg h]; exact ⟨fun q => q.elim, fun q => h q.1⟩
theorem xp {a : α} : wp (P.ret a) Q E ρ ↔ Q a ρ := Iff.rfl
theorem wp_bind {f : P α} {k : α → P β} : wp (f.bind k) Q' E ρ ↔ wp f (fun a r => wp (k a) Q' E r) E ρ := by
 unfold wp P.bind
 cases f ρ with
 | none => exact Iff.rfl
 | some o => cases o <;> exact Iff.rfl
theorem wbk {o : Option α} : wp (P.of o) Q E ρ ↔ wpO o fun a => Q a ρ := by
 unfold wp P.of wpO
 cases o <;> exact Iff.rfl
theorem wb3 {b : Bool} {f g : P α} : wp (if b = true then f else g) Q E ρ ↔ if b = true then wp f Q E ρ else wp g Q E ρ := by cases b <;> exact Iff.rfl
theorem wp_mono {f : P α} {Q1 : α → En → Prop} {E1 : Exn → En → Prop} (h : wp f Q1 E1 ρ) (hq : ∀ a r, Q1 a r → Q a r) (he : ∀ e r, E1 e r → E e r) : wp f Q E ρ := by
 unfold wp at h ⊢
 cases q : f ρ with
 | none => rw [q] at h; exact h
 | some o =>
  rw [q] at h
  cases o with
  | ok a r => exact hq a r h
  | ex e r => exact he e r h
theorem kh {f : P α} {Q1 : α → En → Prop} (h : ∀ a r, Q1 a r ↔ Q a r) : wp f Q1 E ρ ↔ wp f Q E ρ := ⟨fun z => wp_mono z (fun a r => (h a r).mp) fun _ _ e => e, fun z => wp_mono z (fun a r => (h a r).mpr) fun _ _ e => e⟩
theorem za9 {o : Option α} {Q1 Q2 : α → Prop} (h : ∀ a, Q1 a ↔ Q2 a) : wpO o Q1 ↔ wpO o Q2 := by
 cases o with
 | none => exact Iff.rfl
 | some a => exact h a
theorem wp_eq {f : P α} {a : α} {r : En} (h : f ρ = some (.ok a r)) (q : Q a r) : wp f Q E ρ := by
 unfold wp
 rw [h]
 exact q
theorem wbg {f : P α} (h : wp f Q (fun _ _ => False) ρ) : ∃ a r, f ρ = some (.ok a r) ∧ Q a r := by
 unfold wp at h
 cases q : f ρ with
 | none => rw [q] at h; exact h.elim
 | some o =>
  rw [q] at h
  cases o with
  | ok a r => exact ⟨a, r, rfl, h⟩
  | ex e r => exact h.elim
theorem qa9 {r : Rv} {k : D → P Rv} : wp (pk1 r k) QR E ρ ↔ wpO (peek ρ r) fun d => wp (k d) QR E ρ := by
 unfold wp pk1 wpO
 cases peek ρ r <;> exact Iff.rfl
theorem wp_pks {rs : List Rv} {k : List D → P α} : wp (pks rs k) Q E ρ ↔ wpO (q9 ρ rs) fun d => wp (k d) Q E ρ := by
 unfold wp pks wpO
 cases q9 ρ rs <;> exact Iff.rfl
def atS (ρ : En) (i : Nat) (Q : Cell → Prop) : Prop := match ρ[i]? with
 | some c => Q c
 | none => False
def varQ (i : Nat) (QR : Rv → En → Prop) (ρ : En) : Cell → Prop
 | .no => False
 | .dat d => QR (.dat d) ρ
 | .own _ => QR (.bor i) ρ
theorem wp_var {i : Nat} : wp (fVar i) QR E ρ ↔ atS ρ i (varQ i QR ρ) := by
 unfold wp fVar atS
 cases ρ[i]? with
 | none => exact Iff.rfl
 | some c => cases c <;> exact Iff.rfl
theorem ka8 {c : Cell} {r : En} {Q : Cell → Prop} : atS (c :: r) 0 Q ↔ Q c := Iff.rfl
theorem va8 {c : Cell} {r : En} {Q : Cell → Prop} {i : Nat} : atS (c :: r) (i + 1) Q ↔ atS r i Q := Iff.rfl
theorem za3 {i : Nat} {d : D} : varQ i QR ρ (.dat d) ↔ QR (.dat d) ρ := Iff.rfl
theorem ja3 {i : Nat} {m : M} : varQ i QR ρ (.own m) ↔ QR (.bor i) ρ := Iff.rfl
theorem wp_c {d : D} : wp (fC d) QR E ρ ↔ QR (.dat d) ρ := Iff.rfl
theorem wp_op {op : D → D → Option Rv} {fa fb : P Rv} : wp (fOp op fa fb) QR E ρ ↔ wp fa (fun ra r1 => wp fb (fun rb r2 => wpO (peek r2 ra) fun da => wpO (peek r2 rb) fun db => wpO (op da db) fun v => QR v r2) E r1) E ρ := by
 unfold fOp
 simp only [wp_bind, qa9, wbk]
theorem wp_un {op : D → Option Rv} {fa : P Rv} : wp (fUn op fa) QR E ρ ↔ wp fa (fun ra r1 => wpO (peek r1 ra) fun da => wpO (op da) fun v => QR v r1) E ρ := by
 unfold fUn
 simp only [wp_bind, qa9, wbk]
def isB (d : D) (Q : Bool → Prop) : Prop := match d with
 | .s (.bl b) => Q b
 | _ => False
theorem isB_bl {b : Bool} {Q : Bool → Prop} : isB (.s (.bl b)) Q ↔ Q b := Iff.rfl
theorem wp_asB {r : Rv} : wp (asB r) QB E ρ ↔ wpO (peek ρ r) fun d => isB d fun b => QB b ρ := by
 unfold wp asB wpO isB
 cases peek ρ r with
 | none => exact Iff.rfl
 | some d =>
  cases d with
  | s x => cases x <;> exact Iff.rfl
  | _ => exact Iff.rfl
theorem xak {f : P Rv} : wp (wc f) QB E ρ ↔ wp f (fun r ρ1 => wpO (peek ρ1 r) fun d => isB d fun b => QB b ρ1) E ρ := by
 unfold wc
 simp only [wp_bind, wp_asB]
theorem wp_and {g h : P Bool} : wp (fAnd g h) QB E ρ ↔ wp g (fun b r => if b = true then wp h QB E r else QB false r) E ρ := by
 unfold fAnd
 simp only [wp_bind, wb3, xp]
theorem wp_or {g h : P Bool} : wp (fOr g h) QB E ρ ↔ wp g (fun b r => if b = true then QB true r else wp h QB E r) E ρ := by
 unfold fOr
 simp only [wp_bind, wb3, xp]
theorem wp_not {g : P Bool} : wp (fNot g) QB E ρ ↔ wp g (fun b r => QB (!b) r) E ρ := by
 unfold fNot
 simp only [wp_bind, xp]
theorem jbm {f g : P Rv} : wp (x9 f g) QR E ρ ↔ wp f (fun r ρ1 => wpO (peek ρ1 r) fun d => isB d fun b => if b = true then wp g QR E ρ1 else QR (rvB false) ρ1) E ρ := by
 unfold x9
 simp only [wp_bind, wb3, xp, xak]
theorem wp_orV {f g : P Rv} : wp (fOrV f g) QR E ρ ↔ wp f (fun r ρ1 => wpO (peek ρ1 r) fun d => isB d fun b => if b = true then QR (rvB true) ρ1 else wp g QR E ρ1) E ρ := by
 unfold fOrV
 simp only [wp_bind, wb3, xp, xak]
theorem qbl {f : P Rv} : wp (fNotV f) QR E ρ ↔ wp f (fun r ρ1 => wpO (peek ρ1 r) fun d => isB d fun b => QR (rvB (!b)) ρ1) E ρ := by
 unfold fNotV
 simp only [wp_bind, xp, xak]
theorem wp_ifE {g : P Bool} {fa fb : P Rv} : wp (fIf g fa fb) QR E ρ ↔ wp g (fun b r => if b = true then wp fa QR E r else wp fb QR E r) E ρ := by
 unfold fIf
 simp only [wp_bind, wb3]
theorem ya2 {op op' : D → D → Option Rv} {fa fb fc : P Rv} : wp (yb0 op op' fa fb fc) QR E ρ ↔ wp fa (fun ra r1 => wp fb (fun rb r2 => wpO (peek r2 ra) fun da => wpO (peek r2 rb) fun db => wpO (op da db) fun z => wpO (peek r2 z) fun dz => isB dz fun k =>
  if k = true then wp fc (fun rc r3 => wpO (peek r3 rb) fun db => wpO (peek r3 rc) fun dc => wpO (op' db dc) fun v => QR v r3) E r2 else QR (rvB false) r2) E r1) E ρ := by
 unfold yb0
 simp only [wp_bind, wb3, xp, wp_asB, qa9, wbk]
theorem ya3 {d : D} : peek ρ (.dat d) = some d := rfl
theorem va3 {ds : List D} : peek ρ (.new (.lst ds)) = some (.lst ds) := rfl
theorem wa3 {i : Nat} : peek ρ (.bor i) = (match ρ[i]? with | some c => cdat c | none => none) := rfl
theorem ka7 {d : D} : cdat (.dat d) = some d := rfl
theorem za7 {ds : List D} : cdat (.own (.lst ds)) = some (.lst ds) := rfl
theorem wp_nil : wp fNil QRs E ρ ↔ QRs [] ρ := Iff.rfl
theorem wbl {fa : P Rv} {fr : P (List Rv)} : wp (yd fa fr) QRs E ρ ↔ wp fa (fun ra r1 => wp fr (fun rs r2 => QRs (ra :: rs) r2) E r1) E ρ := by
 unfold yd
 simp only [wp_bind, xp]
theorem zao : q9 ρ [] = some [] := rfl
theorem vam {r : Rv} {rs : List Rv} {Q : List D → Prop} : wpO (q9 ρ (r :: rs)) Q ↔ wpO (peek ρ r) fun d => wpO (q9 ρ rs) fun ds => Q (d :: ds) := by
 unfold wpO
 simp only [q9]
 cases peek ρ r with
 | none => exact Iff.rfl
 | some d => cases q9 ρ rs <;> exact Iff.rfl
def wpG (ρ : En) (r : Rv) (QD : D → En → Prop) : Prop := match grab ρ r with
 | some (d, ρ') => QD d ρ'
 | none => False
theorem wp_grab {fa : P Rv} : wp (z9 fa) QD E ρ ↔ wp fa (fun r r1 => wpG r1 r QD) E ρ := by
 unfold z9
 rw [wp_bind]
 have h : ∀ r r1, wp (grab1 r) QD E r1 ↔ wpG r1 r QD := fun r r1 => by
  unfold wp grab1 wpG
  cases grab r1 r with
  | none => exact Iff.rfl
  | some z => exact Iff.rfl
 simp only [h]
theorem xbm {d : D} : wpG ρ (.dat d) QD ↔ QD d ρ := Iff.rfl
theorem zbm {ds : List D} : wpG ρ (.new (.lst ds)) QD ↔ QD (.lst ds) ρ := Iff.rfl
def borQ (i : Nat) (QD : D → En → Prop) (ρ : En) : Cell → Prop
 | .no => False
 | .dat d => QD d ρ
 | .own (.lst ds) => QD (.lst ds) (ρ.set i (.dat (.lst ds)))
 | .own (.ob c fs) => QD (.obj c fs) (ρ.set i (.dat (.obj c fs)))
 | .own (.dk _) => False
 | .own (.dt _) => False
 | .own (.dn _ _ _) => False
theorem ya7 {i : Nat} {d : D} : borQ i QD ρ (.dat d) ↔ QD d ρ := Iff.rfl
theorem va7 {i : Nat} {ds : List D} : borQ i QD ρ (.own (.lst ds)) ↔ QD (.lst ds) (ρ.set i (.dat (.lst ds))) := Iff.rfl
theorem wbj : wp vNil QDs E ρ ↔ QDs [] ρ := Iff.rfl
theorem qa2 {fa : P Rv} {fr : P (List D)} : wp (ya fa fr) QDs E ρ ↔ wp fa (fun ra r1 => wpG r1 ra fun d r2 => wp fr (fun ds r3 => QDs (d :: ds) r3) E r2) E ρ := by
 unfold ya
 simp only [wp_bind, xp, wp_grab]
theorem wp_tup {g : P (List D)} : wp (fTup g) QR E ρ ↔ wp g (fun ds r => ds.length ≤ sizeLine ∧ QR (.dat (.tup ds)) r) E ρ := by
 unfold fTup
 simp only [wp_bind, wbk, y9]
theorem wp_lst {g : P (List D)} : wp (fLst g) QR E ρ ↔ wp g (fun ds r => ds.length ≤ sizeLine ∧ QR (.new (.lst ds)) r) E ρ := by
 unfold fLst
 simp only [wp_bind, wbk, y9]
theorem wp_cb {op : List D → Option Rv} {fs : P (List Rv)} : wp (fCB op fs) QR E ρ ↔ wp fs (fun rs r => wpO (q9 r rs) fun ds => wpO (op ds) fun v => QR v r) E ρ := by
 unfold fCB
 simp only [wp_bind, wp_pks, wbk]
def isS (d : D) (Q : Str → Prop) : Prop := match d with
 | .s (.str b) => Q b
 | _ => False
theorem kbr {b : Str} {Q : Str → Prop} : isS (.s (.str b)) Q ↔ Q b := Iff.rfl
theorem wp_m1 {op : Str → D → Option Rv} {fo fe : P Rv} : wp (fM1 op fo fe) QR E ρ ↔ wp fo (fun ro r1 => wpO (peek r1 ro) fun d => isS d fun a => wp fe (fun re r2 => wpO (peek r2 re) fun x => wpO (op a x) fun v => QR v r2) E r1) E ρ := by
 unfold fM1
 simp only [wp_bind, qa9]
 have h : ∀ (d : D) (r1 : En), wp (match d with
  | .s (.str a) => fe.bind fun re => pk1 re fun x => P.of (op a x)
  | _ => P.fail) QR E r1 ↔ isS d fun a => wp fe (fun re r2 => wpO (peek r2 re) fun x => wpO (op a x) fun v => QR v r2) E r1 := fun d r1 => by
  unfold isS
  cases d with
  | s x => cases x <;> first | (simp only [wp_bind, qa9, wbk]; done) | exact Iff.rfl
  | _ => exact Iff.rfl
 exact kh fun ro r1 => za9 fun d => h d r1
def isZ (d : D) (Q : Int → Prop) : Prop := match d with
 | .s (.int i) => Q i
 | _ => False
theorem xbr {b : Int} {Q : Int → Prop} : isZ (.s (.int b)) Q ↔ Q b := Iff.rfl
theorem wp_zno : wp zNo QI E ρ ↔ QI none ρ := Iff.rfl
theorem wp_zat {f : P Rv} : wp (zAt f) QI E ρ ↔ wp f (fun r r1 => wpO (peek r1 r) fun d => isZ d fun i => QI (some i) r1) E ρ := by
 unfold zAt
 rw [wp_bind]
 have h : ∀ r r1, wp (asI r) QI E r1 ↔ wpO (peek r1 r) fun d => isZ d fun i => QI (some i) r1 := fun r r1 => by
  unfold wp asI wpO isZ
  cases peek r1 r with
  | none => exact Iff.rfl
  | some d =>
   cases d with
   | s x => cases x <;> exact Iff.rfl
   | _ => exact Iff.rfl
 simp only [h]
theorem wp_sl {fo : P Rv} {lo hi : P (Option Int)} : wp (fSl fo lo hi) QR E ρ ↔ wp fo (fun ro r1 => wp lo (fun l r2 => wp hi (fun h r3 => wpO (peek r3 ro) fun d => wpO (slD d l h) fun v => QR v r3) E r2) E r1) E ρ := by
 unfold fSl
 simp only [wp_bind, qa9, wbk]
theorem jbl : wp vf QF E ρ ↔ QF .next ρ := Iff.rfl
theorem wp_brk : wp sBrk QF E ρ ↔ QF .brk ρ := Iff.rfl
theorem ybl : wp sCont QF E ρ ↔ QF .cont ρ := Iff.rfl
def onN (fl : Fl) (r : En) (N : En → Prop) (Q : Fl → En → Prop) : Prop := match fl with
 | .next => N r
 | f => Q f r
theorem za4 {r : En} {N : En → Prop} {Q : Fl → En → Prop} : onN .next r N Q ↔ N r := Iff.rfl
theorem kbo {v : Rv} {r : En} {N : En → Prop} {Q : Fl → En → Prop} : onN (.ret v) r N Q ↔ Q (.ret v) r := Iff.rfl
theorem vbo {r : En} {N : En → Prop} {Q : Fl → En → Prop} : onN .brk r N Q ↔ Q .brk r := Iff.rfl
theorem ka4 {r : En} {N : En → Prop} {Q : Fl → En → Prop} : onN .cont r N Q ↔ Q .cont r := Iff.rfl
theorem wp_seq {g h : P Fl} : wp (sSeq g h) QF E ρ ↔ wp g (fun fl r => onN fl r (wp h QF E) QF) E ρ := by
 unfold sSeq
 rw [wp_bind]
 have e : ∀ (fl : Fl) (r : En), wp (match fl with | .next => h | f => P.ret f) QF E r ↔ onN fl r (wp h QF E) QF := fun fl r => by cases fl <;> exact Iff.rfl
 exact kh e
theorem ybv {c : P Bool} {g h : P Fl} : wp (sIf c g h) QF E ρ ↔ wp c (fun b r => if b = true then wp g QF E r else wp h QF E r) E ρ := by
 unfold sIf
 simp only [wp_bind, wb3]
theorem jbk {f : P Rv} : wp (sRet f) QF E ρ ↔ wp f (fun v r => QF (.ret v) r) E ρ := by
 unfold sRet
 simp only [wp_bind, xp]
theorem ja2 : wp sRetN QF E ρ ↔ QF (.ret (.dat (.s .non))) ρ := Iff.rfl
theorem vbl {f : P Rv} : wp (ja1 f) QF E ρ ↔ wp f (fun _ r => QF .next r) E ρ := by
 unfold ja1
 simp only [wp_bind, xp]
theorem wp_set {i : Nat} {f : P Rv} : wp (sSet i f) QF E ρ ↔ wp f (fun v r => wpG r v fun d r2 => i < r2.length ∧ QF .next (r2.set i (.dat d))) E ρ := by
 unfold sSet
 simp only [wp_bind, wp_grab]
 have h : ∀ (d : D) (r : En), wp (putD i d) QF E r ↔ i < r.length ∧ QF .next (r.set i (.dat d)) := fun d r => by
  unfold wp putD
  by_cases h : i < r.length
  ·rw [if_pos h]; exact ⟨fun q => ⟨h, q⟩, fun q => q.2⟩
  ·rw [if_neg h]; exact ⟨fun q => q.elim, fun q => h q.1⟩
 simp only [h]
def isM (v : Rv) (Q : M → Prop) : Prop := match v with
 | .new m => Q m
 | _ => False
theorem ybr {m : M} {Q : M → Prop} : isM (.new m) Q ↔ Q m := Iff.rfl
theorem zbk {i : Nat} {f : P Rv} : wp (xba i f) QF E ρ ↔ wp f (fun v r => isM v fun m => i < r.length ∧ QF .next (r.set i (.own m))) E ρ := by
 unfold xba
 rw [wp_bind]
 have h : ∀ (v : Rv) (r : En), wp (putM i v) QF E r ↔ isM v fun m => i < r.length ∧ QF .next (r.set i (.own m)) := fun v r => by
  unfold wp putM isM
  cases v with
  | dat d => exact Iff.rfl
  | bor j => exact Iff.rfl
  | new m =>
   dsimp only
   by_cases h : i < r.length
   ·rw [if_pos h]; exact ⟨fun q => ⟨h, q⟩, fun q => q.2⟩
   ·rw [if_neg h]; exact ⟨fun q => q.elim, fun q => h q.1⟩
 simp only [h]
def xbq (Q : List D → Prop) : Cell → Prop
 | .own (.lst ds) => Q ds
 | _ => False
theorem yap {ds : List D} {Q : List D → Prop} : xbq Q (.own (.lst ds)) ↔ Q ds := Iff.rfl
theorem ybk {i : Nat} {k : List D → P α} : wp (ownL i k) Q E ρ ↔ atS ρ i (xbq fun ds => wp (k ds) Q E ρ) := by
 unfold wp ownL atS
 cases ρ[i]? with
 | none => exact Iff.rfl
 | some c =>
  cases c with
  | own m => cases m <;> exact Iff.rfl
  | _ => exact Iff.rfl
theorem jam {i : Nat} {fe : P Rv} : wp (kac i fe) QR E ρ ↔ atS ρ i (xbq fun _ => wp fe (fun v r => wpG r v fun d r2 => atS r2 i (xbq fun ds => ds.length < sizeLine ∧ QR (.dat (.s .non)) (r2.set i (.own (.lst (ds ++ [d])))))) E ρ) := by
 unfold kac
 simp only [ybk, wp_bind, wp_grab]
 have h : ∀ (d : D) (ds : List D) (r : En), wp (if ds.length < sizeLine then setL i (ds ++ [d]) (.dat (.s .non)) else P.fail) QR E r ↔ ds.length < sizeLine ∧ QR (.dat (.s .non)) (r.set i (.own (.lst (ds ++ [d])))) := fun d ds r => by
  by_cases h : ds.length < sizeLine
  ·rw [if_pos h]; exact ⟨fun q => ⟨h, q⟩, fun q => q.2⟩
  ·rw [if_neg h]; exact ⟨fun q => q.elim, fun q => h q.1⟩
 simp only [h]
theorem kau {i : Nat} {Q1 Q2 : Cell → Prop} (h : ∀ c, Q1 c ↔ Q2 c) : atS ρ i Q1 ↔ atS ρ i Q2 := by
 unfold atS
 cases ρ[i]? with
 | none => exact Iff.rfl
 | some c => exact h c
theorem jal {c : Cell} {Q1 Q2 : List D → Prop} (h : ∀ ds, Q1 ds ↔ Q2 ds) : xbq Q1 c ↔ xbq Q2 c := by
 cases c with
 | own m => cases m with
  | lst ds => exact h ds
  | dk _ => exact Iff.rfl
  | dt _ => exact Iff.rfl
  | dn _ _ _ => exact Iff.rfl
  | ob _ _ => exact Iff.rfl
 | _ => exact Iff.rfl
theorem jbw {r : Rv} {Q1 Q2 : D → En → Prop} (h : ∀ d e, Q1 d e ↔ Q2 d e) : wpG ρ r Q1 ↔ wpG ρ r Q2 := by
 unfold wpG
 cases grab ρ r with
 | none => exact Iff.rfl
 | some z => exact h _ _
theorem xbl {i k : Nat} {c : Int} : wp (sIncL i k c) QF E ρ ↔ atS ρ i (xbq fun ds => wpO ds[k]? fun d => isZ d fun n => QF .next (ρ.set i (.own (.lst (ds.set k (.s (.int (n + c)))))))) := by
 unfold sIncL
 simp only [ybk]
 have h : ∀ (ds : List D), wp (match ds[k]? with | some (.s (.int n)) => setL i (ds.set k (.s (.int (n + c)))) .next | _ => P.fail) QF E ρ ↔ wpO ds[k]? fun d => isZ d fun n => QF .next (ρ.set i (.own (.lst (ds.set k (.s (.int (n + c))))))) := fun ds => by
  unfold wpO isZ
  cases ds[k]? with
  | none => exact Iff.rfl
  | some d =>
   cases d with
   | s x => cases x <;> exact Iff.rfl
   | _ => exact Iff.rfl
 exact kau fun c => jal h
def datQ (Q : D → Prop) : Cell → Prop
 | .dat d => Q d
 | _ => False
theorem qah {d : D} {Q : D → Prop} : datQ Q (.dat d) ↔ Q d := Iff.rfl
theorem wp_aug {i : Nat} {op : D → D → Option Rv} {f : P Rv} : wp (sAug i op f) QF E ρ ↔ atS ρ i (datQ fun d0 => wp f (fun v r => wpO (peek r v) fun d => wpO (op d0 d) fun z => match z with | .dat z => i < r.length ∧ QF .next (r.set i (.dat z)) | _ => False) E ρ) := by
 unfold atS
 unfold sAug
 cases q : ρ[i]? with
 | none => unfold wp; simp only [q]
 | some c =>
  cases c with
  | no => unfold wp; simp only [q, datQ]
  | own m => unfold wp; simp only [q, datQ]
  | dat d0 =>
   simp only [datQ]
   have e : ∀ g : P Fl, wp (fun ρ0 => match ρ0[i]? with | some (.dat _) => g ρ0 | _ => none) QF E ρ ↔ wp g QF E ρ := fun g => by unfold wp; simp only [q]
   have e2 : wp (fun ρ0 => match ρ0[i]? with
    | some (.dat d0) => (f.bind fun r => fun ρ => match peek ρ r with
     | some d => (match op d0 d with
      | some (.dat z) => putD i z ρ
      | _ => none)
     | none => none) ρ0
    | _ => none) QF E ρ ↔ wp (f.bind fun r => fun ρ => match peek ρ r with
     | some d => (match op d0 d with
      | some (.dat z) => putD i z ρ
      | _ => none)
     | none => none) QF E ρ := by unfold wp; simp only [q]
   refine e2.trans ?_
   rw [wp_bind]
   have h : ∀ (v : Rv) (r : En), wp (fun ρ => match peek ρ v with
     | some d => (match op d0 d with
      | some (.dat z) => putD i z ρ
      | _ => none)
     | none => none) QF E r ↔ wpO (peek r v) fun d => wpO (op d0 d) fun z => match z with | .dat z => i < r.length ∧ QF .next (r.set i (.dat z)) | _ => False := fun v r => by
    unfold wp wpO
    dsimp only
    cases peek r v with
    | none => exact Iff.rfl
    | some d =>
     dsimp only
     cases op d0 d with
     | none => exact Iff.rfl
     | some z =>
      cases z with
      | new m => exact Iff.rfl
      | bor j => exact Iff.rfl
      | dat z =>
       dsimp only
       unfold putD
       by_cases h : i < r.length
       ·rw [if_pos h]; exact ⟨fun q => ⟨h, q⟩, fun q => q.2⟩
       ·rw [if_neg h]; exact ⟨fun q => q.elim, fun q => h q.1⟩
   simp only [h]
end
end PL
namespace PL
open PySem L2
section
variable {α β : Type} {Q : α → En → Prop} {QR : Rv → En → Prop} {QB : Bool → En → Prop} {QF : Fl → En → Prop} {QD : D → En → Prop} {QDs : List D → En → Prop} {QRs : List Rv → En → Prop} {QA : List Arg → En → Prop} {E : Exn → En → Prop} {ρ : En}
def one1 (ds : List D) (Q : D → Prop) : Prop := match ds with
 | [d] => Q d
 | _ => False
def two2 (ds : List D) (Q : D → D → Prop) : Prop := match ds with
 | [d, e] => Q d e
 | _ => False
theorem ja4 {d : D} {Q : D → Prop} : one1 [d] Q ↔ Q d := Iff.rfl
theorem ka3 {d e : D} {Q : D → D → Prop} : two2 [d, e] Q ↔ Q d e := Iff.rfl
def isL (d : D) (Q : List D → Prop) : Prop := match d with
 | .lst ds => Q ds
 | _ => False
theorem wbr {ds : List D} {Q : List D → Prop} : isL (.lst ds) Q ↔ Q ds := Iff.rfl
theorem wp_ext {i : Nat} {f : P Rv} : wp (sExt i f) QF E ρ ↔ atS ρ i (xbq fun _ => wp f (fun v r => wpO (peek r v) fun d => isL d fun es => atS r i (xbq fun ds => ds.length + es.length ≤ sizeLine ∧ QF .next (r.set i (.own (.lst (ds ++ es)))))) E ρ) := by
 unfold sExt
 simp only [ybk, wp_bind]
 refine kau fun c => jal fun _ => kh fun v r => ?_
 show wp (fun ρ => match peek ρ v with
  | some (.lst es) => (ownL i fun ds => if ds.length + es.length ≤ sizeLine then setL i (ds ++ es) .next else P.fail) ρ
  | _ => none) QF E r ↔ _
 cases q : peek r v with
 | none => unfold wp wpO; simp only [q]
 | some d =>
  cases d with
  | lst es =>
   have e1 : wp (fun ρ => match peek ρ v with
    | some (.lst es) => (ownL i fun ds => if ds.length + es.length ≤ sizeLine then setL i (ds ++ es) .next else P.fail) ρ
    | _ => none) QF E r ↔ wp (ownL i fun ds => if ds.length + es.length ≤ sizeLine then setL i (ds ++ es) .next else P.fail) QF E r := by unfold wp; simp only [q]
   refine e1.trans ?_
   rw [ybk]
   show _ ↔ atS r i _
   refine kau fun c => jal fun ds => ?_
   by_cases h : ds.length + es.length ≤ sizeLine
   ·rw [if_pos h]; exact ⟨fun q => ⟨h, q⟩, fun q => q.2⟩
   ·rw [if_neg h]; exact ⟨fun q => q.elim, fun q => h q.1⟩
  | _ => unfold wp wpO; simp only [q, isL]
theorem qbk : wp uNil QA E ρ ↔ QA [] ρ := Iff.rfl
theorem wp_ud {f : P Rv} {g : P (List Arg)} : wp (uD f g) QA E ρ ↔ wp f (fun v r => wpG r v fun d r2 => wp g (fun as r3 => QA (.inl d :: as) r3) E r2) E ρ := by
 unfold uD
 simp only [wp_bind, xp, wp_grab]
def ownQ (Q : M → Prop) : Cell → Prop
 | .own m => Q m
 | _ => False
theorem qa4 {m : M} {Q : M → Prop} : ownQ Q (.own m) ↔ Q m := Iff.rfl
theorem wp_um {i : Nat} {g : P (List Arg)} : wp (uM i g) QA E ρ ↔ atS ρ i (ownQ fun _ => wp g (fun as r3 => QA (.inr i :: as) r3) E ρ) := by
 unfold uM
 rw [wp_bind]
 simp only [wp_bind, xp]
 unfold wp uM.ownS atS
 cases ρ[i]? with
 | none => exact Iff.rfl
 | some c => cases c <;> exact Iff.rfl
theorem qam {n : Nat} {F : P Rv} {as : List Arg} : wp (wq n F as) QR E ρ ↔ ((slotsOf as).Nodup ∧ as.length = n) ∧ wpO (cellsOf ρ as) fun cs => wp F (fun r cs' => QR r (qr ρ as cs')) (fun e cs' => E e (qr ρ as cs')) cs := by
 unfold wp wq wpO
 by_cases h : (slotsOf as).Nodup ∧ as.length = n
 ·rw [if_pos h]
  cases cellsOf ρ as with
  | none => exact ⟨fun q => q.elim, fun q => q.2⟩
  | some cs =>
   dsimp only
   cases F cs with
   | none => exact ⟨fun q => q.elim, fun q => q.2⟩
   | some o => cases o <;> exact ⟨fun q => ⟨h, q⟩, fun q => q.2⟩
 ·rw [if_neg h]
  exact ⟨fun q => q.elim, fun q => h q.1⟩
theorem wp_call {n : Nat} {F : P Rv} {fs : P (List Arg)} : wp (wd n F fs) QR E ρ ↔ wp fs (fun as r => ((slotsOf as).Nodup ∧ as.length = n) ∧ wpO (cellsOf r as) fun cs => wp F (fun v cs' => QR v (qr r as cs')) (fun e cs' => E e (qr r as cs')) cs) E ρ := by
 unfold wd
 simp only [wp_bind, qam]
theorem van : slotsOf [] = [] := rfl
theorem wan {d : D} {as : List Arg} : slotsOf (.inl d :: as) = slotsOf as := rfl
theorem yan {i : Nat} {as : List Arg} : slotsOf (.inr i :: as) = i :: slotsOf as := rfl
theorem was : cellsOf ρ [] = some [] := rfl
theorem jat {d : D} {as : List Arg} {Q : List Cell → Prop} : wpO (cellsOf ρ (.inl d :: as)) Q ↔ wpO (cellsOf ρ as) fun cs => Q (.dat d :: cs) := by
 unfold wpO
 simp only [cellsOf]
 cases cellsOf ρ as <;> exact Iff.rfl
theorem qat {i : Nat} {as : List Arg} {Q : List Cell → Prop} : wpO (cellsOf ρ (.inr i :: as)) Q ↔ atS ρ i (ownQ fun m => wpO (cellsOf ρ as) fun cs => Q (.own m :: cs)) := by
 unfold wpO atS
 simp only [cellsOf]
 cases ρ[i]? with
 | none => exact Iff.rfl
 | some c =>
  cases c with
  | own m => cases cellsOf ρ as <;> exact Iff.rfl
  | _ => exact Iff.rfl
theorem qa8 {cs : List Cell} : qr ρ [] cs = ρ := rfl
theorem za8 {d : D} {as : List Arg} {c : Cell} {cs : List Cell} : qr ρ (.inl d :: as) (c :: cs) = qr ρ as cs := rfl
theorem ja8 {i : Nat} {as : List Arg} {c : Cell} {cs : List Cell} : qr ρ (.inr i :: as) (c :: cs) = (qr ρ as cs).set i c := rfl
def endQ (fx : List Nat) (cs : List Cell) (QR : Rv → En → Prop) (fl : Fl) (r : En) : Prop := match fl with
 | .ret v => wpO (handed cs.length r v) fun v' => wpO (merge fx 0 cs r) fun cs' => QR v' cs'
 | .next => wpO (merge fx 0 cs r) fun cs' => QR (.dat (.s .non)) cs'
 | _ => False
theorem qa7 {fx : List Nat} {cs : List Cell} {v : Rv} {r : En} : endQ fx cs QR (.ret v) r ↔ wpO (handed cs.length r v) fun v' => wpO (merge fx 0 cs r) fun cs' => QR v' cs' := Iff.rfl
theorem yar {fx : List Nat} {cs : List Cell} {r : En} : endQ fx cs QR .next r ↔ wpO (merge fx 0 cs r) fun cs' => QR (.dat (.s .non)) cs' := Iff.rfl
theorem wp_run {fx : List Nat} {N : Nat} {body : P Fl} {cs : List Cell} : wp (runF fx N body) QR E cs ↔ wp body (endQ fx cs QR) (fun e r => wpO (merge fx 0 cs r) fun cs' => E e cs') (cs ++ List.replicate (N - cs.length) .no) := by
 unfold wp runF
 cases body (cs ++ List.replicate (N - cs.length) .no) with
 | none => exact Iff.rfl
 | some o =>
  cases o with
  | ex e r =>
   dsimp only
   unfold wpO
   cases merge fx 0 cs r <;> exact Iff.rfl
  | ok fl r =>
   cases fl with
   | next =>
    dsimp only
    unfold endQ wpO
    cases merge fx 0 cs r <;> exact Iff.rfl
   | brk => exact Iff.rfl
   | cont => exact Iff.rfl
   | ret v =>
    dsimp only
    simp only [endQ, wpO]
    cases handed cs.length r v with
    | none => exact Iff.rfl
    | some v' => dsimp only; cases merge fx 0 cs r <;> exact Iff.rfl
theorem jap {fx : List Nat} {k : Nat} {r : En} : merge fx k [] r = some [] := by unfold merge; rfl
theorem kap {fx : List Nat} {k : Nat} {d : D} {c : Cell} {cs : List Cell} {r : En} {Q : List Cell → Prop} : wpO (merge fx k (.dat d :: cs) (c :: r)) Q ↔ wpO (merge fx (k + 1) cs r) fun x => Q (.dat d :: x) := by
 unfold wpO
 simp only [merge]
 cases merge fx (k + 1) cs r <;> exact Iff.rfl
theorem zap {fx : List Nat} {k : Nat} {m m' : M} {cs : List Cell} {r : En} {Q : List Cell → Prop} : wpO (merge fx k (.own m :: cs) (.own m' :: r)) Q ↔ k ∈ fx ∧ wpO (merge fx (k + 1) cs r) fun x => Q (.own m' :: x) := by
 unfold wpO
 simp only [merge]
 by_cases h : k ∈ fx
 ·rw [if_pos h]
  cases merge fx (k + 1) cs r with
  | none => exact ⟨fun q => q.elim, fun q => q.2⟩
  | some x => exact ⟨fun q => ⟨h, q⟩, fun q => q.2⟩
 ·rw [if_neg h]
  exact ⟨fun q => q.elim, fun q => h q.1⟩
theorem yag {n : Nat} {d : D} : handed n ρ (.dat d) = some (.dat d) := rfl
theorem vag {n : Nat} {m : M} : handed n ρ (.new m) = some (.new m) := rfl
def handQ (n i : Nat) (Q : Rv → Prop) : Cell → Prop
 | .no => False
 | .dat d => Q (.dat d)
 | .own m => n ≤ i ∧ Q (.new m)
theorem wag {n i : Nat} {Q : Rv → Prop} : wpO (handed n ρ (.bor i)) Q ↔ atS ρ i (handQ n i Q) := by
 unfold wpO atS
 simp only [handed]
 cases ρ[i]? with
 | none => exact Iff.rfl
 | some c =>
  cases c with
  | no => exact Iff.rfl
  | dat d => exact Iff.rfl
  | own m =>
   dsimp only
   unfold handQ
   by_cases h : n ≤ i
   ·rw [if_pos h]; exact ⟨fun q => ⟨h, q⟩, fun q => q.2⟩
   ·rw [if_neg h]; exact ⟨fun q => q.elim, fun q => h q.1⟩
theorem kaq {n i : Nat} {d : D} {Q : Rv → Prop} : handQ n i Q (.dat d) ↔ Q (.dat d) := Iff.rfl
theorem xaq {n i : Nat} {m : M} {Q : Rv → Prop} : handQ n i Q (.own m) ↔ n ≤ i ∧ Q (.new m) := Iff.rfl
theorem zbl {f : P Rv} : wp (vv f) QDs E ρ ↔ wp f (fun v r => wpG r v fun d r2 => wpO (walked d) fun ds => QDs ds r2) E ρ := by
 unfold vv
 simp only [wp_bind, wp_grab, wbk]
theorem zaf {ds : List D} : walked (.lst ds) = some ds := rfl
theorem qaf {ds : List D} : walked (.tup ds) = some ds := rfl
theorem wam {ds : List D} : walked (.ro ds) = some ds := rfl
theorem jaf {z : Str} : walked (.s (.str z)) = some (xbh z) := rfl
theorem xbk {fs : P (List Rv)} : wp (vbc fs) QDs E ρ ↔ wp fs (fun rs r => wpO (q9 r rs) fun ds => one1 ds fun d => isZ d fun j => inBd j = true ∧ QDs (rngD 0 j.toNat) r) E ρ := by
 unfold vbc
 rw [wp_bind]
 simp only [wp_pks]
 refine kh fun rs r => za9 fun ds => ?_
 match ds with
 | [] => exact Iff.rfl
 | d :: e :: t => cases d with
  | s x => cases x <;> exact Iff.rfl
  | _ => exact Iff.rfl
 | [d] =>
  cases d with
  | s x =>
   cases x with
   | int j =>
    show wp (if inBd j = true then P.ret (rngD 0 j.toNat) else P.fail) QDs E r ↔ inBd j = true ∧ QDs (rngD 0 j.toNat) r
    by_cases h : inBd j = true
    ·rw [if_pos h]; exact ⟨fun q => ⟨h, q⟩, fun q => q.2⟩
    ·rw [if_neg h]; exact ⟨fun q => q.elim, fun q => h q.1⟩
   | _ => exact Iff.rfl
  | _ => exact Iff.rfl
def isLL (d : D) (Q : List D → Prop) : Prop := match d with
 | .lst ds => Q ds
 | .ro ds => Q ds
 | _ => False
theorem ka6 {ds : List D} {Q : List D → Prop} : isLL (.lst ds) Q ↔ Q ds := Iff.rfl
theorem qbs {ds : List D} {Q : List D → Prop} : isLL (.ro ds) Q ↔ Q ds := Iff.rfl
def pairL (d e : D) (Q : List D → List D → Prop) : Prop := match d, e with
 | .lst xs, .lst ys => Q xs ys
 | .tup xs, .tup ys => Q xs ys
 | _, _ => False
theorem kao {xs ys : List D} {Q : List D → List D → Prop} : pairL (.lst xs) (.lst ys) Q ↔ Q xs ys := Iff.rfl
theorem xao {xs ys : List D} {Q : List D → List D → Prop} : pairL (.tup xs) (.tup ys) Q ↔ Q xs ys := Iff.rfl
def zb4 (fl : Fl) (r : En) (N : En → Prop) (QF : Fl → En → Prop) : Prop := match fl with
 | .next => N r
 | .cont => N r
 | .brk => QF .next r
 | .ret v => QF (.ret v) r
theorem xaf {r : En} {N : En → Prop} : zb4 .next r N QF ↔ N r := Iff.rfl
theorem kaf {r : En} {N : En → Prop} : zb4 .cont r N QF ↔ N r := Iff.rfl
theorem zan {r : En} {N : En → Prop} : zb4 .brk r N QF ↔ QF .next r := Iff.rfl
theorem jan {v : Rv} {r : En} {N : En → Prop} : zb4 (.ret v) r N QF ↔ QF (.ret v) r := Iff.rfl
theorem vax {fi : P (List D)} {a : Tgt} {body : P Fl} : wp (sFor fi a body) QF E ρ ↔ wp fi (fun ds r => wp (vap a body ds) QF E r) E ρ := by
 unfold sFor
 rw [wp_bind]
theorem qbw {a : Tgt} {body : P Fl} {d : D} {ds : List D} : wp (vap a body (d :: ds)) QF E ρ ↔ wpO (a d ρ) fun r1 => wp body (fun fl r2 => zb4 fl r2 (wp (vap a body ds) QF E) QF) E r1 := by
 show wp (fun ρ => match a d ρ with
  | none => none
  | some ρ1 => yg (body ρ1) fun f => match f with
   | .next => vap a body ds
   | .cont => vap a body ds
   | .brk => P.ret .next
   | .ret r => P.ret (.ret r)) QF E ρ ↔ _
 unfold wpO
 cases q : a d ρ with
 | none => unfold wp; simp only [q]
 | some r1 =>
  unfold wp
  simp only [q]
  cases q2 : body r1 with
  | none => exact Iff.rfl
  | some o =>
   cases o with
   | ex e r => exact Iff.rfl
   | ok fl r => cases fl <;> exact Iff.rfl
theorem xt {a : Tgt} {body : P Fl} {ds : List D} (I : Nat → En → Prop) (h0 : I 0 ρ) (hs : ∀ i d r, ds[i]? = some d → I i r → wpO (a d r) fun r1 => wp body (fun fl r2 => zb4 fl r2 (I (i + 1)) QF) E r1) (hd : ∀ r, I ds.length r → QF .next r) : wp (vap a body ds) QF E ρ := by
 have key : ∀ (n i : Nat) (r : En), n = ds.length - i → i ≤ ds.length → I i r → wp (vap a body (ds.drop i)) QF E r := by
  intro n
  induction n with
  | zero =>
   intro i r hn hi h
   have : i = ds.length := by omega
   subst this
   rw [List.drop_length]
   exact hd r h
  | succ n ih =>
   intro i r hn hi h
   have hlt : i < ds.length := by omega
   have hg := List.getElem?_eq_getElem hlt
   rw [ja7 hg, qbw]
   have hh := hs i _ r hg h
   unfold wpO at hh ⊢
   cases q : a ds[i] r with
   | none => rw [q] at hh; exact hh
   | some r1 =>
    rw [q] at hh
    refine wp_mono hh (fun fl r2 z => ?_) fun _ _ z => z
    cases fl with
    | next => exact ih (i + 1) r2 (by omega) hlt z
    | cont => exact ih (i + 1) r2 (by omega) hlt z
    | brk => exact z
    | ret v => exact z
 have := key ds.length 0 ρ (by omega) (Nat.zero_le _) h0
 rwa [List.drop_zero] at this
theorem wp_while {c : P Bool} {body : P Fl} {n m : Nat} (I : Nat → En → Prop) (h0 : I m ρ) (hm : m < n) (hs : ∀ m r, I m r → wp c (fun b r1 => if b = true then wp body (fun fl r2 => zb4 fl r2 (fun r => ∃ m', m' < m ∧ I m' r) QF) E r1 else QF .next r1) E r) : wp (qaa c body n) QF E ρ := by
 induction n generalizing m ρ with
 | zero => omega
 | succ n ih =>
  show wp (c.bind fun b => if b = true then body.bind fun f => (match f with
   | .next => qaa c body n
   | .cont => qaa c body n
   | .brk => P.ret .next
   | .ret r => P.ret (.ret r)) else P.ret .next) QF E ρ
  rw [wp_bind]
  refine wp_mono (hs m ρ h0) (fun b r1 z => ?_) fun _ _ z => z
  cases b with
  | false => exact z
  | true =>
   rw [if_pos rfl] at z ⊢
   rw [wp_bind]
   refine wp_mono z (fun fl r2 z => ?_) fun _ _ z => z
   cases fl with
   | next => obtain ⟨m', h1, h2⟩ := z; exact ih h2 (by omega)
   | cont => obtain ⟨m', h1, h2⟩ := z; exact ih h2 (by omega)
   | brk => exact z
   | ret v => exact z
abbrev EF : Exn → En → Prop := fun _ _ => False
theorem qbm {vs : List Nat} {fi : P (List D)} {a : Tgt} {tests : P Bool} {elt : P Rv} : wp (jw vs fi a tests elt) QR E ρ ↔ wp fi (fun ds r => wpO (k9 vs a tests elt ds [] (yk r vs)) fun z => QR (.new (.lst z.1)) (wak r z.2 vs)) E ρ := by
 unfold jw
 rw [wp_bind]
 refine kh fun ds r => ?_
 unfold wp wpO
 dsimp only
 cases k9 vs a tests elt ds [] (yk r vs) <;> exact Iff.rfl
theorem kbd {vs : List Nat} {a : Tgt} {tests : P Bool} {elt : P Rv} {ds acc0 : List D} (I : Nat → List D → En → Prop) (h0 : I 0 acc0 ρ)
  (hs : ∀ i d acc r, ds[i]? = some d → I i acc r → wpO (a d r) fun r1 => wp tests (fun b r2 => if b = true then wp elt (fun v r3 => wpG r3 v fun y r4 => acc.length < sizeLine ∧ I (i + 1) (acc ++ [y]) (yk r4 vs)) EF r2 else I (i + 1) acc (yk r2 vs)) EF r1) :
  ∃ acc r, k9 vs a tests elt ds acc0 ρ = some (acc, r) ∧ I ds.length acc r := by
 have key : ∀ (n i : Nat) (acc : List D) (r : En), n = ds.length - i → i ≤ ds.length → I i acc r → ∃ acc' r', k9 vs a tests elt (ds.drop i) acc r = some (acc', r') ∧ I ds.length acc' r' := by
  intro n
  induction n with
  | zero =>
   intro i acc r hn hi h
   have : i = ds.length := by omega
   subst this
   rw [List.drop_length]
   exact ⟨acc, r, rfl, h⟩
  | succ n ih =>
   intro i acc r hn hi h
   have hlt : i < ds.length := by omega
   have hg := List.getElem?_eq_getElem hlt
   rw [ja7 hg]
   have hh := hs i _ acc r hg h
   unfold wpO at hh
   cases q : a ds[i] r with
   | none => rw [q] at hh; exact hh.elim
   | some r1 =>
    rw [q] at hh
    obtain ⟨b, r2, e1, h2⟩ := wbg hh
    simp only [k9, q, e1]
    cases b with
    | false => exact ih (i + 1) acc _ (by omega) hlt h2
    | true =>
     rw [if_pos rfl] at h2
     have h3 : wp (z9 elt) (fun y r4 => acc.length < sizeLine ∧ I (i + 1) (acc ++ [y]) (yk r4 vs)) EF r2 := wp_grab.mpr h2
     obtain ⟨y, r4, e2, h4, h5⟩ := wbg h3
     simp only [e2, if_pos h4]
     exact ih (i + 1) _ _ (by omega) hlt h5
 have := key ds.length 0 acc0 ρ (by omega) (Nat.zero_le _) h0
 rwa [List.drop_zero] at this
theorem xbv {i : Nat} {d : D} {Q : En → Prop} : wpO (aN i d ρ) Q ↔ i < ρ.length ∧ Q (ρ.set i (.dat d)) := y9
theorem aT_tup {n : Nat} {as : List D → En → Option En} {ds : List D} {Q : En → Prop} : wpO (aT n as (.tup ds) ρ) Q ↔ ds.length = n ∧ wpO (as ds ρ) Q := by
 show wpO (if ds.length = n then as ds ρ else none) Q ↔ _
 by_cases h : ds.length = n
 ·rw [if_pos h]; exact ⟨fun q => ⟨h, q⟩, fun q => q.2⟩
 ·rw [if_neg h]; exact ⟨fun q => q.elim, fun q => h q.1⟩
theorem ya8 {a : Tgt} {as : List D → En → Option En} {d : D} {ds : List D} {Q : En → Prop} : wpO (v9 a as (d :: ds) ρ) Q ↔ wpO (a d ρ) fun r => wpO (as ds r) Q := by
 unfold wpO
 simp only [v9]
 cases a d ρ <;> exact Iff.rfl
theorem zbv {Q : En → Prop} : wpO (aNil [] ρ) Q ↔ Q ρ := Iff.rfl
end
end PL
namespace PL
open PySem L2
section
variable {K : PySem.W.Frag} {cs : List Addr}
theorem isi_ty {a b : String} {r : Bool} {x : D} (h : kitB a b = some r) (ht : tyD x = some (.type a)) (hc : jbg cs x = true) : isiD K cs [x, .s (.ty b)] = some (rvB r) := by
 unfold isiD isiB
 simp only [ht, clsD, if_pos hc, kit_ty h]
variable {b : Bool} {i : Int} {z : Str} {ds : List D}
theorem kr : isiD K cs [.s (.bl b), .s (.ty "bool")] = some (rvB true) := isi_ty (a := "bool") (by decide +kernel) rfl rfl
theorem v5 : isiD K cs [.s (.str z), .s (.ty "str")] = some (rvB true) := isi_ty (a := "str") (by decide +kernel) rfl rfl
theorem zo : isiD K cs [.tup ds, .s (.ty "tuple")] = some (rvB true) := isi_ty (a := "tuple") (by decide +kernel) rfl rfl
theorem wah : isiD K cs [.ro ds, .s (.ty "bool")] = some (rvB false) := isi_ty (a := "list") (by decide +kernel) rfl rfl
end
theorem jb6 {i j : Int} (h : j.natAbs < 18446744073709551616) : zb6 i j = true := by unfold zb6; rw [decide_eq_true h, Bool.or_true]
theorem kbp {i j : Int} (h : i.natAbs < 18446744073709551616) : zb6 i j = true := by unfold zb6; rw [decide_eq_true h, Bool.true_or]
theorem vq {j : Int} (h1 : -4611686018427387904 ≤ j) (h2 : j < 4611686018427387904) : inBd j = true := by
 unfold inBd
 rw [decide_eq_true (by omega), decide_eq_true (by omega)]; rfl
theorem ya5 {y : Str} {Q : Rv → Prop} : wpO (lenD [.s (.str y)]) Q ↔ y.length ≤ sizeLine ∧ Q (rvI y.length) := y9
theorem wa5 {ds : List D} : lenD [.lst ds] = some (rvI ds.length) := rfl
theorem kbq {ds : List D} : lenD [.ro ds] = some (rvI ds.length) := rfl
theorem va5 {ds : List D} : lenD [.tup ds] = some (rvI ds.length) := rfl
theorem size_eq : sizeLine = 16777216 := sizeLine_eq
end PL
namespace PL
open PySem L2
section
variable {ds : List D} {i : Int} {z : Str} {Q : Rv → Prop}
theorem qbr : wpO (ixD (.lst ds) (.s (.int i))) Q ↔ wpO (atI ds i) fun d => Q (.dat d) := by
 unfold wpO
 simp only [ixD, items]
 cases atI ds i <;> exact Iff.rfl
theorem ixw_ro : wpO (ixD (.ro ds) (.s (.int i))) Q ↔ wpO (atI ds i) fun d => Q (.dat d) := by
 unfold wpO
 simp only [ixD, items]
 cases atI ds i <;> exact Iff.rfl
theorem ybq : wpO (ixD (.tup ds) (.s (.int i))) Q ↔ wpO (atI ds i) fun d => Q (.dat d) := by
 unfold wpO
 simp only [ixD, items]
 cases atI ds i <;> exact Iff.rfl
theorem wbq : wpO (ixD (.s (.str z)) (.s (.int i))) Q ↔ z.length ≤ sizeLine ∧ wpO (atI z.cps.toList i) fun c => Q (rvS ⟨#[c]⟩) := by
 unfold wpO
 simp only [ixD]
 by_cases h : z.length ≤ sizeLine
 ·rw [if_pos h]
  cases atI z.cps.toList i with
  | none => exact ⟨fun q => q.elim, fun q => q.2⟩
  | some c => exact ⟨fun q => ⟨h, q⟩, fun q => q.2⟩
 ·rw [if_neg h]
  exact ⟨fun q => q.elim, fun q => h q.1⟩
theorem zak {α : Type} {xs : List α} {i : Int} (h : 0 ≤ i) : atI xs i = xs[i.toNat]? := by
 unfold atI ixN
 rw [if_pos h]
 by_cases h1 : i < xs.length
 ·rw [if_pos h1]; rfl
 ·rw [if_neg h1, List.getElem?_eq_none (by omega)]; rfl
theorem atI_in {α : Type} {xs : List α} {i : Int} {Q : α → Prop} (h0 : 0 ≤ i) (h1 : i < xs.length) (h : ∀ x ∈ xs, Q x) : wpO (atI xs i) Q := by
 rw [zak h0, List.getElem?_eq_getElem (by omega)]
 exact h _ (List.getElem_mem _)
theorem atI_0 {α : Type} {a : α} {l : List α} : atI (a :: l) 0 = some a := by rw [zak (by decide)]; rfl
theorem atI_1 {α : Type} {a b : α} {l : List α} : atI (a :: b :: l) 1 = some b := by rw [zak (by decide)]; rfl
theorem atI_2 {α : Type} {a b c : α} {l : List α} : atI (a :: b :: c :: l) 2 = some c := by rw [zak (by decide)]; rfl
end
end PL
namespace PL
open PySem
abbrev okS (z : Str) : Prop := PyData.strOk z = true
theorem okS_iff {z : Str} : okS z ↔ ∀ c ∈ z.cps.toList, c < 0x110000 := by
 show PyData.strOk z = true ↔ _
 unfold PyData.strOk
 rw [← Array.all_toList, List.all_eq_true]
 exact ⟨fun h c m => of_decide_eq_true (h c m), fun h c m => decide_eq_true (h c m)⟩
theorem kav {a b : Str} (ha : okS a) (hb : okS b) : okS (a ++ b) := by
 rw [okS_iff] at ha hb ⊢
 intro c m
 have m : c ∈ (a.cps ++ b.cps).toList := m
 rw [Array.toList_append, List.mem_append] at m
 rcases m with m | m
 ·exact ha c m
 ·exact hb c m
theorem okS_sub {a : Str} (i j : Nat) (ha : okS a) : okS (Builtin.Str.strSub a i j) := by
 rw [okS_iff] at ha ⊢
 intro c m
 have m : c ∈ (a.cps.extract i j).toList := m
 rw [Array.toList_extract] at m
 exact ha c (List.mem_of_mem_drop (List.mem_of_mem_take m))
theorem okS_strip {a : Str} (y : Str) (ha : okS a) : okS (Txt.stripChars a y) := by
 unfold Txt.stripChars
 rw [PyProof.Rows.stripBy_eq]
 exact okS_sub _ _ ha
theorem len_app {a b : Str} : (a ++ b).length = a.length + b.length := by
 show (a.cps ++ b.cps).size = _
 rw [Array.size_append]
 rfl
section
variable {K : PySem.W.Frag}
theorem qag {d : D} {a : PyData} (h : toPy d = some a) : shp d = SeqAt.shaped a := by unfold shp; rw [h]
theorem vb5 {d : D} {a : PyData} (h : toPy d = some a) : py d = a := by unfold py; rw [h]; rfl
theorem eqB_shp {x y : D} (hx : shp x = true) (hy : shp y = true) : eqB x y = some (PyData.eqv (py x) (py y)) := by
 obtain ⟨h1, h2⟩ := yax hx
 obtain ⟨h3, h4⟩ := yax hy
 unfold eqB
 rw [h1, h3]
 dsimp only
 rw [if_pos (by rw [h2, h4]; rfl)]
theorem kb7 {x y : D} (hx : shp x = true) (hy : shp y = true) : eqD x y = some (rvB (PyData.eqv (py x) (py y))) := by
 unfold eqD; rw [eqB_shp hx hy]
theorem zbp {x y : D} (hx : shp x = true) (hy : shp y = true) : neD x y = some (rvB (!PyData.eqv (py x) (py y))) := by
 unfold neD; rw [eqB_shp hx hy]
theorem zav {i : Int} : shp (.s (.int i)) = true := by rw [qag (a := .int i) rfl]; rfl
theorem shp_bl {i : Bool} : shp (.s (.bl i)) = true := by rw [qag (a := .bool i) rfl]; rfl
theorem shp_non : shp (.s .non) = true := by rw [qag (a := .none) rfl]; rfl
theorem shp_str {z : Str} : shp (.s (.str z)) = PyData.strOk z := by
 rw [qag (a := .str z) rfl]
 show (PyData.canLay0 (.str z) && decide (PyData.depth (.str z) ≤ 64)) = _
 simp [PyData.canLay0, PyData.depth]
theorem zby {i : Int} : py (.s (.int i)) = .int i := rfl
theorem py_bl {i : Bool} : py (.s (.bl i)) = .bool i := rfl
theorem jby {i : Str} : py (.s (.str i)) = .str i := rfl
theorem zbs {i j : Int} : eqD (.s (.int i)) (.s (.int j)) = some (rvB (i == j)) := by
 rw [kb7 zav zav, zby, zby]; simp only [PyData.eqv]
theorem xbp {i j : Int} : neD (.s (.int i)) (.s (.int j)) = some (rvB (!(i == j))) := by
 rw [zbp zav zav, zby, zby]; simp only [PyData.eqv]
theorem neD_bl {i j : Bool} : neD (.s (.bl i)) (.s (.bl j)) = some (rvB (!(i == j))) := by
 rw [zbp shp_bl shp_bl, py_bl, py_bl]; simp only [PyData.eqv]
theorem yaw {a b : Str} (ha : okS a) (hb : okS b) : eqD (.s (.str a)) (.s (.str b)) = some (rvB (a == b)) := by
 rw [kb7 (shp_str.trans ha) (shp_str.trans hb), jby, jby]; simp only [PyData.eqv]
theorem qb6 {a b : Str} (ha : okS a) (hb : okS b) : neD (.s (.str a)) (.s (.str b)) = some (rvB (!(a == b))) := by
 rw [zbp (shp_str.trans ha) (shp_str.trans hb), jby, jby]; simp only [PyData.eqv]
def dep (d : D) : Nat := (py d).depth
theorem jaa : ∀ {ds : List D}, (∀ d ∈ ds, shp d = true) → kak ds = some (ds.map py)
 | [], _ => by simp [kak]
 | d :: ds, h => by
  rw [kak, (yax (h d List.mem_cons_self)).1, jaa fun e m => h e (List.mem_cons_of_mem _ m)]
  rfl
theorem waw : ∀ {ds : List D}, (∀ d ∈ ds, shp d = true) → PyData.canLayAll0 (ds.map py) = true
 | [], _ => by simp [PyData.canLayAll0]
 | d :: ds, h => by
  rw [List.map_cons, PyData.canLayAll0, waw fun e m => h e (List.mem_cons_of_mem _ m), SeqAt.canLay_of_shaped (yax (h d List.mem_cons_self)).2]
  rfl
theorem wbc {n : Nat} : ∀ {ds : List D}, (∀ d ∈ ds, dep d ≤ n) → PyData.depthAll (ds.map py) ≤ n
 | [], _ => by simp [PyData.depthAll]
 | d :: ds, h => by
  rw [List.map_cons, PyData.depthAll]
  have h1 := h d List.mem_cons_self
  have h2 := wbc fun e m => h e (List.mem_cons_of_mem _ m)
  unfold dep at h1
  omega
theorem py_lst {ds : List D} (h : ∀ d ∈ ds, shp d = true) : py (.lst ds) = .list (ds.map py) := vb5 (by rw [toPy, jaa h])
theorem waa {ds : List D} (h : ∀ d ∈ ds, shp d = true) : py (.tup ds) = .tuple (ds.map py) := vb5 (by rw [toPy, jaa h])
theorem shp_lst {n : Nat} {ds : List D} (h : ∀ d ∈ ds, shp d = true) (hd : ∀ d ∈ ds, dep d ≤ n) (hn : n ≤ 63) : shp (.lst ds) = true := by
 rw [qag (a := .list (ds.map py)) (by rw [toPy, jaa h])]
 show (PyData.canLay0 (.list (ds.map py)) && decide (PyData.depth (.list (ds.map py)) ≤ 64)) = true
 have := wbc hd
 rw [PyData.canLay0, waw h, decide_eq_true (by rw [PyData.depth]; omega)]; rfl
theorem shp_tup {n : Nat} {ds : List D} (h : ∀ d ∈ ds, shp d = true) (hd : ∀ d ∈ ds, dep d ≤ n) (hn : n ≤ 63) : shp (.tup ds) = true := by
 rw [qag (a := .tuple (ds.map py)) (by rw [toPy, jaa h])]
 show (PyData.canLay0 (.tuple (ds.map py)) && decide (PyData.depth (.tuple (ds.map py)) ≤ 64)) = true
 have := wbc hd
 rw [PyData.canLay0, waw h, decide_eq_true (by rw [PyData.depth]; omega)]; rfl
theorem dep_lst {n : Nat} {ds : List D} (h : ∀ d ∈ ds, shp d = true) (hd : ∀ d ∈ ds, dep d ≤ n) : dep (.lst ds) ≤ n + 1 := by
 unfold dep; rw [py_lst h, PyData.depth]; have := wbc hd; omega
theorem dep_tup {n : Nat} {ds : List D} (h : ∀ d ∈ ds, shp d = true) (hd : ∀ d ∈ ds, dep d ≤ n) : dep (.tup ds) ≤ n + 1 := by
 unfold dep; rw [waa h, PyData.depth]; have := wbc hd; omega
theorem dep_int {i : Int} : dep (.s (.int i)) = 0 := by unfold dep; rw [zby, PyData.depth]
theorem dep_bl {i : Bool} : dep (.s (.bl i)) = 0 := by unfold dep; rw [py_bl, PyData.depth]
theorem dep_str {i : Str} : dep (.s (.str i)) = 0 := by unfold dep; rw [jby, PyData.depth]
theorem dep_non : dep (.s .non) = 0 := by unfold dep; rw [show py (.s .non) = .none from rfl, PyData.depth]
theorem yu (xs ys : List PyData) : PyData.eqv (.tuple xs) (.tuple ys) = PyData.eqvAll xs ys := by simp only [PyData.eqv]
end
end PL
namespace PL
open PySem
section
variable {i j : Int} {a b : Str} {p q : Bool} {ds es : List D} {l h : Option Int} {x : D} {Q : Rv → Prop}
theorem lt_int : ltXD (.s (.int i)) (.s (.int j)) = some (rvB (decide (i < j))) := rfl
theorem lt_str : ltXD (.s (.str a)) (.s (.str b)) = some (rvB (strLt a b)) := rfl
theorem le_int : leD (.s (.int i)) (.s (.int j)) = some (rvB (decide (i ≤ j))) := rfl
theorem gt_int : gtD (.s (.int i)) (.s (.int j)) = some (rvB (decide (j < i))) := rfl
theorem ge_int : geD (.s (.int i)) (.s (.int j)) = some (rvB (decide (j ≤ i))) := rfl
theorem wbp : maxD [.s (.int i), .s (.int j)] = some (rvI (if j > i then j else i)) := rfl
theorem ybp : minD [.s (.int i), .s (.int j)] = some (rvI (if j < i then j else i)) := rfl
theorem ka5 : xbz [.lst ds] = some (.new (.lst ds)) := rfl
theorem za5 : xbz [.tup ds] = some (.new (.lst ds)) := rfl
theorem zbq : xbz [.ro ds] = some (.new (.lst ds)) := rfl
theorem ybm : zz [.lst ds] = some (.dat (.tup ds)) := rfl
theorem vbm : zz [.tup ds] = some (.dat (.tup ds)) := rfl
theorem sl_lst : slD (.lst ds) l h = some (.new (.lst (cutG ds l h))) := rfl
theorem sl_tup : slD (.tup ds) l h = some (.dat (.tup (cutG ds l h))) := rfl
theorem sl_ro : slD (.ro ds) l h = some (.new (.lst (cutG ds l h))) := rfl
theorem sl_str : wpO (slD (.s (.str a)) l h) Q ↔ a.length ≤ sizeLine ∧ Q (rvS (L2.cutS a l h)) := y9
theorem neg_int : negD (.s (.int i)) = some (rvI (-i)) := rfl
theorem is_bl : isD (.s (.bl p)) (.s (.bl q)) = some (rvB (decide (p = q))) := rfl
theorem jaq : z0 (.s (.bl p)) (.s (.bl q)) = some (rvB (!decide (p = q))) := rfl
theorem is_none : isD x (.s .non) = some (rvB (isNone x)) := rfl
theorem w5 : z0 x (.s .non) = some (rvB (!isNone x)) := rfl
theorem qa5 : isNone (.s .non) = true := rfl
theorem none_int : isNone (.s (.int i)) = false := rfl
theorem none_str : isNone (.s (.str a)) = false := rfl
theorem jbp : isNone (.s (.bl p)) = false := rfl
theorem ja5 : isNone (.lst ds) = false := rfl
theorem wa4 : isNone (.tup ds) = false := rfl
theorem kbu : ybe (.s (.int i)) (.s (.int j)) = some (rvI (i + j)) := rfl
theorem vbu {d : D} {k : Nat} {r : En} {QF : Fl → En → Prop} : (match (Rv.dat d) with | .dat z => k < r.length ∧ QF .next (r.set k (.dat z)) | _ => False) ↔ k < r.length ∧ QF .next (r.set k (.dat d)) := Iff.rfl
end
end PL
namespace PL
open PySem
section
variable {a b : Str} {ds : List D} {ys : List Str} {Q : Rv → Prop}
theorem kan : wpO (wbw a (.s (.str b))) Q ↔ a.length ≤ sizeLine ∧ Q (rvS (Txt.stripChars a b)) := y9
theorem yaf : startsD a (.s (.str b)) = some (rvB (Txt.startswith a b)) := rfl
theorem wa6 : endsD a (.s (.str b)) = some (rvB (Txt.endswith a b)) := rfl
theorem strL_map : ∀ ys : List Str, strL (ys.map fun y => D.s (.str y)) = some ys
 | [] => rfl
 | y :: ys => by simp only [List.map_cons, strL, strL_map ys]
theorem join_lst : wpO (joinD a (.lst (ys.map fun y => D.s (.str y)))) Q ↔ (ys.map (·.length)).sum + ys.length * a.length ≤ 16777216 ∧ Q (rvS (Txt.join a ys)) := by
 unfold joinD
 simp only [items, strL_map]
 exact y9
end
end PL
namespace PL
open PySem L2
def spLaw (K : PySem.W.Frag) : Sp := fun vs H Q _ => ∃ (a : Addr) (ns : List Int), vs = [.ref a] ∧ SqL K H a (ns.map V.int) ∧ ns.length ≤ 63 ∧ (∀ P, TabP K P → TS1 H P) ∧ ∀ H', Q (.bl true) H'
theorem ints_iss {K : PySem.W.Frag} {C : Hp} : ∀ ns : List Int, Iss K C (ns.map fun i => D.s (.int i)) (ns.map V.int)
 | [] => jg
 | n :: ns => ze is_s (ints_iss ns)
theorem spF_law {F : P Rv} {K : PySem.W.Frag} (hF : ∀ ns : List Int, ns.length ≤ 63 → wp F (fun r _ => r = rvB true) EF [.dat (.ro (ns.map fun i => D.s (.int i)))]) : ∀ vs H Q E, spLaw K vs H Q E → spF K 1 F vs H Q E := by
 rintro vs H Q E ⟨a, ns, rfl, hS, hl, tb, q⟩
 obtain ⟨r, cs', h1, rfl⟩ := wbg (hF ns hl)
 have ec : Ex (fun b => if b = a then H a else none) H := ⟨fun b o h _ => by
  by_cases hb : b = a
  ·subst hb; simpa using h
  ·simp [hb] at h, fun b h => by
  by_cases hb : b = a
  ·subst hb; simpa using h
  ·simp [hb]⟩
 have hC : SqL K (fun b => if b = a then H a else none) a (ns.map V.int) := by
  rcases hS with (h | ⟨o, h⟩) | h
  ·exact .inl (.inl (by simpa using h))
  ·exact .inl (.inr ⟨o, by simpa using h⟩)
  ·exact .inr h
 refine ⟨rfl, _, _, _, ⟨rfl, ec, fun i c h => ?_, fun i j m n b h => ?_, tb⟩, h1, fun r' cs2 z => ?_, fun e cs2 z => by cases z⟩
 ·cases i with
  | zero =>
   have h : Cell.dat (.ro (ns.map fun i => D.s (.int i))) = c := by simpa using h
   subst h
   exact ⟨_, rfl, _, rfl, is_ro_iff.mpr ⟨a, _, rfl, hC, ints_iss ns⟩⟩
  | succ i => simp at h
 ·cases i with
  | zero => simp at h
  | succ i => simp at h
 ·cases z
  refine ⟨rfl, fun v C' H' p k => ?_⟩
  have e : v = .bl true := is_s_iff.mp (show Is K C' (.s (.bl true)) v from k)
  rw [e]
  exact q H'
theorem def_fn {P : Program} {w : World} {K : PySem.W.Frag} {mg : Str → Option Value} {base : Heap} {k n : Nat} {x qual : Str} {st : Stmt} {f : Addr} {fd : FuncData} {N ps : List Str} {fx : List Nat} {body : PL.P Fl} (F : Fun K x qual st f fd) (S : FnScope N ps (defScope st)) (hn : ps.length = n) (hN : n ≤ N.length)
  (hbody : ∀ (cdv : Value) (A : Around) (outer : List PySem.Env) (s : Shared) (H : Hp) (E : XK), CtxOk (fun _ : Unit => cxOf (L2.CX P w) P w K mg base N qual (defScope st) f cdv A outer s H E) P w K mg base k (WB E) N (defScope st) →
   BSs (fun _ : Unit => cxOf (L2.CX P w) P w K mg base N qual (defScope st) f cdv A outer s H E) K (WB E) fx (defBody st) body) : FnOk P w K mg base (L2.CX P w) (k + 1) f fd ps (spF K n (runF fx N.length body)) :=
 fn_ok F S hn hN fun cdv A outer s H E hr => by
  obtain ⟨t, h1, h2⟩ := hbody cdv A outer s H E ⟨fun _ => rfl, fun _ => rfl, fun _ => rfl, fun _ => rfl, fun _ => rfl, fun _ => hr, fun _ => takes_of rfl rfl rfl rfl, fun _ => rfl, fun _ => passes_of rfl, fun _ => rfl, fun _ => rfl, S.nd⟩
  exact ⟨t, h1 (), h2⟩
end PL
namespace PL
open PySem L2 PySem.Spec PyProof.Rows
section
variable {X : Cx} {CX : CXT} {k : Nat} {f C : Addr} {fd : FuncData} {ps : List Str} {sp : Sp} {E : L2.St → XK} {x m : Str} {p pos apos : Pos} {e o : Expr} {es : List Expr} {ta : TE} {t : TA}
theorem run_makeS {pins : List (Addr × Obj)} {σ : L2.St} {H : Hp} {s : Shared} {Q : VK} {us : List Value} {vs : List V} (M : Mk X.K C f) (F : FnOk X.prog X.w X.K X.mg X.base CX k f fd ps sp) (hr : Room (k + 1) X.A) (hb : Binds X.K fd ps [])
  (hx : PassesAt CX X σ (E σ)) (I : Inv X pins σ H s) (r : Vals vs us)
  (h : ∀ x dx, H x = none → H dx = none → dx ≠ x → sp (.ref x :: vs) (upd (upd H dx (.own x)) x (.ins C dx [])) (fun v H2 => v = .non ∧ Q (.ref x) H2) (E σ)) :
  wpAny (model X.prog X.w) X.A (call (.ref C) us) (EP X pins σ Q) X.xe s := by
 have hq := h (s.heap.objs.size + 1) s.heap.objs.size (I.hok.fresh (Nat.le_succ _)) (I.hok.fresh (Nat.le_refl _)) (Nat.ne_of_lt (Nat.lt_succ_self _))
 have I2 := Inv.made (C := C) I
 have r2 : Vals (V.ref (s.heap.objs.size + 1) :: vs) (Value.ref (s.heap.objs.size + 1) :: us) := .cons rfl r
 have hl : (Value.ref (s.heap.objs.size + 1) :: us ++ []).length = ps.length := by
  have e := r2.length
  rw [F.len _ _ _ _ hq] at e
  rw [List.append_nil]
  exact e.symm
 have hb2 := hb _ (Value.ref (s.heap.objs.size + 1) :: us) I2.kIn hl
 rw [List.append_nil] at hb2
 refine wpAny_call (make_map (f := f) I.kIn M.makes M.init (beq_iff_eq.mp M.fn) (codeAny_mono (F.run _ X.stack _ _ ⟨Value.ref (s.heap.objs.size + 1) :: us, []⟩ (Value.ref (s.heap.objs.size + 1) :: us) _ _ (E σ) (hr.make C us [])
  (I2.env0.make C us []) hb2 r2 hq) fun r s' hq' => ?_))
 cases r with
 | error e => exact hx pins _ _ e s' I2 hq'
 | ok fl =>
  cases fl with
  | ret u =>
   obtain ⟨v, H', I3, rv, ev, q3⟩ := I2.after hq'
   subst ev
   exact ⟨rv, ⟨V.ref (s.heap.objs.size + 1), H', I3, rfl, q3⟩⟩
  | next => exact False.elim hq'
  | brk => exact False.elim hq'
  | cont => exact False.elim hq'
def vbw (C : Addr) (sp : Sp) (E : L2.St → XK) (t : TA) : TE := fun σ H Q => t σ H fun vs H1 => ∀ x dx, H1 x = none → H1 dx = none → dx ≠ x →
 sp (.ref x :: vs) (upd (upd H1 dx (.own x)) x (.ins C dx [])) (fun v H2 => v = .non ∧ Q (.ref x) H2) (E σ)
theorem pe_makeS (M : Mk X.K C f) (F : FnOk X.prog X.w X.K X.mg X.base CX k f fd ps sp) (hr : Room (k + 1) X.A) (hg : Gl X x) (hm : X.mg x = some (.ref C)) (hb : Binds X.K fd ps []) (hx : ∀ σ, PassesAt CX X σ (E σ))
  (ha : PA X (e :: es) t) (hdb : (x == ("__debug__" : Str)) = false := by decide) (he : starEach (e :: es) X.env = (false, eval e X.env) :: starEach es X.env := by rfl) (hpl : (backTo pos (starEach es X.env)).any (·.1) = false := by rfl) :
  PE X (.Call (.Name x p) (e :: es) [] pos) (vbw C sp E t) := by
 refine ⟨fun pins s σ H Q I h => ?_⟩
 refine wpAny_Call_Name_kw (ld_glob I hg hm ?_ hdb)
 refine PySem.W.callWith_K (h₀ := X.base) I.ok.mod.kin M.kp (thn (ha.run pos pins s σ H _ I h) fun us s1 ⟨vs, H1, I1, r, q⟩ => ⟨I1.kIn, ?_⟩) he hpl
 exact run_makeS M F hr hb (hx σ) I1 r q
end
def putG {α : Type} (f : Str) (v : α) : List (Str × α) → List (Str × α)
 | [] => [(f, v)]
 | (g, x) :: r => if g = f then (g, v) :: r else (g, x) :: putG f v r
theorem isf_put {K : PySem.W.Frag} {C : Hp} {f : Str} {d : D} {v : V} (h : Is K C d v) : ∀ {fs : List (Str × D)} {gs : List (Str × V)}, Isf K C fs gs → Isf K C (putG f d fs) (L2.putF f v gs)
 | [], gs, i => by rw [isf_nil_iff.mp i]; exact kag h zbr
 | (g, x) :: r, gs, i => by
  obtain ⟨y, t, rfl, h1, h2⟩ := isf_cons_iff.mp i
  unfold putG L2.putF
  by_cases c : g = f
  ·rw [if_pos c, if_pos c]; exact kag h h2
  ·rw [if_neg c, if_neg c]; exact kag h1 (isf_put h h2)
theorem kbi {K : PySem.W.Frag} {C : Hp} : ∀ {fs : List (Str × D)} {gs : List (Str × V)}, Isf K C fs gs → gs.length = fs.length
 | [], gs, i => by rw [isf_nil_iff.mp i]; rfl
 | (g, x) :: r, gs, i => by
  obtain ⟨y, t, rfl, h1, h2⟩ := isf_cons_iff.mp i
  rw [List.length_cons, List.length_cons, kbi h2]
def fldD (cs : List Addr) (f : Str) : D → Option Rv
 | .obj c fs => if cs.contains c = true then (match fs.lookup f with
  | some d => some (.dat d)
  | none => none) else none
 | _ => none
section
variable {K : PySem.W.Frag}
theorem ok_fld {cs : List Addr} {f : Str} (hc : ∀ c, cs.contains c = true → Cls K c ∧ NoAttr K c f) : R1Ok K (fun x H Q => ∃ a C dx fs v, x = .ref a ∧ H a = some (.ins C dx fs) ∧ Cls K C ∧ NoAttr K C f ∧ fs.lookup f = some v ∧ Q v H) (fldD cs f) := by
 intro C H e dx x rv Q h hx g
 unfold fldD at h
 split at h
 ·rename_i c fs
  obtain ⟨a, dx, gs, rfl, h1, h2⟩ := pk_obj e hx
  by_cases q : cs.contains c = true
  ·rw [if_pos q] at h
   cases q2 : fs.lookup f with
   | none => rw [q2] at h; cases h
   | some d =>
    rw [q2] at h
    cases h
    obtain ⟨v, h3, h4⟩ := Isf.lookup h2 q2
    exact ⟨a, c, dx, gs, v, rfl, h1, (hc c q).1, (hc c q).2, h3, g.same e h4⟩
  ·rw [if_neg q] at h; cases h
 ·cases h
end
section
variable {ι : Type} {X : ι → Cx} {P : Program} {w : World} {K : PySem.W.Frag} {mg : Str → Option Value} {base : Heap} {k : Nat} {W : WX} {N : List Str} {sc : Scope} {e : Expr} {pos : Pos} {fe : PL.P Rv} {f : Str}
theorem jc {cs : List Addr} (B : CtxOk X P w K mg base k W N sc) (hc : ∀ c, cs.contains c = true → Cls K c ∧ NoAttr K c f) (he : BE X K W e fe) (hb : ∀ i, attributeBase e f (X i).env (eval e (X i).env) = eval e (X i).env := by intro _; rfl) : BE X K W (.Attribute e f pos) (fUn (fldD cs f) fe) := by
 obtain ⟨t, p, s⟩ := he
 exact ⟨_, fun i => by have := @pe_fld (X i) e f pos t (p i) (hb i); rw [B.pK i] at this; exact this, sd_un (ok_fld hc) s⟩
theorem bs_never {fx : List Nat} {st : Stmt} : BS X K W fx st PL.P.fail := ⟨tNever, fun i => ps_never, fun σ C H ρ out D e h => by cases h⟩
end
def ownO (i : Nat) {α : Type} (k : Addr → List (Str × D) → PL.P α) : PL.P α := fun ρ => match ρ[i]? with
 | some (.own (.ob c fs)) => k c fs ρ
 | _ => none
def setO (i : Nat) {α : Type} (c : Addr) (fs : List (Str × D)) (a : α) : PL.P α := fun ρ => some (.ok a (ρ.set i (.own (.ob c fs))))
def qy (cs : List Addr) (i : Nat) (f : Str) (fe : PL.P Rv) : PL.P Fl := (z9 fe).bind fun d => ownO i fun c fs => if cs.contains c = true ∧ fs.length < 1000 then setO i c (putG f d fs) .next else PL.P.fail
section
variable {K : PySem.W.Frag} {W : WX} {fx : List Nat}
theorem ss_setF {cs : List Addr} {i : Nat} {f : Str} {te : TE} {fe : PL.P Rv} (hc : ∀ c, cs.contains c = true → Cls K c ∧ NoAttr K c f) (he : Sd K W (VRel K) te fe) : SdS K W fx (sFld K (tVar i) te f) (qy cs i f fe) := by
 intro σ C H ρ out D e ho m
 refine z5 (xaa he) e ho m fun d ρ1 y C1 H1 p r z => ?_
 unfold ownO at z
 cases q : ρ1[i]? with
 | none => rw [q] at z; cases z
 | some c =>
  rw [q] at z
  cases c with
  | no => cases z
  | dat d => cases z
  | own mm =>
   cases mm with
   | lst ds => cases z
   | dk kvs => cases z
   | dt kvs => cases z
   | dn _ _ _ => cases z
   | ob c fs =>
    dsimp only at z
    by_cases g : cs.contains c = true ∧ fs.length < 1000
    ·rw [if_pos g] at z
     cases z
     obtain ⟨a, o, h1, h2, h3, dx, gs, rfl, h4⟩ := yba p.env q
     refine ⟨.ref a, h1, a, c, dx, gs, rfl, h3, (hc c g.1).1, (hc c g.1).2, by rw [kbi h4]; exact g.2, ?_⟩
     exact m σ C1 _ ((PostS.of p).trans (PostS.of (kal (m' := .ob c (putG f d fs)) p.env q h1 ⟨dx, _, rfl, isf_put r h4⟩)))
    ·rw [if_neg g] at z; cases z
end
section
variable {ι : Type} {X : ι → Cx} {P : Program} {w : World} {K : PySem.W.Frag} {mg : Str → Option Value} {base : Heap} {k : Nat} {W : WX} {N : List Str} {sc : Scope} {e : Expr} {pos p p2 : Pos} {fe : PL.P Rv} {f x : Str} {fx : List Nat}
theorem je {cs : List Addr} (B : CtxOk X P w K mg base k W N sc) (n : Nat) (hc : ∀ c, cs.contains c = true → Cls K c ∧ NoAttr K c f) (he : BE X K W e fe) (hN : N[n]? = some x := by rfl) (hv : Vis sc x := by first | exact Or.inl rfl | exact Or.inr (Or.inl rfl) | exact Or.inr (Or.inr rfl)) (hd : (x == ("__debug__" : Str)) = false := by decide)
  (hcd : (x == ("__classdict__" : Str)) = false := by decide) (hs : ∀ i, swapsWith e (some (.Attribute (.Name x p) f p2)) pos.line (X i).env = pure false := by intro _; rfl) : BS X K W fx (.Assign [.Attribute (.Name x p) f p2] e pos) (qy cs n f fe) := by
 obtain ⟨t, q, s⟩ := he
 exact ⟨_, fun i => by have := @ps_fld (X i) (.Name x p) e f pos p2 _ _ (pe_var (B.at_ hN i) (B.vis hv i) hd hcd) (q i) (hs i); rw [B.pK i] at this; exact this, ss_setF hc s⟩
end
def made (n : Nat) (C : Addr) (F : PL.P Rv) (ds : List D) : PL.P Rv := fun ρ => if ds.length = n then (match F (.own (.ob C []) :: ds.map .dat) with
 | some (.ok (.dat (.s .non)) (.own (.ob c fs) :: _)) => some (.ok (.new (.ob c fs)) ρ)
 | some (.ex e _) => some (.ex e ρ)
 | _ => none) else none
def j9 (n : Nat) (C : Addr) (F : PL.P Rv) (g : PL.P (List D)) : PL.P Rv := g.bind (made n C F)
section
variable {K : PySem.W.Frag} {W : WX}
theorem EnvOk.making {C0 H : Hp} {C x dx : Addr} {vs : List V} {ds : List D} (tb : ∀ P, TabP K P → TS1 H P) (ec : Ex C0 H) (h : Iss K C0 ds vs) (hx : H x = none) (hdx : H dx = none) (hne : dx ≠ x) :
  EnvOk K C0 (upd (upd H dx (.own x)) x (.ins C dx [])) ((V.ref x :: vs).map some) (.own (.ob C []) :: ds.map .dat) := by
 have e2 : Ex C0 (upd (upd H dx (.own x)) x (.ins C dx [])) := ec.trans ((Ex.new hdx).trans (Ex.new (by rw [upd_ne (Ne.symm hne)]; exact hx)))
 refine ⟨by simp [h.length], e2, fun i c q => ?_, fun i j m m' a q1 q2 => ?_, fun P hP => wau (qav (tb P hP) hdx) fun u z => by rw [upd_ne (Ne.symm hne), hx] at z; cases z⟩
 ·cases i with
  | zero =>
   have q : Cell.own (.ob C []) = c := by simpa using q
   subst q
   refine ⟨some (.ref x), by simp, x, _, rfl, ?_, upd_same, dx, [], rfl, zbr⟩
   cases z : C0 x with
   | none => rfl
   | some o => have := ec.2 x hx; rw [z] at this; cases this
  | succ i =>
   have q : (ds.map Cell.dat)[i]? = some c := by simpa using q
   rw [List.getElem?_map] at q
   cases z : ds[i]? with
   | none => rw [z] at q; cases q
   | some d =>
    rw [z] at q
    cases q
    obtain ⟨v, h1, h2⟩ := h.get z
    exact ⟨some v, by simp [h1], v, rfl, h2⟩
 ·have only : ∀ (i : Nat) (m : M), (Cell.own (.ob C []) :: ds.map .dat)[i]? = some (.own m) → i = 0 := fun i m q => by
   cases i with
   | zero => rfl
   | succ i =>
    have q : (ds.map Cell.dat)[i]? = some (.own m) := by simpa using q
    rw [List.getElem?_map] at q
    cases z : ds[i]? with
    | none => rw [z] at q; cases q
    | some d => rw [z] at q; cases q
  intro _ _
  rw [only i m q1, only j m' q2]
theorem sd_make {n : Nat} {C : Addr} {F : PL.P Rv} {t : TA} {g : PL.P (List D)} (hg : Sd K W (xah K) t g) : Sd K W (VRel K) (vbw C (spF K (n + 1) F) (WE W) t) (j9 n C F g) := by
 intro σ C0 H ρ e
 show At K W (VRel K H) σ C0 H ρ (fun H Q => t σ H fun vs H1 => ∀ x dx, H1 x = none → H1 dx = none → dx ≠ x → spF K (n + 1) F (.ref x :: vs) (upd (upd H1 dx (.own x)) x (.ins C dx [])) (fun v H2 => v = .non ∧ Q (.ref x) H2) (WE W σ)) (yg (g ρ) (made n C F))
 refine At.bind (tk := fun (vs : List V) (H1 : Hp) (Q : VK) => ∀ x dx, H1 x = none → H1 dx = none → dx ≠ x → spF K (n + 1) F (.ref x :: vs) (upd (upd H1 dx (.own x)) x (.ins C dx [])) (fun v H2 => v = .non ∧ Q (.ref x) H2) (WE W σ)) (hg σ C0 H ρ e) fun ds ρ1 vs C1 H1 p1 r1 => ?_
 intro out Q ho hok hex x dx hx hdx hne
 have r1 : Iss K C1 ds vs := r1
 unfold made at ho
 by_cases hn : ds.length = n
 ·rw [if_pos hn] at ho
  have ee := EnvOk.making (C := C) p1.env.tab p1.env.ext r1 hx hdx hne
  -- what stays
  have own0 : ∀ (b : Addr), kf ((V.ref x :: vs).map some) (.own (.ob C []) :: ds.map .dat) b → b = x := fun b ⟨i, m, q1, q2⟩ => by
   cases i with
   | zero => simpa using q2.symm
   | succ i =>
    have q : (ds.map Cell.dat)[i]? = some (.own m) := by simpa using q1
    rw [List.getElem?_map] at q
    cases z : ds[i]? with
    | none => rw [z] at q; cases q
    | some d => rw [z] at q; cases q
  have st : ∀ {C' H' : Hp}, Step C1 (upd (upd H1 dx (.own x)) x (.ins C dx [])) C' H' (kf ((V.ref x :: vs).map some) (.own (.ob C []) :: ds.map .dat)) → Step C1 H1 C' H' (fun _ => False) := fun {C' H'} s => by
   refine ⟨s.core, s.ext, fun b o hb nt _ => ?_, fun b h1 h2 => ?_, fun b h => ?_, fun P h => s.tabs P (wau (qav h hdx) fun u z => by rw [upd_ne (Ne.symm hne), hx] at z; cases z)⟩
   ·have n1 : b ≠ x := fun z => by rw [z, hx] at hb; cases hb
    have n2 : b ≠ dx := fun z => by rw [z, hdx] at hb; cases hb
    exact s.keep b o (by rw [upd_ne n1, upd_ne n2]; exact hb) nt fun z => n1 (own0 b z)
   ·rcases s.new b h1 h2 with z | z
    ·by_cases n1 : b = x
     ·exact .inl (by rw [n1]; exact hx)
     ·by_cases n2 : b = dx
      ·exact .inl (by rw [n2]; exact hdx)
      ·rw [upd_ne n1, upd_ne n2] at z; exact .inl z
    ·exact .inl (by rw [own0 b z]; exact hx)
   ·have z := s.dom b h
    by_cases n1 : b = x
    ·rw [n1]; exact hx
    ·by_cases n2 : b = dx
     ·rw [n2]; exact hdx
     ·rw [upd_ne n1, upd_ne n2] at z; exact z
  cases q : F (.own (.ob C []) :: ds.map .dat) with
  | none => rw [q] at ho; cases ho
  | some o =>
   rw [q] at ho
   refine ⟨by simp [r1.length, hn], C1, _, o, ee, q, fun r cs' z => ?_, fun x2 cs' z d C' H' p k => ?_⟩
   ·subst z
    match r, cs', ho with
    | .dat (.s .non), .own (.ob c fs) :: rest, ho =>
     have ho : some (Out.ok (Rv.new (.ob c fs)) ρ1) = some out := ho
     cases ho
     refine ⟨rfl, fun v C' H' p k => ⟨is_s_iff.mp (show Is K C' (.s .non) v from k), ?_⟩⟩
     obtain ⟨u, hu, a, o, h1, h2, h3, h4⟩ := p.env.cell 0 _ rfl
     have hu : some (V.ref x) = u := by simpa using hu
     subst hu
     cases h1
     refine hok _ _ rfl (.ref x) C' H' (Post.of_step p1.env (st p.step)) ⟨x, o, rfl, h2, h3, h4, fun ⟨i, m, z1, z2⟩ => ?_, p1.step.dom x hx⟩
     obtain ⟨b, o', y1, y2, y3, y4⟩ := yba p1.env z1
     rw [z2] at y1; cases y1
     rw [hx] at y3; cases y3
   ·subst z
    have ho : some (Out.ex x2 ρ1) = some out := ho
    cases ho
    exact hex x2 _ rfl d C' H' (Post.of_step p1.env (st p.step)) k
 ·rw [if_neg hn] at ho; cases ho
end
structure zm (P : Program) (w : World) (K : PySem.W.Frag) (mg : Str → Option Value) (base : Heap) (k : Nat) (m : Str) (n : Nat) (a : Addr × PL.P Rv) : Prop where
 cls : Cls K a.1
 ex : ∃ (f : Addr) (fd : FuncData) (ps : List Str), FnOk P w K mg base (L2.CX P w) k f fd ps (spF K n a.2) ∧ Meth K a.1 m f ∧ Binds K fd ps []
 rv : ∀ cs r cs', a.2 cs = some (.ok r cs') → rvD r = true
def tMX (K : PySem.W.Frag) (m : Str) (n : Nat) (alts : List (Addr × PL.P Rv)) (E : L2.St → XK) (ta : TE) (t : TA) : TE := fun σ H Q => ta σ H fun x H1 => ∃ b ∈ alts, ∃ a dx fs, x = .ref a ∧ H1 a = some (.ins b.1 dx fs) ∧ fs.lookup m = none ∧
 t σ H1 fun vs H2 => spF K n b.2 (x :: vs) H2 Q (E σ)
section
variable {X : Cx} {W : WX} {k n : Nat} {m : Str} {alts : List (Addr × PL.P Rv)} {p pos apos : Pos} {e o : Expr} {es : List Expr} {ta : TE} {t : TA}
theorem pe_methX {pl : Sem Bool} (he : PE X o ta) (hA : ∀ b ∈ alts, zm X.prog X.w X.K X.mg X.base k m n b) (hr : Room k X.A) (tk : Takes X W) (ha : PA X (e :: es) t)
  (hst : starEach (e :: es) X.env = (false, eval e X.env) :: starEach es X.env) (hpl : (backTo pos (starEach es X.env)).any (·.1) = false)
  (ht : eval (.Call (.Attribute o m apos) (e :: es) [] pos) X.env = (do
   let ov ← eval o X.env
   standAt apos.atName
   let (f, first) ← holding [ov] (getMethod ov m pl)
   callWith pos f first (backTo pos (starEach (e :: es) X.env)) (backToKw pos (keywordEach [] X.env)))) :
  PE X (.Call (.Attribute o m apos) (e :: es) [] pos) (tMX X.K m n alts (WE W) ta t) := by
 refine ⟨fun pins s σ H Q I h => ?_⟩
 refine PySem.W.methodCall_KW (pl := pl) (thn (he.run pins s σ H _ I h) fun u s1 ⟨x, H1, I1, rx, b, hb, a, dx, fs, ex, ea, l, q⟩ => ?_) ht
 subst ex
 obtain rfl : u = Value.ref a := rx
 obtain ⟨f, fd, ps, F, hm, bi⟩ := (hA b hb).ex
 refine getmeth_ok I1 ea (hA b hb).cls hm l ?_
 refine PySem.W.callWith_K (first := [.ref a]) (h₀ := X.base) I.ok.mod.kin hm.kp (thn (ha.run pos pins s1 σ H1 _ I1 q) fun us s2 ⟨vs, H2, I2, r, q2⟩ => ⟨I2.kIn, ?_⟩) hst hpl
 exact run_fnS (us := .ref a :: us) (vs := .ref a :: vs) F hr bi (passAt tk σ) I2 (.cons rfl r) q2
theorem pe_methX0 {pl : Sem Bool} (he : PE X o ta) (hA : ∀ b ∈ alts, zm X.prog X.w X.K X.mg X.base k m n b) (hr : Room k X.A) (tk : Takes X W)
  (ht : eval (.Call (.Attribute o m apos) [] [] pos) X.env = (do
   let ov ← eval o X.env
   standAt apos.atName
   let (f, first) ← holding [ov] (getMethod ov m pl)
   callWith pos f first (backTo pos (starEach [] X.env)) (backToKw pos (keywordEach [] X.env)))) :
  PE X (.Call (.Attribute o m apos) [] [] pos) (tMX X.K m n alts (WE W) ta tNil) := by
 refine ⟨fun pins s σ H Q I h => ?_⟩
 refine PySem.W.methodCall_KW (pl := pl) (thn (he.run pins s σ H _ I h) fun u s1 ⟨x, H1, I1, rx, b, hb, a, dx, fs, ex, ea, l, q⟩ => ?_) ht
 subst ex
 obtain rfl : u = Value.ref a := rx
 obtain ⟨f, fd, ps, F, hm, bi⟩ := (hA b hb).ex
 refine getmeth_ok I1 ea (hA b hb).cls hm l ?_
 exact PySem.W.callWith_K0 (first := [.ref a]) I1.kIn hm.kp (run_fnS (us := [.ref a]) (vs := [.ref a]) F hr bi (passAt tk σ) I1 (.cons rfl .nil) q)
end
def altF (alts : List (Addr × PL.P Rv)) (c : Addr) : Option (PL.P Rv) := match alts.find? (fun b => b.1 == c) with
 | some b => some b.2
 | none => none
theorem altF_mem {alts : List (Addr × PL.P Rv)} {c : Addr} {F : PL.P Rv} (h : altF alts c = some F) : (c, F) ∈ alts := by
 unfold altF at h
 cases q : alts.find? (fun b => b.1 == c) with
 | none => rw [q] at h; cases h
 | some b =>
  rw [q] at h
  cases h
  have h1 := List.mem_of_find?_eq_some q
  have h2 := List.find?_some q
  have h3 : b.1 = c := by simpa using h2
  rw [← h3]
  exact h1
def w0 (m : Str) (n : Nat) (alts : List (Addr × PL.P Rv)) (fo : PL.P Rv) (ga : PL.P (List Arg)) : PL.P Rv := (z9 fo).bind fun d => match d with
 | .obj c fs => if (match fs.lookup m with | none => true | some _ => false) = true then (match altF alts c with
  | some F => ga.bind fun as => wq n F (.inl (.obj c fs) :: as)
  | none => PL.P.fail) else PL.P.fail
 | _ => PL.P.fail
theorem xab {K : PySem.W.Frag} {C : Hp} {m : Str} : ∀ {fs : List (Str × D)} {gs : List (Str × V)}, Isf K C fs gs → fs.lookup m = none → gs.lookup m = none
 | [], gs, i, h => by rw [isf_nil_iff.mp i]; rfl
 | (g, x) :: r, gs, i, h => by
  obtain ⟨y, t, rfl, h1, h2⟩ := isf_cons_iff.mp i
  rw [List.lookup_cons] at h ⊢
  cases q : m == g with
  | true => rw [q] at h; cases h
  | false => rw [q] at h; exact xab h2 h
section
variable {K : PySem.W.Frag} {W : WX}
theorem sd_meth {m : Str} {n : Nat} {alts : List (Addr × PL.P Rv)} {to : TE} {t : TA} {fo : PL.P Rv} {ga : PL.P (List Arg)} (hrv : ∀ b ∈ alts, ∀ cs r cs', b.2 cs = some (.ok r cs') → rvD r = true) (ho : Sd K W (VRel K) to fo) (hg : Sd K W (ARel K) t ga) :
  Sd K W (VRel K) (tMX K m n alts (WE W) to t) (w0 m n alts fo ga) := by
 intro σ C H ρ e
 show At K W (VRel K H) σ C H ρ (fun H Q => to σ H fun x H1 => ∃ b ∈ alts, ∃ a dx fs, x = .ref a ∧ H1 a = some (.ins b.1 dx fs) ∧ fs.lookup m = none ∧ t σ H1 fun vs H2 => spF K n b.2 (x :: vs) H2 Q (WE W σ)) (yg (z9 fo ρ) _)
 refine At.bind (tk := fun (x : V) (H1 : Hp) (Q : VK) => ∃ b ∈ alts, ∃ a dx fs, x = .ref a ∧ H1 a = some (.ins b.1 dx fs) ∧ fs.lookup m = none ∧ t σ H1 fun vs H2 => spF K n b.2 (x :: vs) H2 Q (WE W σ)) (xaa ho σ C H ρ e) fun d ρ1 x C1 H1 p1 r1 => ?_
 have r1 : Is K C1 d x := r1
 cases d with
 | obj c fs =>
  dsimp only
  obtain ⟨a, dx, gs, rfl, h1, h2⟩ := is_obj_iff.mp r1
  cases q0 : fs.lookup m with
  | some z => simp only [q0]; exact At.nil
  | none =>
   simp only [q0, if_true]
   cases q : altF alts c with
   | none => exact At.nil
   | some F =>
    have hm := altF_mem q
    refine At.imp (t := fun H1 Q => t σ H1 fun vs H2 => spF K n F (V.ref a :: vs) H2 Q (WE W σ)) ?_ fun Q h => ⟨(c, F), hm, a, dx, gs, rfl, p1.env.ext.1 _ _ h1 vby, xab h2 q0, h⟩
    refine At.bind (tk := fun (vs : List V) (H2 : Hp) (Q : VK) => spF K n F (V.ref a :: vs) H2 Q (WE W σ)) (hg σ C1 H1 ρ1 p1.env) fun as ρ2 vs C2 H2 p2 r2 => ?_
    exact ybu p2.env (as := .inl (.obj c fs) :: as) (vs := V.ref a :: vs) ⟨V.ref a, vs, rfl, Is.mono p2.step.core _ _ r1, r2⟩ (fun b h => p1.step.dom b (p2.step.dom b h)) (hrv _ hm)
 | _ => exact At.nil
end
end PL
namespace PL
open PySem L2 PySem.Spec PyProof.Rows PySem.W
structure Bare (K : PySem.W.Frag) (C : Addr) : Prop where
 makes : PySem.W.makesIn K C = true
 init : PySem.W.findIn K (.ref C) "__init__" = some (some (.builtin "object.__init__"))
 top : PySem.W.mroIn K C (.type "object") = some true
 kp : PySem.W.keepIn K (.ref C) = true
def tBare (C : Addr) : TE := fun σ H Q => ∀ x dx, H x = none → H dx = none → dx ≠ x → Q (.ref x) (upd (upd H dx (.own x)) x (.ins C dx []))
section
variable {X : Cx} {C : Addr} {x : Str} {p pos : Pos}
theorem pe_bare (M : Bare X.K C) (hg : Gl X x) (hm : X.mg x = some (.ref C)) (hdb : (x == ("__debug__" : Str)) = false := by decide) : PE X (.Call (.Name x p) [] [] pos) (tBare C) := by
 refine ⟨fun pins s σ H Q I h => ?_⟩
 refine wpAny_Call_Name_kw (ld_glob I hg hm ?_ hdb)
 refine PySem.W.callWith_K0 I.kIn M.kp ?_
 have hq := h (s.heap.objs.size + 1) s.heap.objs.size (I.hok.fresh (Nat.le_succ _)) (I.hok.fresh (Nat.le_refl _)) (Nat.ne_of_lt (Nat.lt_succ_self _))
 have I2 := Inv.made (C := C) I
 refine wpAny_call (make_map0 I.kIn M.makes M.init (fun self => Looks.of_pure (oi_bind _)) ?_)
 have ho : Heap.get? ((s.heap.push PySem.W.emptyDict).push (PySem.W.instObj C s.heap.objs.size)) (s.heap.objs.size + 1) = some (PySem.W.instObj C s.heap.objs.size) := by
  have := Heap.get?_push_size (s.heap.push PySem.W.emptyDict) (o := PySem.W.instObj C s.heap.objs.size) rfl
  rwa [Heap.size_push] at this
 have t1 : Looks (model X.prog X.w) ((s.heap.push PySem.W.emptyDict).push (PySem.W.instObj C s.heap.objs.size)) (typeOf (.ref (s.heap.objs.size + 1))) (.ref C) := (Looks.ld ho).andThen .now
 have t2 : Looks (model X.prog X.w) ((s.heap.push PySem.W.emptyDict).push (PySem.W.instObj C s.heap.objs.size)) (isInstance (.ref (s.heap.objs.size + 1)) (.type "object")) true := t1.andThen (looks_mroIn I2.kIn M.top)
 refine codeAny_call_builtin oi_plain entry_oi (@check_slot (model X.prog X.w) _ _ _ "object.__init__" "object" "__init__" (.ref (s.heap.objs.size + 1)) [] [] _ oi_kind oi_split t2 (NwA.oi_args_any (.ref (s.heap.objs.size + 1)) [] []) ?_)
 rw [oi_run]
 refine wpAny_pure ?_
 exact And.intro rfl ⟨V.ref (s.heap.objs.size + 1), _, I2, rfl, hq⟩
end
def fBare (C : Addr) : PL.P Rv := fun ρ => some (.ok (.new (.ob C [])) ρ)
section
variable {K : PySem.W.Frag} {W : WX}
theorem sd_bare {C : Addr} : Sd K W (VRel K) (tBare C) (fBare C) := by
 intro σ C0 H ρ e out Q ho hok hex x dx hx hdx hne
 cases ho
 have hx2 : upd H dx (.own x) x = none := by rw [upd_ne (Ne.symm hne)]; exact hx
 have s1 : Step C0 H C0 (upd H dx (.own x)) (fun _ => False) := Step.newM e.ext hdx
 have s2 : Step C0 (upd H dx (.own x)) C0 (upd (upd H dx (.own x)) x (.ins C dx [])) (fun _ => False) := Step.newM s1.ext hx2
 have s := s1.trans s2 fun _ z => z.elim
 refine hok _ _ rfl (.ref x) C0 _ (Post.of_step e s) ⟨x, _, rfl, e.ext.none hx, upd_same, ⟨dx, [], rfl, zbr⟩, fun ⟨i, m, z1, z2⟩ => ?_, hx⟩
 obtain ⟨b, o', y1, y2, y3, y4⟩ := yba e z1
 rw [z2] at y1; cases y1
 rw [hx] at y3; cases y3
end
structure qa1 (P : Program) (w : World) (K : PySem.W.Frag) (mg : Str → Option Value) (base : Heap) (k : Nat) (x : Str) (n : Nat) (C : Addr) (F : PL.P Rv) : Prop where
 ex : ∃ (f : Addr) (fd : FuncData) (ps : List Str), FnOk P w K mg base (L2.CX P w) k f fd ps (spF K (n + 1) F) ∧ Mk K C f ∧ mg x = some (.ref C) ∧ Binds K fd ps []
section
variable {ι : Type} {X : ι → Cx} {P : Program} {w : World} {K : PySem.W.Frag} {mg : Str → Option Value} {base : Heap} {k : Nat} {W : WX} {N : List Str} {sc : Scope}
variable {a b c e o : Expr} {es : List Expr} {pos p p2 apos tpos : Pos} {x m : Str} {fa fb fc fe fo : PL.P Rv} {gd : PL.P (List D)} {ga : PL.P (List Arg)}
theorem pe_makeE {X : Cx} {f C : Addr} {fd : FuncData} {ps : List Str} {sp : Sp} {t : TA} (h1 : X.prog = P) (h2 : X.w = w) (h3 : X.K = K) (h4 : X.mg = mg) (h5 : X.base = base) (tk : Takes X W) (M : Mk K C f) (F : FnOk P w K mg base (L2.CX P w) k f fd ps sp) (hr : Room (k + 1) X.A) (hg : Gl X x) (hm : mg x = some (.ref C))
  (hb : Binds K fd ps []) (ha : PA X (e :: es) t) (hdb : (x == ("__debug__" : Str)) = false) (he : starEach (e :: es) X.env = (false, eval e X.env) :: starEach es X.env) (hpl : (backTo pos (starEach es X.env)).any (·.1) = false) :
  PE X (.Call (.Name x p) (e :: es) [] pos) (vbw C sp (WE W) t) := by
 subst h1 h2 h3 h4 h5
 exact pe_makeS M F hr hg hm hb (fun σ => passAt tk σ) ha hdb he hpl
theorem z7 {n : Nat} {C : Addr} {F : PL.P Rv} (B : CtxOk X P w K mg base (k + 1) W N sc) (hF : qa1 P w K mg base k x n C F) (ha : BAd X K W (e :: es) gd) (hg : sc.names.lookup x = some .globalImplicit := by rfl) (hdb : (x == ("__debug__" : Str)) = false := by decide)
  (he : ∀ i, starEach (e :: es) (X i).env = (false, eval e (X i).env) :: starEach es (X i).env := by intro _; rfl) (hpl : ∀ i, (backTo pos (starEach es (X i).env)).any (·.1) = false := by intro _; rfl) : BE X K W (.Call (.Name x p) (e :: es) [] pos) (j9 n C F gd) := by
 obtain ⟨ta, pa, sa⟩ := ha
 obtain ⟨f, fd, ps, h1, h2, h3, h4⟩ := hF.ex
 exact ⟨_, fun i => pe_makeE (B.pP i) (B.pw i) (B.pK i) (B.pm i) (B.pb i) (B.tk i) h2 h1 (B.room i) (B.gl hg i) h3 h4 (pa i) hdb (he i) (hpl i), sd_make sa⟩
theorem be_bare {C : Addr} (B : CtxOk X P w K mg base k W N sc) (M : Bare K C) (hm : mg x = some (.ref C)) (hg : sc.names.lookup x = some .globalImplicit := by rfl) (hdb : (x == ("__debug__" : Str)) = false := by decide) : BE X K W (.Call (.Name x p) [] [] pos) (fBare C) :=
 ⟨_, fun i => pe_bare (by rw [B.pK i]; exact M) (B.gl hg i) (by rw [B.pm i]; exact hm) hdb, sd_bare⟩
theorem pe_methE' {X : Cx} {n : Nat} {alts : List (Addr × PL.P Rv)} {ta : TE} {t : TA} {pl : Sem Bool} (h1 : X.prog = P) (h2 : X.w = w) (h3 : X.K = K) (h4 : X.mg = mg) (h5 : X.base = base) (he : PE X o ta) (hA : ∀ b ∈ alts, zm P w K mg base k m n b) (hr : Room k X.A) (tk : Takes X W) (ha : PA X (e :: es) t)
  (hst : starEach (e :: es) X.env = (false, eval e X.env) :: starEach es X.env) (hpl : (backTo pos (starEach es X.env)).any (·.1) = false)
  (ht : eval (.Call (.Attribute o m apos) (e :: es) [] pos) X.env = (do
   let ov ← eval o X.env
   standAt apos.atName
   let (f, first) ← holding [ov] (getMethod ov m pl)
   callWith pos f first (backTo pos (starEach (e :: es) X.env)) (backToKw pos (keywordEach [] X.env)))) :
  PE X (.Call (.Attribute o m apos) (e :: es) [] pos) (tMX K m n alts (WE W) ta t) := by
 subst h1 h2 h3 h4 h5
 exact pe_methX he hA hr tk ha hst hpl ht
theorem pe_meth0E {X : Cx} {n : Nat} {alts : List (Addr × PL.P Rv)} {ta : TE} {pl : Sem Bool} (h1 : X.prog = P) (h2 : X.w = w) (h3 : X.K = K) (h4 : X.mg = mg) (h5 : X.base = base) (he : PE X o ta) (hA : ∀ b ∈ alts, zm P w K mg base k m n b) (hr : Room k X.A) (tk : Takes X W)
  (ht : eval (.Call (.Attribute o m apos) [] [] pos) X.env = (do
   let ov ← eval o X.env
   standAt apos.atName
   let (f, first) ← holding [ov] (getMethod ov m pl)
   callWith pos f first (backTo pos (starEach [] X.env)) (backToKw pos (keywordEach [] X.env)))) :
  PE X (.Call (.Attribute o m apos) [] [] pos) (tMX K m n alts (WE W) ta tNil) := by
 subst h1 h2 h3 h4 h5
 exact pe_methX0 he hA hr tk ht
theorem be_meth {n : Nat} {alts : List (Addr × PL.P Rv)} {pl : ι → Sem Bool} (B : CtxOk X P w K mg base k W N sc) (hA : ∀ b ∈ alts, zm P w K mg base k m n b) (ho : BE X K W o fo) (ha : BAa X K W (e :: es) ga)
  (hst : ∀ i, starEach (e :: es) (X i).env = (false, eval e (X i).env) :: starEach es (X i).env := by intro _; rfl) (hpl : ∀ i, (backTo pos (starEach es (X i).env)).any (·.1) = false := by intro _; rfl)
  (ht : ∀ i, eval (.Call (.Attribute o m apos) (e :: es) [] pos) (X i).env = (do
   let ov ← eval o (X i).env
   standAt apos.atName
   let (f, first) ← holding [ov] (getMethod ov m (pl i))
   callWith pos f first (backTo pos (starEach (e :: es) (X i).env)) (backToKw pos (keywordEach [] (X i).env))) := by intro _; rfl) :
  BE X K W (.Call (.Attribute o m apos) (e :: es) [] pos) (w0 m n alts fo ga) := by
 obtain ⟨to, po, so⟩ := ho
 obtain ⟨ta, pa, sa⟩ := ha
 exact ⟨_, fun i => pe_methE' (B.pP i) (B.pw i) (B.pK i) (B.pm i) (B.pb i) (po i) hA (B.room i) (B.tk i) (pa i) (hst i) (hpl i) (ht i), sd_meth (fun b hb => (hA b hb).rv) so sa⟩
theorem jl {n : Nat} {alts : List (Addr × PL.P Rv)} {pl : ι → Sem Bool} (B : CtxOk X P w K mg base k W N sc) (hA : ∀ b ∈ alts, zm P w K mg base k m n b) (ho : BE X K W o fo)
  (ht : ∀ i, eval (.Call (.Attribute o m apos) [] [] pos) (X i).env = (do
   let ov ← eval o (X i).env
   standAt apos.atName
   let (f, first) ← holding [ov] (getMethod ov m (pl i))
   callWith pos f first (backTo pos (starEach [] (X i).env)) (backToKw pos (keywordEach [] (X i).env))) := by intro _; rfl) :
  BE X K W (.Call (.Attribute o m apos) [] [] pos) (w0 m n alts fo uNil) := by
 obtain ⟨to, po, so⟩ := ho
 exact ⟨_, fun i => pe_meth0E (B.pP i) (B.pw i) (B.pK i) (B.pm i) (B.pb i) (po i) hA (B.room i) (B.tk i) (ht i), sd_meth (fun b hb => (hA b hb).rv) so su_nil⟩
theorem kat {C : Addr} (B : CtxOk X P w K mg base k W N sc) (hm : mg x = some (.ref C)) (hg : sc.names.lookup x = some .globalImplicit := by rfl) (hd : (x == ("__debug__" : Str)) = false := by decide) : BE X K W (.Name x pos) (fC (.s (.ref C))) :=
 be_glob B hm (show RelV (.ref C) (.ref C) from rfl) hg hd
theorem x5 {fx : List Nat} {NN ps : List Str} {n : Nat} {qual : Str} {st : Stmt} {f : Addr} {fd : FuncData} {body : PL.P Fl} {C : Addr} (c : Cls K C) (hm : Meth K C m f) (F : Fun K x qual st f fd) (hb : Binds K fd ps []) (S : FnScope NN ps (defScope st)) (hn : ps.length = n) (hN : n ≤ NN.length)
  (hbody : ∀ (cdv : Value) (A : Around) (outer : List PySem.Env) (s : Shared) (H : Hp) (E : XK), CtxOk (fun _ : Unit => cxOf (L2.CX P w) P w K mg base NN qual (defScope st) f cdv A outer s H E) P w K mg base k (WB E) NN (defScope st) →
   BSs (fun _ : Unit => cxOf (L2.CX P w) P w K mg base NN qual (defScope st) f cdv A outer s H E) K (WB E) fx (defBody st) body) : zm P w K mg base (k + 1) m n (C, runF fx NN.length body) :=
 ⟨c, ⟨f, fd, ps, def_fn F S hn hN hbody, hm, hb⟩, fun cs r cs' => zbo cs r cs'⟩
end
end PL
namespace PL
open PySem L2
theorem con0 {p : Addr → Prop} : ∀ c, ([] : List Addr).contains c = true → p c := fun c h => by simp at h
theorem con1 {p : Addr → Prop} {a : Addr} {l : List Addr} (h : p a) (t : ∀ c, l.contains c = true → p c) : ∀ c, (a :: l).contains c = true → p c := fun c q => by
 rw [List.contains_cons, Bool.or_eq_true] at q
 rcases q with q | q
 ·rw [beq_iff_eq.mp q]; exact h
 ·exact t c q
theorem zag {l : List Addr} {a b : Addr} {i j : Nat} (h : l.Nodup) (hi : l[i]? = some a) (hj : l[j]? = some b) (n : i ≠ j) : (a == b) = false := by
 refine beq_eq_false_iff_ne.mpr fun e => n ?_
 subst e
 obtain ⟨h1, e1⟩ := List.getElem?_eq_some_iff.mp hi
 obtain ⟨h2, e2⟩ := List.getElem?_eq_some_iff.mp hj
 have p := List.pairwise_iff_getElem.mp h
 rcases Nat.lt_trichotomy i j with z | z | z
 ·exact absurd (e1.trans e2.symm) (p i j h1 h2 z)
 ·exact z
 ·exact absurd (e2.trans e1.symm) (p j i h2 h1 z)
section
variable {QR : Rv → En → Prop} {QF : Fl → En → Prop} {QD : D → En → Prop} {E : Exn → En → Prop} {ρ : En}
theorem peek_ob {c : Addr} {fs : List (Str × D)} : peek ρ (.new (.ob c fs)) = some (.obj c fs) := rfl
theorem cdat_ob {c : Addr} {fs : List (Str × D)} : cdat (.own (.ob c fs)) = some (.obj c fs) := rfl
theorem wpG_ob {c : Addr} {fs : List (Str × D)} : wpG ρ (.new (.ob c fs)) QD ↔ QD (.obj c fs) ρ := Iff.rfl
theorem borQ_ob {i : Nat} {c : Addr} {fs : List (Str × D)} : borQ i QD ρ (.own (.ob c fs)) ↔ QD (.obj c fs) (ρ.set i (.dat (.obj c fs))) := Iff.rfl
def obQ (Q : Addr → List (Str × D) → Prop) : Cell → Prop
 | .own (.ob c fs) => Q c fs
 | _ => False
theorem obQ_ob {c : Addr} {fs : List (Str × D)} {Q : Addr → List (Str × D) → Prop} : obQ Q (.own (.ob c fs)) ↔ Q c fs := Iff.rfl
theorem wp_ownO {α : Type} {i : Nat} {k : Addr → List (Str × D) → P α} {Q : α → En → Prop} : wp (ownO i k) Q E ρ ↔ atS ρ i (obQ fun c fs => wp (k c fs) Q E ρ) := by
 unfold wp ownO atS
 cases ρ[i]? with
 | none => exact Iff.rfl
 | some c =>
  cases c with
  | own m => cases m <;> exact Iff.rfl
  | _ => exact Iff.rfl
theorem obQ_congr {c : Cell} {Q1 Q2 : Addr → List (Str × D) → Prop} (h : ∀ a fs, Q1 a fs ↔ Q2 a fs) : obQ Q1 c ↔ obQ Q2 c := by
 cases c with
 | own m => cases m with
  | ob a fs => exact h a fs
  | dk _ => exact Iff.rfl
  | dt _ => exact Iff.rfl
  | dn _ _ _ => exact Iff.rfl
  | lst _ => exact Iff.rfl
 | _ => exact Iff.rfl
theorem wp_setF {cs : List Addr} {i : Nat} {f : Str} {fe : P Rv} : wp (qy cs i f fe) QF E ρ ↔ wp fe (fun v r => wpG r v fun d r2 => atS r2 i (obQ fun c fs => (cs.contains c = true ∧ fs.length < 1000) ∧ QF .next (r2.set i (.own (.ob c (putG f d fs)))))) E ρ := by
 unfold qy
 simp only [wp_bind, wp_grab, wp_ownO]
 refine kh fun v r => jbw fun d r2 => kau fun c => obQ_congr fun a fs => ?_
 by_cases h : cs.contains a = true ∧ fs.length < 1000
 ·rw [if_pos h]; exact ⟨fun q => ⟨h, q⟩, fun q => q.2⟩
 ·rw [if_neg h]; exact ⟨fun q => q.elim, fun q => h q.1⟩
def madeQ (v : Rv) (cs : En) (Q : Addr → List (Str × D) → Prop) : Prop := match v, cs with
 | .dat (.s .non), .own (.ob c fs) :: _ => Q c fs
 | _, _ => False
theorem madeQ_ob {c : Addr} {fs : List (Str × D)} {r : En} {Q : Addr → List (Str × D) → Prop} : madeQ (.dat (.s .non)) (.own (.ob c fs) :: r) Q ↔ Q c fs := Iff.rfl
theorem wp_make {n : Nat} {C : Addr} {F : P Rv} {g : P (List D)} : wp (j9 n C F g) QR E ρ ↔ wp g (fun ds r => ds.length = n ∧ wp F (fun v cs => madeQ v cs fun c fs => QR (.new (.ob c fs)) r) (fun e _ => E e r) (.own (.ob C []) :: ds.map .dat)) E ρ := by
 unfold j9
 rw [wp_bind]
 refine kh fun ds r => ?_
 unfold wp made
 by_cases h : ds.length = n
 ·rw [if_pos h]
  cases F (.own (.ob C []) :: ds.map .dat) with
  | none => exact ⟨fun q => q.elim, fun q => q.2⟩
  | some o =>
   cases o with
   | ex e _ => exact ⟨fun q => ⟨h, q⟩, fun q => q.2⟩
   | ok v cs =>
    have key : ∀ Z : Prop, (Z ↔ madeQ v cs (fun c fs => QR (.new (.ob c fs)) r)) → (Z ↔ ds.length = n ∧ madeQ v cs (fun c fs => QR (.new (.ob c fs)) r)) := fun Z k => k.trans ⟨fun q => ⟨h, q⟩, fun q => q.2⟩
    refine key _ ?_
    cases v with
    | new m => exact Iff.rfl
    | bor i => exact Iff.rfl
    | dat d =>
     cases d with
     | s x =>
      cases x with
      | non =>
       cases cs with
       | nil => exact Iff.rfl
       | cons c cs =>
        cases c with
        | own m => cases m <;> exact Iff.rfl
        | _ => exact Iff.rfl
      | _ => exact Iff.rfl
     | _ => exact Iff.rfl
 ·rw [if_neg h]; exact ⟨fun q => q.elim, fun q => h q.1⟩
theorem wp_bare {C : Addr} : wp (fBare C) QR E ρ ↔ QR (.new (.ob C [])) ρ := Iff.rfl
def qap (m : Str) (n : Nat) (alts : List (Addr × P Rv)) (ga : P (List Arg)) (QR : Rv → En → Prop) (E : Exn → En → Prop) (d : D) (r : En) : Prop := match d with
 | .obj c fs => if (match fs.lookup m with | none => true | some _ => false) = true then (match altF alts c with
  | some F => wp ga (fun as r2 => wp (wq n F (.inl (.obj c fs) :: as)) QR E r2) E r
  | none => False) else False
 | _ => False
theorem wp_meth {m : Str} {n : Nat} {alts : List (Addr × P Rv)} {fo : P Rv} {ga : P (List Arg)} : wp (w0 m n alts fo ga) QR E ρ ↔ wp fo (fun v r => wpG r v fun d r2 => qap m n alts ga QR E d r2) E ρ := by
 unfold w0
 simp only [wp_bind, wp_grab]
 refine kh fun v r => jbw fun d r2 => ?_
 unfold qap
 cases d with
 | obj c fs =>
  dsimp only
  cases q1 : fs.lookup m with
  | some z => exact Iff.rfl
  | none =>
   cases q2 : altF alts c with
   | none => exact Iff.rfl
   | some F =>
    show wp (ga.bind _) QR E r2 ↔ _
    rw [wp_bind]
    exact Iff.rfl
 | _ => exact Iff.rfl
theorem jo {m : Str} {n : Nat} {alts : List (Addr × P Rv)} {ga : P (List Arg)} {c : Addr} {fs : List (Str × D)} {F : P Rv} {r : En} (h1 : fs.lookup m = none) (h2 : altF alts c = some F) : qap m n alts ga QR E (.obj c fs) r ↔ wp ga (fun as r2 => wp (wq n F (.inl (.obj c fs) :: as)) QR E r2) E r := by
 unfold qap
 simp only [h1, h2, if_true]
theorem qt {alts : List (Addr × P Rv)} {c : Addr} {F : P Rv} : altF ((c, F) :: alts) c = some F := by
 unfold altF; simp
theorem j4 {alts : List (Addr × P Rv)} {c d : Addr} {F : P Rv} (h : (d == c) = false) : altF ((d, F) :: alts) c = altF alts c := by
 unfold altF; simp [h]
theorem yj {cs : List Addr} {c : Addr} {fs : List (Str × D)} {f : Str} {d : D} {Q : Rv → Prop} (h : cs.contains c = true) (h2 : fs.lookup f = some d) : wpO (fldD cs f (.obj c fs)) Q ↔ Q (.dat d) := by
 have e : fldD cs f (.obj c fs) = some (.dat d) := by
  show (if cs.contains c = true then _ else _) = _
  rw [if_pos h, h2]
 rw [e]; exact Iff.rfl
theorem qaw {K : PySem.W.Frag} {cs : List Addr} {c b : Addr} {fs : List (Str × D)} {r : Bool} (h : cs.contains c = true) (k : PySem.W.kitOne K (.ref c) (.ref b) = some r) : isiD K cs [.obj c fs, .s (.ref b)] = some (rvB r) := by
 unfold isiD isiB
 simp only [tyD, clsD, jbg, h, if_true, k]
theorem isi_other {K : PySem.W.Frag} {cs : List Addr} {b : Addr} {d : D} {t : String} {r : Bool} (ht : tyD d = some (.type t)) (ho : jbg cs d = true) (k : PySem.W.kitOne K (.type t) (.ref b) = some r) : isiD K cs [d, .s (.ref b)] = some (rvB r) := by
 unfold isiD isiB
 simp only [ht, clsD, ho, if_true, k]
theorem none_obj {a : Addr} {fs : List (Str × D)} : isNone (.obj a fs) = false := rfl
end
end PL
namespace PL
open PySem L2 PySem.Spec PyProof.Rows
structure DefAt (K : PySem.W.Frag) (x : Str) (st : Stmt) (f : Addr) : Prop where
 at_ : PySem.W.nsIn K mainGlobals x = some (some (.ref f))
 kp : PySem.W.keepIn K (.ref f) = true
 ex : ∃ (oc : Value) (od : Option Addr) (dc pm : Value) (an : Option Addr) (cd ct : Value) (sl : Array (Option Value)) (kV : Value), K.lookup f = some ⟨oc, od, .func (PySem.W.fnOf x x (defArgs st) (defBody st) (defScope st) .none kV dc pm an cd ct), sl⟩ ∧ PySem.W.codeIn K cd x = true
structure MethAt (K : PySem.W.Frag) (C : Addr) (m qual : Str) (st : Stmt) (f : Addr) : Prop where
 at_ : PySem.W.findIn K (.ref C) m = some (some (.ref f))
 isf : PySem.W.isFn K (.ref f) = true
 kp : PySem.W.keepIn K (.ref f) = true
 ex : ∃ (oc : Value) (od : Option Addr) (dc pm : Value) (an : Option Addr) (cd ct : Value) (sl : Array (Option Value)) (kV : Value), K.lookup f = some ⟨oc, od, .func (PySem.W.fnOf m qual (defArgs st) (defBody st) (defScope st) .none kV dc pm an cd ct), sl⟩ ∧ PySem.W.codeIn K cd qual = true
theorem DefAt.of {K : PySem.W.Frag} {x : Str} {st : Stmt} {f : Addr} {oc : Value} {od : Option Addr} {dc pm : Value} {an : Option Addr} {cd ct : Value} {sl : Array (Option Value)} {kV : Value} (a : PySem.W.nsIn K mainGlobals x = some (some (.ref f))) (l : K.lookup f = some ⟨oc, od, .func (PySem.W.fnOf x x (defArgs st) (defBody st) (defScope st) .none kV dc pm an cd ct), sl⟩) (c : PySem.W.codeIn K cd x = true) (k : PySem.W.keepIn K (.ref f) = true) : DefAt K x st f :=
 ⟨a, k, _, _, _, _, _, _, _, _, _, l, c⟩
theorem MethAt.of {K : PySem.W.Frag} {C : Addr} {m qual : Str} {st : Stmt} {f : Addr} {oc : Value} {od : Option Addr} {dc pm : Value} {an : Option Addr} {cd ct : Value} {sl : Array (Option Value)} {kV : Value} (a : PySem.W.findIn K (.ref C) m = some (some (.ref f))) (l : K.lookup f = some ⟨oc, od, .func (PySem.W.fnOf m qual (defArgs st) (defBody st) (defScope st) .none kV dc pm an cd ct), sl⟩) (c : PySem.W.codeIn K cd qual = true) (k : PySem.W.keepIn K (.ref f) = true) (i : PySem.W.isFn K (.ref f) = true) : MethAt K C m qual st f :=
 ⟨a, i, k, _, _, _, _, _, _, _, _, _, l, c⟩
noncomputable def DefAt.fd {K : PySem.W.Frag} {x : Str} {st : Stmt} {f : Addr} (a : DefAt K x st f) : FuncData := Classical.choose (show ∃ fd, Fun K x x st f fd from by
 obtain ⟨oc, od, dc, pm, an, cd, ct, sl, kV, l, c⟩ := a.ex
 exact ⟨_, fun_mk l c a.kp⟩)
theorem DefAt.fn {K : PySem.W.Frag} {x : Str} {st : Stmt} {f : Addr} (a : DefAt K x st f) : Fun K x x st f a.fd := Classical.choose_spec (show ∃ fd, Fun K x x st f fd from by
 obtain ⟨oc, od, dc, pm, an, cd, ct, sl, kV, l, c⟩ := a.ex
 exact ⟨_, fun_mk l c a.kp⟩)
noncomputable def MethAt.fd {K : PySem.W.Frag} {C : Addr} {x q : Str} {st : Stmt} {f : Addr} (a : MethAt K C x q st f) : FuncData := Classical.choose (show ∃ fd, Fun K x q st f fd from by
 obtain ⟨oc, od, dc, pm, an, cd, ct, sl, kV, l, c⟩ := a.ex
 exact ⟨_, fun_mk l c a.kp⟩)
theorem MethAt.fn {K : PySem.W.Frag} {C : Addr} {x q : Str} {st : Stmt} {f : Addr} (a : MethAt K C x q st f) : Fun K x q st f a.fd := Classical.choose_spec (show ∃ fd, Fun K x q st f fd from by
 obtain ⟨oc, od, dc, pm, an, cd, ct, sl, kV, l, c⟩ := a.ex
 exact ⟨_, fun_mk l c a.kp⟩)
theorem MethAt.meth {K : PySem.W.Frag} {C : Addr} {x q : Str} {st : Stmt} {f : Addr} (a : MethAt K C x q st f) : Meth K C x f := ⟨a.at_, a.isf, a.kp⟩
theorem MethAt.mkOk {K : PySem.W.Frag} {C : Addr} {q : Str} {st : Stmt} {f : Addr} (a : MethAt K C "__init__" q st f) (h : PySem.W.makesIn K C = true) (k : PySem.W.keepIn K (.ref C) = true) : Mk K C f := ⟨h, a.at_, a.isf, k⟩
theorem jbq {P : Program} {w : World} {K : PySem.W.Frag} {mg : Str → Option Value} {base : Heap} {k : Nat} {m x qual : Str} {fx : List Nat} {NN ps : List Str} {n : Nat} {st : Stmt} {f : Addr} {fd : FuncData} {body : PL.P Fl} {C : Addr} (F : Fun K m qual st f fd) (M : Mk K C f) (hm : mg x = some (.ref C)) (hb : Binds K fd ps []) (S : FnScope NN ps (defScope st)) (hn : ps.length = n + 1) (hN : n + 1 ≤ NN.length)
  (hbody : ∀ (cdv : Value) (A : Around) (outer : List PySem.Env) (s : Shared) (H : Hp) (E : XK), CtxOk (fun _ : Unit => cxOf (L2.CX P w) P w K mg base NN qual (defScope st) f cdv A outer s H E) P w K mg base k (WB E) NN (defScope st) →
   BSs (fun _ : Unit => cxOf (L2.CX P w) P w K mg base NN qual (defScope st) f cdv A outer s H E) K (WB E) fx (defBody st) body) : qa1 P w K mg base (k + 1) x n C (runF fx NN.length body) :=
 ⟨⟨f, fd, ps, def_fn F S hn hN hbody, M, hm, hb⟩⟩
end PL
namespace PL
open PySem L2 PySem.Spec PyProof.Rows
abbrev lamF (q : Str) (params : Arguments) (scope : Scope) (cl : List (Str × Addr)) (c : Addr) : NdefX.NF := ⟨"<lambda>", q, params, [], scope, cl, c⟩
def LamRun (P : Program) (w : World) (K : PySem.W.Frag) (mg : Str → Option Value) (base : Heap) (k : Nat) (f : Addr) (F : NdefX.NF) (body : Expr) (fr : List Str) (sp : List (Option V) → Sp) : Prop :=
 ∀ (A : Around) (outer : List Env) (s : Shared) (H : Hp) (us : List Value) (vs : List V) (ws : List (Option V)) (pm ctv : Value) (Q : VK) (E : XK), Room k A → Env0 P w K mg base A outer s H →
  s.heap.get? f = some (PySem.W.kla_obj "<lambda>" F.qual F.params body F.scope F.cl pm F.c ctv) → H F.c = some (LamX.CodeO F.c F.qual) → NdefX.CellsAt F.cl fr ws s.heap H → Vals vs us → sp ws vs H Q E →
  codeAny (model P w) A (.call (.ref f) ⟨us, []⟩) (CR (L2.CX P w) outer P w H s Q E) s
section
variable {P : Program} {w : World} {K : PySem.W.Frag} {mg : Str → Option Value} {base : Heap} {N ps fr : List Str} {F : NdefX.NF} {f : Addr} {k : Nat} {sp : List (Option V) → Sp} {body : Expr}
theorem lam_of (S : NdefX.NScope N ps fr F.scope) (hb : ∀ (pm ctv : Value) (us : List Value), us.length = ps.length → bindArgs (PySem.W.kla_fn "<lambda>" F.qual F.params body F.scope F.cl pm (.ref F.c) ctv) ⟨us, []⟩ = pure (ps.zip us)) (len : ∀ ws vs H Q E, sp ws vs H Q E → vs.length = ps.length)
  (hbody : ∀ (A : Around) (outer : List Env) (s : Shared) (H : Hp) (vs : List V) (ws : List (Option V)) (Q : VK) (E : XK), Room k (A.deeper (NdefX.envF F f s.heap.objs.size)) → ws.length = fr.length → sp ws vs H Q E →
   ∃ te, PE (NdefX.ncx (L2.CX P w) P w K mg base N F f A outer s H E) body te ∧ te (NdefX.startF N vs ws) H Q) :
  LamRun P w K mg base (k + 1) f F body fr sp := by
 intro A outer s H us vs ws pm ctv Q E hr e0 ho hc Cl r hsp
 have hl := len _ _ _ _ _ hsp
 have nl : s.heap.NoLimit := e0.mod.nolimit.keeps fun b o e => (e0.bs b o e).1
 refine PySem.W.kla_callFunE hr.depth ho rfl S.co S.gen rfl (NdefX.codeO_at e0.hok hc) ?_
 rw [hb pm ctv us (by rw [← r.length]; exact hl)]
 refine wpAny_pure (wpAny_newFunctionEnv S.nocell (fun ⟨n, _⟩ hy => S.par n (List.of_mem_zip hy).1) (fun h2 hn2 hs2 => ⟨nl.fresh _ hs2, ?_⟩) S.kind)
 have kp2 : ∀ b o, s.heap.get? b = some o → h2.get? b = some o := fun b o z => hs2.extBut b o (Nat.ne_of_lt (Heap.lt_size z)) (Heap.get?_push_of_some _ z)
 obtain ⟨te, ht, hq⟩ := hbody A outer s H vs ws Q E (hr.deeper _) Cl.len hsp
 have J0 : Inv (NdefX.ncx (L2.CX P w) P w K mg base N F f A outer s H E) [] (NdefX.startF N vs ws) H { s with heap := h2, toks := s.toks + (ps.zip us).length } := NdefX.inv_startN S hr.hd e0 hl r Cl hn2 kp2
 refine PySem.W.kla_codeExpr (wpAny_mono (ht.run [] _ _ H Q J0 hq) (fun v s' z => ?_) fun e s' z => z)
 obtain ⟨w', H', J, rv, q⟩ := z
 exact ⟨w', H', J.os, J.bare, J.base, J.hok, rv, q⟩
end
def spL (K : PySem.W.Frag) (n m : Nat) (F : PL.P Rv) : List (Option V) → Sp := fun ws vs H Q E => ∃ zs : List V, ws = zs.map some ∧ vs.length = n ∧ zs.length = m ∧ spF K (n + m) F (vs ++ zs) H Q E
theorem start_F {N : List Str} {vs zs : List V} : NdefX.startF N vs (zs.map some) = L2.start N (vs ++ zs) := by
 unfold NdefX.startF L2.start
 rw [List.map_append, List.append_assoc, List.length_map, List.length_append, Nat.sub_sub]
theorem lam_ok {P : Program} {w : World} {K : PySem.W.Frag} {mg : Str → Option Value} {base : Heap} {N ps fr : List Str} {F : NdefX.NF} {f : Addr} {k n m : Nat} {body : Expr} {fe : PL.P Rv} (S : NdefX.NScope N ps fr F.scope)
  (hb : ∀ (pm ctv : Value) (us : List Value), us.length = ps.length → bindArgs (PySem.W.kla_fn "<lambda>" F.qual F.params body F.scope F.cl pm (.ref F.c) ctv) ⟨us, []⟩ = pure (ps.zip us)) (hn : ps.length = n) (hm : fr.length = m) (hN : n + m ≤ N.length)
  (hbody : ∀ (A : Around) (outer : List Env) (s : Shared) (H : Hp) (E : XK), CtxOk (fun _ : Unit => NdefX.ncx (L2.CX P w) P w K mg base N F f A outer s H E) P w K mg base k (WB E) N F.scope →
   BE (fun _ : Unit => NdefX.ncx (L2.CX P w) P w K mg base N F f A outer s H E) K (WB E) body fe) :
  LamRun P w K mg base (k + 1) f F body fr (spL K n m (runF [] N.length (sRet fe))) := by
 refine lam_of S hb (fun ws vs H Q E ⟨zs, _, h, _⟩ => h.trans hn.symm) fun A outer s H vs ws Q E hr hw hsp => ?_
 obtain ⟨te, h1, h2⟩ := hbody A outer s H E ⟨fun _ => rfl, fun _ => rfl, fun _ => rfl, fun _ => rfl, fun _ => rfl, fun _ => hr, fun _ => takes_of rfl rfl rfl rfl, fun _ => rfl, fun _ => passes_of rfl, fun _ => rfl, fun _ => rfl, S.nd⟩
 refine ⟨te, h1 (), ?_⟩
 obtain ⟨zs, rfl, hvl, hzl, hl, C, cs, out, e, ho, hok, hex⟩ := hsp
 rw [start_F]
 have hs := ss_ret (fx := []) h2
 have hlen : (vs ++ zs).length ≤ N.length := by rw [hl]; exact hN
 have e0 := EnvOk.begin (N := N) hlen e
 unfold runF at ho
 cases q : sRet fe (cs ++ List.replicate (N.length - cs.length) .no) with
 | none => rw [q] at ho; cases ho
 | some o =>
  rw [q] at ho
  refine hs (L2.start N (vs ++ zs)) C H _ o { nx := fun _ H' => Q .non H', rt := Q } e0 q ?_
  cases o with
  | ex x r =>
   dsimp only at ho
   cases z : merge [] 0 cs r with
   | none => rw [z] at ho; cases ho
   | some cs' =>
    rw [z] at ho; cases ho
    exact fun d σ' C' H' p k => hex x cs' rfl d C' H' (Post.finish e p z) k
  | ok fl r =>
   cases fl with
   | next =>
    dsimp only at ho
    cases z : merge [] 0 cs r with
    | none => rw [z] at ho; cases ho
    | some cs' =>
     rw [z] at ho; cases ho
     exact fun σ' C' H' p => (hok _ cs' rfl).2 .non C' H' (Post.finish e p z) (show Is K C' (.s .non) .non from is_s)
   | brk => cases ho
   | cont => cases ho
   | ret v =>
    dsimp only at ho
    cases y : handed cs.length r v with
    | none => rw [y] at ho; cases ho
    | some r' =>
     rw [y] at ho
     dsimp only at ho
     cases z : merge [] 0 cs r with
     | none => rw [z] at ho; cases ho
     | some cs' =>
      rw [z] at ho; cases ho
      exact fun u σ' C' H' p k => (hok r' cs' rfl).2 u C' H' (Post.finish e p z) (VOk.finish e p z k y).2
end PL
namespace PL
open PySem L2 PySem.Spec PyProof.Rows
def LamO (f : Addr) (F : NdefX.NF) (body : Expr) : Heap → Prop := fun h => ∃ (pm ctv : Value), h.get? f = some (PySem.W.kla_obj "<lambda>" F.qual F.params body F.scope F.cl pm F.c ctv)
def Told (H : Hp) (P : Addr) (pos : Pos) (c : Addr) : Prop := ∃ ps : Array Value, H P = some (.tbl ps) ∧ TriplesOk ps.toList ∧ codeAmong pos ps.toList = some (.ref c)
theorem among_more {pos : Pos} {cv : Value} (l m : List Value) (h : TriplesOk l) (hc : codeAmong pos l = some cv) : codeAmong pos (l ++ m) = some cv := by
 fun_induction TriplesOk l with
 | case1 => simp [codeAmong] at hc
 | case2 a t b u x rest ih =>
  simp only [List.cons_append, codeAmong] at hc ⊢
  split at hc
  ·rename_i q; rw [if_pos q]; exact hc
  ·rename_i q; rw [if_neg q]; exact ih h hc
 | case3 l h1 h2 => exact h.elim
theorem among_last {pos : Pos} {c : Value} (l : List Value) (h : TriplesOk l) (hc : codeAmong pos l = none) : codeAmong pos (l ++ [rawInt pos.line, rawInt pos.col, c]) = some c := by
 fun_induction TriplesOk l with
 | case1 => simp [codeAmong, rawInt]
 | case2 a t b u x rest ih =>
  simp only [List.cons_append, codeAmong] at hc ⊢
  split at hc
  ·cases hc
  ·rename_i q; rw [if_neg q]; exact ih h hc
 | case3 l h1 h2 => exact h.elim
structure Mkd (H : Hp) (P : Addr) (lpos : Pos) (mk : Addr → NdefX.NF) (body : Expr) (f c : Addr) (H1 : Hp) : Prop where
 ex : Ex H H1
 tabs : ∀ P', TS1 H P' → TS1 H1 P'
 new : H f = none
 fn : H1 f = some (.ext (LamO f (mk c) body))
 told : Told H1 P lpos c
def tLamE (P : Addr) (lpos : Pos) (mk : Addr → NdefX.NF) (body : Expr) : TE := fun σ H Q => TS1 H P ∧ ∀ (f c : Addr) (H1 : Hp), Mkd H P lpos mk body f c H1 → Q (.ref f) H1
section
variable {X : Cx} {pins : List (Addr × Obj)} {σ : L2.St} {H : Hp} {s : Shared}
theorem inv_lam {F : NdefX.NF} {body : Expr} {o : Obj} {t' : Nat} {pm ctv : Value} (I : Inv X pins σ H s) (ho : o = PySem.W.kla_obj "<lambda>" F.qual F.params body F.scope F.cl pm F.c ctv) :
  Inv X pins σ (upd H s.heap.objs.size (.ext (LamO s.heap.objs.size F body))) { s with heap := s.heap.push o, toks := t' } := by
 subst ho
 refine I.laid (a := s.heap.objs.size) (fun b u z => Heap.get?_push_of_some _ z) (Nat.le_refl _) ?_
 have z : (s.heap.push (PySem.W.kla_obj "<lambda>" F.qual F.params body F.scope F.cl pm F.c ctv)).get? s.heap.objs.size = some (PySem.W.kla_obj "<lambda>" F.qual F.params body F.scope F.cl pm F.c ctv) := Heap.get?_push_size _ rfl
 exact ⟨⟨pm, ctv, z⟩, ⟨_, z⟩, fun h1 h2 ⟨p, t, y⟩ st => ⟨p, t, st _ y⟩⟩
theorem lam_made {c P : Addr} {params : Arguments} {body : Expr} {scope : Scope} {lpos : Pos} {E : Value → Shared → Prop} {Q : Value → Shared → Prop} (I : Inv X pins σ H s) (TB : LamX.TabB X.base X.mg c P) (hcode : X.env.code = .ref c) (hq : X.env.qual ++ "<lambda>" = lamQ)
  (hT : TS1 H P) (hdef : defaultsOf params X.env = ([], [])) (hfree : ∀ y ∈ scope.names, y.2 = .free → ∃ c, X.env.cells.lookup y.1 = some c)
  (h : ∀ (f c' : Addr) (H1 : Hp) (s' : Shared), Inv X pins σ H1 s' → Mkd H P lpos (fun c' => lamF lamQ params scope (cloFrom X.env.cells scope.names []) c') body f c' H1 → Q (.ref f) s') :
  wpAny (model X.prog X.w) X.A (eval (.Lambda params body scope lpos) X.env) Q E s := by
 obtain ⟨ps, hP, ht, ha⟩ := hT
 refine PySem.W.kla_eval hdef ?_
 rw [hq]
 have bP := TB.bm.keeps I.bk
 have hP2 : s.heap.get? P = some { cls := .none, data := .fields ps } := I.hok P _ hP
 cases hc : codeAmong lpos ps.toList with
 | some cv =>
  obtain ⟨c', rfl, hco⟩ := ha lpos cv hc
  refine PySem.W.kla_makeFunctionHit (mg := X.mg) (c := c) (P := P) (ps := ps) (closure_ok hfree) I.ok.glob (I.mod.glob.keeps I.bk) hcode (TB.code.keeps I.bk) hP2 ht hc bP fun ctv h' tk hx _ => ?_
  have I1 : Inv X pins σ H { s with heap := h', toks := tk } := I.kept hx
  have nF : H h'.objs.size = none := I1.hok.fresh (Nat.le_refl _)
  have I2 := inv_lam (F := lamF lamQ params scope (cloFrom X.env.cells scope.names []) c') (body := body) (t' := tk) (pm := (X.mg "__name__").getD .none) (ctv := ctv) I1 rfl
  exact h _ c' _ _ I2 ⟨Ex.new nF, fun P' q => qav q nF, nF, upd_same, ps, by rw [upd_ne (ne_of_none hP nF)]; exact hP, ht, hc⟩
 | none =>
  refine PySem.W.kla_makeFunction (mg := X.mg) (c := c) (P := P) (ps := ps) (closure_ok hfree) I.ok.glob (I.mod.glob.keeps I.bk) hcode (TB.code.keeps I.bk) hP2 ht hc TB.gP bP fun c' ctv h' tk hx hge hlt hrec htb => ?_
  obtain ⟨c2, oc, vs, t, e2, hoc, hd, hv⟩ := hrec
  cases e2
  have nC : H c' = none := I.hok.fresh hge
  have I1 := LamX.inv_table (t' := tk) (more := #[rawInt lpos.line, rawInt lpos.col, .ref c']) (h' := h') I hP (fun b o hb z => hx b o hb z) htb hge ⟨oc, vs, t, hoc, hd, hv⟩
  have nF : (upd (upd H P (.tbl (ps ++ #[rawInt lpos.line, rawInt lpos.col, .ref c']))) c' (LamX.CodeO c' lamQ)) h'.objs.size = none := I1.hok.fresh (Nat.le_refl _)
  have I2 := inv_lam (F := lamF lamQ params scope (cloFrom X.env.cells scope.names []) c') (body := body) (t' := tk) (pm := (X.mg "__name__").getD .none) (ctv := ctv) I1 rfl
  have nPc : P ≠ c' := ne_of_none hP nC
  have nF0 : H h'.objs.size = none := by
   by_cases z1 : h'.objs.size = c'
   ·rw [z1]; exact nC
   ·rw [upd_ne z1] at nF
    by_cases z2 : h'.objs.size = P
    ·rw [z2, upd_same] at nF; cases nF
    ·rw [upd_ne z2] at nF; exact nF
  have exA : Ex H (upd (upd H P (.tbl (ps ++ #[rawInt lpos.line, rawInt lpos.col, .ref c']))) c' (LamX.CodeO c' lamQ)) := ⟨fun b o z n => by
   rw [upd_ne (ne_of_none z nC), upd_ne (fun y => n ps (Option.some.inj (z.symm.trans (by rw [y]; exact hP))))]; exact z, fun b z => by
   by_cases z1 : b = c'
   ·rw [z1]; exact nC
   ·rw [upd_ne z1] at z
    by_cases z2 : b = P
    ·rw [z2, upd_same] at z; cases z
    ·rw [upd_ne z2] at z; exact z⟩
  have eL : (ps ++ #[rawInt lpos.line, rawInt lpos.col, .ref c']).toList = ps.toList ++ [rawInt lpos.line, rawInt lpos.col, .ref c'] := by simp
  have tbA : ∀ P', TS1 H P' → TS1 (upd (upd H P (.tbl (ps ++ #[rawInt lpos.line, rawInt lpos.col, .ref c']))) c' (LamX.CodeO c' lamQ)) P' := fun P' q => by
   by_cases zb : P' = P
   ·subst zb
    refine ⟨_, by rw [upd_ne nPc, upd_same], by rw [eL]; exact PySem.TriplesOk_snoc _ _ _ _ ht, fun p' cv hcv => ?_⟩
    rw [eL] at hcv
    rcases LamX.among_app _ ht hcv with z | z
    ·obtain ⟨c0, e1, e2⟩ := ha p' cv z
     exact ⟨c0, e1, exA.1 _ _ e2 (LamX.codeO_ne)⟩
    ·exact ⟨c', z, upd_same⟩
   ·obtain ⟨qs, q1, q2, q3⟩ := q
    refine ⟨qs, by rw [upd_ne (ne_of_none q1 nC), upd_ne zb]; exact q1, q2, fun p' cv hcv => ?_⟩
    obtain ⟨c0, e1, e2⟩ := q3 p' cv hcv
    exact ⟨c0, e1, exA.1 _ _ e2 (LamX.codeO_ne)⟩
  refine h _ c' _ _ I2 ⟨exA.trans (Ex.new nF), fun P' q => qav (tbA P' q) nF, nF0, upd_same, _, ?_, by rw [eL]; exact PySem.TriplesOk_snoc _ _ _ _ ht, by rw [eL]; exact among_last _ ht hc⟩
  show upd _ h'.objs.size _ P = _
  rw [upd_ne (fun z => by rw [← z, upd_ne nPc, upd_same] at nF; cases nF), upd_ne nPc, upd_same]
theorem pe_lamE {c P : Addr} {params : Arguments} {body : Expr} {scope : Scope} {lpos : Pos} (TB : LamX.TabB X.base X.mg c P) (hcode : X.env.code = .ref c) (hq : X.env.qual ++ "<lambda>" = lamQ) (hdef : defaultsOf params X.env = ([], []))
  (hfree : ∀ y ∈ scope.names, y.2 = .free → X.env.scope.names.lookup y.1 = some .cell ∨ X.env.scope.names.lookup y.1 = some .free) :
  PE X (.Lambda params body scope lpos) (tLamE P lpos (fun c' => lamF lamQ params scope (cloFrom X.env.cells scope.names []) c') body) := by
 refine ⟨fun pins s σ H Q I h => ?_⟩
 obtain ⟨hT, h⟩ := h
 refine lam_made I TB hcode hq hT hdef (fun y hy e => (hfree y hy e).elim (fun z => I.ok.has _ (.inl z)) fun z => I.ok.has _ (.inr z)) fun f c' H1 s' I1 m => ?_
 exact ⟨.ref f, H1, I1, rfl, h f c' H1 m⟩
end
end PL
namespace PL
open PySem L2 PySem.Spec PyProof.Rows
theorem wb2 {K : PySem.W.Frag} {fx : List Nat} {N : List Str} {n : Nat} {t : TS} {body : PL.P Fl} {vs : List V} {H : Hp} {Q : VK} {E : XK} (hs : SdS K (fun cls d _ H => E cls d H) fx t body) (hN : n ≤ N.length) (h : spF K n (runF fx N.length body) vs H Q E) : t { nx := fun _ H' => Q .non H', rt := Q } (L2.start N vs) H := by
 obtain ⟨hl, C, cs, out, e, ho, hok, hex⟩ := h
 have e0 := EnvOk.begin (N := N) (by rw [hl]; exact hN) e
 unfold runF at ho
 cases q : body (cs ++ List.replicate (N.length - cs.length) .no) with
 | none => rw [q] at ho; cases ho
 | some o =>
  rw [q] at ho
  refine hs (L2.start N vs) C H _ o _ e0 q ?_
  cases o with
  | ex x r =>
   dsimp only at ho
   cases z : merge fx 0 cs r with
   | none => rw [z] at ho; cases ho
   | some cs' => rw [z] at ho; cases ho; exact fun d σ' C' H' p k => hex x cs' rfl d C' H' (Post.finish e p z) k
  | ok fl r =>
   cases fl with
   | next =>
    dsimp only at ho
    cases z : merge fx 0 cs r with
    | none => rw [z] at ho; cases ho
    | some cs' => rw [z] at ho; cases ho; exact fun σ' C' H' p => (hok _ cs' rfl).2 .non C' H' (Post.finish e p z) (show Is K C' (.s .non) .non from is_s)
   | brk => cases ho
   | cont => cases ho
   | ret v =>
    dsimp only at ho
    cases y : handed cs.length r v with
    | none => rw [y] at ho; cases ho
    | some r' =>
     rw [y] at ho
     dsimp only at ho
     cases z : merge fx 0 cs r with
     | none => rw [z] at ho; cases ho
     | some cs' => rw [z] at ho; cases ho; exact fun u σ' C' H' p k => (hok r' cs' rfl).2 u C' H' (Post.finish e p z) (VOk.finish e p z k y).2
structure ActOk (P : Program) (w : World) (K : PySem.W.Frag) (mg : Str → Option Value) (base : Heap) (k : Nat) (Z : Cx) (Pt f : Addr) (NF : NdefX.NF) (body : Expr) (fr : List Str) (zs : List V) (n m : Nat) (F : PL.P Rv) : Prop where
 run : LamRun P w K mg base k f NF body fr (spL K n m F)
 told : ∃ lpos, Told Z.H_0 Pt lpos NF.c
 nf : ∀ y c, NF.cl.lookup y = some c → c ∉ Z.fs
 cells : NdefX.CellsAt NF.cl fr (zs.map some) Z.s_0.heap Z.H_0
 ex : Z.ex = []
 q : NF.qual = lamQ
def tAct (Pt f : Addr) (φ : Heap → Prop) (zs : List V) (i : Nat) (sp : List (Option V) → Sp) (E : L2.St → XK) (t : TA) : TE := fun σ H Q => σ[i]? = some (some (.ref f)) ∧ H f = some (.ext φ) ∧ t σ H fun vs H1 => H1 f = some (.ext φ) ∧ TS1 H1 Pt ∧ sp (zs.map some) vs H1 Q (E σ)
section
variable {P : Program} {w : World} {K : PySem.W.Frag} {mg : Str → Option Value} {base : Heap} {k : Nat} {Z : Cx} {Pt f : Addr} {NF : NdefX.NF} {body : Expr} {fr : List Str} {zs : List V} {n m : Nat} {F : PL.P Rv} {W : WX} {i : Nat} {x : Str} {p pos : Pos} {e : Expr} {es : List Expr} {t : TA}
theorem lam_at {pins : List (Addr × Obj)} {σ : L2.St} {H : Hp} {s : Shared} (I : Inv Z pins σ H s) (h : H f = some (.ext (LamO f NF body))) : ∃ pm ctv, s.heap.get? f = some (PySem.W.kla_obj "<lambda>" NF.qual NF.params body NF.scope NF.cl pm NF.c ctv) := by
 obtain ⟨z, _, _⟩ := I.hok f _ h
 exact z
theorem pe_actL (h1 : Z.prog = P) (h2 : Z.w = w) (h3 : Z.K = K) (h4 : Z.mg = mg) (h5 : Z.base = base) (a : ActOk P w K mg base k Z Pt f NF body fr zs n m F) (hr : Room k Z.A) (tk : Takes Z W) (hN : Z.N[i]? = some x) (hv : Vis Z.env.scope x) (ha : PA Z (e :: es) t)
  (hd : (x == ("__debug__" : Str)) = false) (hcd : (x == ("__classdict__" : Str)) = false)
  (he : starEach (e :: es) Z.env = (false, eval e Z.env) :: starEach es Z.env) (hpl : (backTo pos (starEach es Z.env)).any (·.1) = false) :
  PE Z (.Call (.Name x p) (e :: es) [] pos) (tAct Pt f (LamO f NF body) zs i (spL K n m F) (WE W) t) := by
 subst h1 h2 h3 h4 h5
 refine ⟨fun pins s σ H Q I h => ?_⟩
 obtain ⟨hs, hf, ht⟩ := h
 refine wpAny_Call_Name_kw (thn ((pe_var (pos := p) hN hv hd hcd).run pins s σ H (fun v H1 => v = .ref f ∧ H1 = H) I ⟨.ref f, hs, rfl, rfl⟩) fun u s1 ⟨v, H1, I1, r1, q1⟩ => ?_)
 obtain ⟨rfl, rfl⟩ := q1
 obtain rfl : u = Value.ref f := r1
 obtain ⟨pm, ctv, hg⟩ := lam_at I1 hf
 refine PySem.W.callWith_F (first := []) ⟨_, _, _, _, hg⟩ (thn (ha.run pos pins s1 σ H1 _ I1 ht) fun us s2 ⟨vs, H2, I2, r, h1, h2, q⟩ => ?_) he hpl
 obtain ⟨pm2, ctv2, hg2⟩ := lam_at I2 h1
 refine ⟨⟨_, _, _, _, hg2⟩, ?_⟩
 show wpAny _ _ (call (.ref f) us) _ _ _
 have hc : H2 NF.c = some (LamX.CodeO NF.c NF.qual) := by
  obtain ⟨lpos, ps, t1, t2, t3⟩ := a.told
  obtain ⟨more, hm⟩ := I2.base.tbls _ _ t1
  obtain ⟨ps2, k1, k2, k3⟩ := h2
  rw [hm] at k1
  cases k1
  obtain ⟨c0, e1, e2⟩ := k3 lpos (.ref NF.c) (by rw [Array.toList_append]; exact among_more _ _ t2 t3)
  cases e1
  rw [a.q]; exact e2
 have hC := NdefX.CellsAt.later a.cells a.nf (fun y c _ z => by rw [a.ex] at z; cases z) I2
 refine wpAny_call (codeAny_mono (a.run Z.A Z.stack s2 H2 us vs _ pm2 ctv2 Q (WE W σ) hr I2.env0 hg2 hc hC r q) fun r s' hq => ?_)
 cases r with
 | error e => exact passAt tk σ pins H2 s2 e s' I2 hq
 | ok fl =>
  cases fl with
  | ret u => exact I2.after hq
  | next => exact False.elim hq
  | brk => exact False.elim hq
  | cont => exact False.elim hq
theorem pe_actK {g : Addr} {fd : FuncData} {ps : List Str} {sp : Sp} (h1 : Z.prog = P) (h2 : Z.w = w) (h3 : Z.K = K) (h4 : Z.mg = mg) (h5 : Z.base = base) (hF : FnOk P w K mg base (L2.CX P w) k g fd ps sp) (hk : PySem.W.keepIn K (.ref g) = true) (hb : Binds K fd ps []) (hr : Room k Z.A) (tk : Takes Z W) (hN : Z.N[i]? = some x) (hv : Vis Z.env.scope x) (ha : PA Z (e :: es) t)
  (hd : (x == ("__debug__" : Str)) = false) (hcd : (x == ("__classdict__" : Str)) = false)
  (he : starEach (e :: es) Z.env = (false, eval e Z.env) :: starEach es Z.env) (hpl : (backTo pos (starEach es Z.env)).any (·.1) = false) :
  PE Z (.Call (.Name x p) (e :: es) [] pos) (fun σ H Q => σ[i]? = some (some (.ref g)) ∧ t σ H fun vs H1 => sp vs H1 Q (WE W σ)) := by
 subst h1 h2 h3 h4 h5
 refine ⟨fun pins s σ H Q I h => ?_⟩
 obtain ⟨hs, ht⟩ := h
 refine wpAny_Call_Name_kw (thn ((pe_var (pos := p) hN hv hd hcd).run pins s σ H (fun v H1 => v = .ref g ∧ H1 = H) I ⟨.ref g, hs, rfl, rfl⟩) fun u s1 ⟨v, H1, I1, r1, q1⟩ => ?_)
 obtain ⟨rfl, rfl⟩ := q1
 obtain rfl : u = Value.ref g := r1
 refine PySem.W.callWith_K (h₀ := Z.base) I1.ok.mod.kin hk (thn (ha.run pos pins s1 σ H1 _ I1 ht) fun us s2 ⟨vs, H2, I2, r, q⟩ => ⟨I2.kIn, ?_⟩) he hpl
 exact run_fnS hF hr hb (passAt tk σ) I2 r q
end
open Classical in
noncomputable def fAct (f : Addr) (φ : Heap → Prop) (zs : List V) (n m : Nat) (F : PL.P Rv) (i : Nat) (ga : PL.P (List Arg)) : PL.P Rv := fun ρ => match ρ[i]? with
 | some (.dat (.lam f0 φ0 zs0 ks)) => if f0 = f ∧ φ0 = φ ∧ zs0 = zs ∧ ks.length = m then (ga.bind fun as => if as.length = n then wq (n + m) F (as ++ ks.map .inl) else PL.P.fail) ρ else none
 | _ => none
def vaw (f : Addr) (n : Nat) (F : PL.P Rv) (i : Nat) (ga : PL.P (List Arg)) : PL.P Rv := fun ρ => match ρ[i]? with
 | some (.dat (.s (.ref f0))) => if f0 = f then (ga.bind (wq n F)) ρ else none
 | _ => none
theorem vbj {K : PySem.W.Frag} {C : Hp} {σ : Sl} : ∀ {ks : List D} {zs : List V}, Iss K C ks zs → ArgOk K C σ (ks.map .inl) zs
 | [], zs, h => iss_nil_iff.mp h
 | d :: ds, zs, h => by
  obtain ⟨y, r, rfl, h2, h3⟩ := iss_cons_iff.mp h
  exact ⟨y, r, rfl, h2, vbj h3⟩
theorem wbe {K : PySem.W.Frag} {C : Hp} {σ : Sl} {ks : List D} {zs : List V} (h : Iss K C ks zs) : ∀ {as : List Arg} {vs : List V}, ArgOk K C σ as vs → ArgOk K C σ (as ++ ks.map .inl) (vs ++ zs)
 | [], vs, q => by
  have q : vs = [] := q
  subst q
  exact vbj h
 | .inl d :: as, vs, q => by
  obtain ⟨y, r, rfl, h2, h3⟩ := q
  exact ⟨y, r ++ zs, rfl, h2, wbe h h3⟩
 | .inr j :: as, vs, q => by
  obtain ⟨y, r, rfl, h2, h3⟩ := q
  exact ⟨y, r ++ zs, rfl, h2, wbe h h3⟩
section
variable {K : PySem.W.Frag} {W : WX} {t : TA} {ga : PL.P (List Arg)} {i n m : Nat} {F : PL.P Rv}
theorem sd_act {Pt f : Addr} {φ : Heap → Prop} {zs : List V} (hP : TabP K Pt) (hF : ∀ cs r cs', F cs = some (.ok r cs') → rvD r = true) (hg : Sd K W (ARel K) t ga) : Sd K W (VRel K) (tAct Pt f φ zs i (spL K n m F) (WE W) t) (fAct f φ zs n m F i ga) := by
 intro σ C H ρ e
 unfold fAct
 cases q : ρ[i]? with
 | none => exact At.nil
 | some c =>
  obtain ⟨v, hv, ok⟩ := e.cell i c q
  cases c with
  | no => exact At.nil
  | own m => exact At.nil
  | dat d =>
   cases d with
   | lam f0 φ0 zs0 ks =>
    dsimp only
    by_cases c : f0 = f ∧ φ0 = φ ∧ zs0 = zs ∧ ks.length = m
    ·rw [if_pos c]
     obtain ⟨rfl, rfl, rfl, hm⟩ := c
     obtain ⟨u, rfl, ok⟩ := ok
     obtain ⟨rfl, o2, o3⟩ := is_lam_iff.mp ok
     have nx : ∀ φ, NT (.ext φ) := fun φ ps z => by cases z
     refine At.imp (t := fun H1 Q => t σ H1 fun vs H2 => H2 f0 = some (.ext φ0) ∧ TS1 H2 Pt ∧ spL K n m F (zs0.map some) vs H2 Q (WE W σ)) ?_ fun Q h => ⟨hv, e.ext.1 _ _ o2 (nx _), h⟩
     refine At.bind (tk := fun (vs : List V) (H2 : Hp) (Q : VK) => H2 f0 = some (.ext φ0) ∧ TS1 H2 Pt ∧ spL K n m F (zs0.map some) vs H2 Q (WE W σ)) (hg σ C H ρ e) fun as ρ2 vs C2 H2 p2 r2 => ?_
     have hf2 := p2.env.ext.1 _ _ (p2.step.core.1 _ _ o2 (nx _)) (nx _)
     have ht2 := p2.env.tab Pt hP
     have r2 : ArgOk K C2 σ as vs := r2
     by_cases hl : as.length = n
     ·rw [if_pos hl]
      have o4 := Iss.mono p2.step.core _ _ o3
      refine At.imp (ybu (W := W) (H0 := H) p2.env (as := as ++ ks.map .inl) (vs := vs ++ zs0) (wbe o4 r2) p2.step.dom hF) fun Q h => ⟨hf2, ht2, zs0, rfl, by rw [← hl, ← r2.len], by rw [← hm, o3.length], h⟩
     ·rw [if_neg hl]; exact At.nil
    ·rw [if_neg c]; exact At.nil
   | _ => exact At.nil
theorem sd_actK {g : Addr} (hF : ∀ cs r cs', F cs = some (.ok r cs') → rvD r = true) (hg : Sd K W (ARel K) t ga) : Sd K W (VRel K) (fun σ H Q => σ[i]? = some (some (.ref g)) ∧ t σ H fun vs H1 => spF K n F vs H1 Q (WE W σ)) (vaw g n F i ga) := by
 intro σ C H ρ e
 unfold vaw
 cases q : ρ[i]? with
 | none => exact At.nil
 | some c =>
  obtain ⟨v, hv, ok⟩ := e.cell i c q
  cases c with
  | no => exact At.nil
  | own m => exact At.nil
  | dat d =>
   cases d with
   | s y =>
    cases y with
    | ref f0 =>
     dsimp only
     by_cases c : f0 = g
     ·rw [if_pos c]
      subst c
      obtain ⟨u, rfl, ok⟩ := ok
      cases is_s_iff.mp ok
      refine At.imp (t := fun H1 Q => t σ H1 fun vs H2 => spF K n F vs H2 Q (WE W σ)) ?_ fun Q h => ⟨hv, h⟩
      refine At.bind (tk := fun (vs : List V) (H2 : Hp) (Q : VK) => spF K n F vs H2 Q (WE W σ)) (hg σ C H ρ e) fun as ρ2 vs C2 H2 p2 r2 => ?_
      exact ybu p2.env r2 p2.step.dom hF
     ·rw [if_neg c]; exact At.nil
    | _ => exact At.nil
   | _ => exact At.nil
end
end PL
namespace PL
open PySem L2 PySem.Spec PyProof.Rows
section
variable {P : Program} {w : World} {K : PySem.W.Frag} {mg : Str → Option Value} {base : Heap} {k : Nat} {Z : Cx} {Pt f : Addr} {W : WX} {N : List Str} {sc : Scope} {x : Str} {p pos : Pos} {e : Expr} {es : List Expr} {ga : PL.P (List Arg)} {n m : Nat} {F : PL.P Rv}
theorem be_actL {NF : NdefX.NF} {body : Expr} {fr : List Str} {zs : List V} (B : CtxOk (fun _ : Unit => Z) P w K mg base k W N sc) (a : ActOk P w K mg base k Z Pt f NF body fr zs n m F) (hP : TabP K Pt) (hF : ∀ cs r cs', F cs = some (.ok r cs') → rvD r = true) (i : Nat) (hN : N[i]? = some x) (hv : Vis sc x)
  (hd : (x == ("__debug__" : Str)) = false) (hcd : (x == ("__classdict__" : Str)) = false) (he : starEach (e :: es) Z.env = (false, eval e Z.env) :: starEach es Z.env) (hpl : (backTo pos (starEach es Z.env)).any (·.1) = false) (ha : BAa (fun _ : Unit => Z) K W (e :: es) ga) :
  BE (fun _ : Unit => Z) K W (.Call (.Name x p) (e :: es) [] pos) (fAct f (LamO f NF body) zs n m F i ga) := by
 obtain ⟨t, pa, sa⟩ := ha
 exact ⟨_, fun _ => pe_actL (B.pP ()) (B.pw ()) (B.pK ()) (B.pm ()) (B.pb ()) a (B.room ()) (B.tk ()) (B.at_ hN ()) (B.vis hv ()) (pa ()) hd hcd he hpl, sd_act hP hF sa⟩
theorem be_actK {g : Addr} {fd : FuncData} {ps : List Str} (B : CtxOk (fun _ : Unit => Z) P w K mg base k W N sc) (hF : FnOk P w K mg base (L2.CX P w) k g fd ps (spF K n F)) (hk : PySem.W.keepIn K (.ref g) = true) (hb : Binds K fd ps []) (hrv : ∀ cs r cs', F cs = some (.ok r cs') → rvD r = true) (i : Nat) (hN : N[i]? = some x) (hv : Vis sc x)
  (hd : (x == ("__debug__" : Str)) = false) (hcd : (x == ("__classdict__" : Str)) = false) (he : starEach (e :: es) Z.env = (false, eval e Z.env) :: starEach es Z.env) (hpl : (backTo pos (starEach es Z.env)).any (·.1) = false) (ha : BAa (fun _ : Unit => Z) K W (e :: es) ga) :
  BE (fun _ : Unit => Z) K W (.Call (.Name x p) (e :: es) [] pos) (vaw g n F i ga) := by
 obtain ⟨t, pa, sa⟩ := ha
 exact ⟨_, fun _ => pe_actK (B.pP ()) (B.pw ()) (B.pK ()) (B.pm ()) (B.pb ()) hF hk hb (B.room ()) (B.tk ()) (B.at_ hN ()) (B.vis hv ()) (pa ()) hd hcd he hpl, sd_actK hrv sa⟩
end
structure NeedT (P : Program) (w : World) (K : PySem.W.Frag) (mg : Str → Option Value) (base : Heap) (kn : Nat) (x : Str) (st : Stmt) (Ng psg : List Str) (fx : List Nat) (bodyG : (PL.P (List Arg) → PL.P Rv) → PL.P Fl) : Prop where
 ex : ∃ (g : Addr) (fd : FuncData), Fun K x x st g fd ∧ mg x = some (.ref g) ∧ Binds K fd psg []
 sc : FnScope Ng psg (defScope st)
 body : ∀ (g : Addr) (cdv : Value) (A : Around) (outer : List PySem.Env) (s : Shared) (H : Hp) (E : XK), CtxOk (fun _ : Unit => cxOf (L2.CX P w) P w K mg base Ng x (defScope st) g cdv A outer s H E) P w K mg base kn (WB E) Ng (defScope st) → ∀ act : PL.P (List Arg) → PL.P Rv,
  (∀ (e : Expr) (es : List Expr) (ga : PL.P (List Arg)) (p pos : Pos), starEach (e :: es) (cxOf (L2.CX P w) P w K mg base Ng x (defScope st) g cdv A outer s H E).env = (false, eval e (cxOf (L2.CX P w) P w K mg base Ng x (defScope st) g cdv A outer s H E).env) :: starEach es (cxOf (L2.CX P w) P w K mg base Ng x (defScope st) g cdv A outer s H E).env →
   (backTo pos (starEach es (cxOf (L2.CX P w) P w K mg base Ng x (defScope st) g cdv A outer s H E).env)).any (·.1) = false → BAa (fun _ : Unit => cxOf (L2.CX P w) P w K mg base Ng x (defScope st) g cdv A outer s H E) K (WB E) (e :: es) ga →
   BE (fun _ : Unit => cxOf (L2.CX P w) P w K mg base Ng x (defScope st) g cdv A outer s H E) K (WB E) (.Call (.Name "is_right" p) (e :: es) [] pos) (act ga)) →
  BSs (fun _ : Unit => cxOf (L2.CX P w) P w K mg base Ng x (defScope st) g cdv A outer s H E) K (WB E) fx (defBody st) (bodyG act)
def wbi (j : Nat) (np : D → List D → Option (Option Exn)) (ga : PL.P (List D)) : PL.P Rv := ga.bind fun ds => fun ρ => match ρ[j]? with
 | some (.dat d) => (match np d ds with
  | some none => some (.ok (.dat (.s .non)) ρ)
  | some (some e) => some (.ex e ρ)
  | none => none)
 | _ => none
def fPart (np : List D → Option (Option Exn)) (ga : PL.P (List D)) : PL.P Rv := ga.bind fun ds => fun ρ => match np ds with
 | some none => some (.ok (.dat (.s .non)) ρ)
 | some (some e) => some (.ex e ρ)
 | none => none
def qbp (cs : List Cell) : Option Exn → Out Rv
 | none => .ok (.dat (.s .non)) cs
 | some e => .ex e cs
section
variable {K : PySem.W.Frag} {C H : Hp}
theorem EnvOk.datas {ds : List D} {vs : List V} (ec : Ex C H) (tb : ∀ P, TabP K P → TS1 H P) (h : Iss K C ds vs) : EnvOk K C H (vs.map some) (ds.map .dat) := by
 refine ⟨by simp [h.length], ec, fun i c q => ?_, fun i j m m' a q1 q2 => ?_, tb⟩
 ·rw [List.getElem?_map] at q
  cases z : ds[i]? with
  | none => rw [z] at q; cases q
  | some d =>
   rw [z] at q
   cases q
   obtain ⟨v, h1, h2⟩ := h.get z
   exact ⟨some v, by simp [h1], v, rfl, h2⟩
 ·rw [List.getElem?_map] at q1
  cases z : ds[i]? with
  | none => rw [z] at q1; cases q1
  | some d => rw [z] at q1; cases q1
theorem qbd {ds : List D} {vs : List V} {a : Addr} : ¬ kf (vs.map some) (ds.map .dat) a := fun ⟨i, m, q1, _⟩ => by
 rw [List.getElem?_map] at q1
 cases z : ds[i]? with
 | none => rw [z] at q1; cases q1
 | some d => rw [z] at q1; cases q1
theorem spF_part {n : Nat} {F : PL.P Rv} {ds : List D} {vs : List V} {r : Option Exn} {Q : VK} {E : XK} (ec : Ex C H) (tb : ∀ P, TabP K P → TS1 H P) (h : Iss K C ds vs) (hn : vs.length = n) (hF : F (ds.map .dat) = some (qbp (ds.map .dat) r))
  (hok : r = none → ∀ C' H', Step C H C' H' (fun _ => False) → Q .non H') (hex : ∀ e, r = some e → ∀ d C' H', Step C H C' H' (fun _ => False) → ExnOk K C' e d → E (.ref e.c) d H') : spF K n F vs H Q E := by
 refine ⟨hn, C, _, _, EnvOk.datas ec tb h, hF, fun rv cs' z => ?_, fun e cs' z d C' H' p q => ?_⟩
 ·cases r with
  | some e => cases z
  | none =>
   cases z
   refine ⟨rfl, fun v C' H' p q => ?_⟩
   have e1 : v = .non := is_s_iff.mp (show Is K C' (.s .non) v from q)
   rw [e1]
   exact hok rfl C' H' (p.step.weak fun a z => absurd z qbd)
 ·cases r with
  | none => cases z
  | some e2 => cases z; exact hex e rfl d C' H' (p.step.weak fun a z => absurd z qbd) q
end
def q4L (K : PySem.W.Frag) (Pt : Addr) (lpos : Pos) (mk : Addr → NdefX.NF) (body : Expr) (j : Nat) (FN : Addr → (Heap → Prop) → List V → PL.P Rv) (W : WX) (σ : Sl) (Q : VK) : List V → Hp → Prop := fun vs H4 => ∃ (f c : Addr) (H3 : Hp) (z : V), σ[j]? = some (some z) ∧ Mkd H3 Pt lpos mk body f c H4 ∧ vs.length = 4 ∧ spF K 4 (FN f (LamO f (mk c) body) [z]) vs H4 Q (WE W σ)
section
variable {P : Program} {w : World} {K : PySem.W.Frag} {mg : Str → Option Value} {base : Heap} {kl : Nat} {X0 : Cx} {c Pt : Addr} {W : WX} {N : List Str} {sc : Scope} {xg : Str} {stg : Stmt} {Ng psg fx_ : List Str} {fx : List Nat} {bodyG : (PL.P (List Arg) → PL.P Rv) → PL.P Fl}
variable {params : Arguments} {body : Expr} {scope : Scope} {lpos p pos : Pos} {Nl psl : List Str} {y0 : Str} {fe f1 f2 f3 : PL.P Rv} {e1 e2 e3 : Expr} {j : Nat}
theorem jbu (B : CtxOk (fun _ : Unit => X0) P w K mg base (kl + 1 + 1) W N sc) (hcode : X0.env.code = .ref c) (hq : X0.env.qual ++ "<lambda>" = lamQ) (hfn : ∀ x, X0.fn x = true) (TB : LamX.TabB base mg c Pt) (hP : TabP K Pt)
  (hT : NeedT P w K mg base (kl + 1) xg stg Ng psg fx bodyG) (hp4 : psg.length = 4) (h4 : 4 ≤ Ng.length) (i3 : Ng[3]? = some ("is_right" : Str)) (v3 : Vis (defScope stg) ("is_right" : Str)) (hgl : sc.names.lookup xg = some .globalImplicit) (hdb : (xg == ("__debug__" : Str)) = false)
  (S : NdefX.NScope Nl psl [y0] scope) (hl2 : psl.length = 2) (hl3 : 2 + 1 ≤ Nl.length) (hfree : ∀ y ∈ scope.names, y.2 = .free → sc.names.lookup y.1 = some .cell ∨ sc.names.lookup y.1 = some .free) (hfr : ∀ y ∈ [y0], (y, NameKind.free) ∈ scope.names) (hj : N[j]? = some y0)
  (hbind : ∀ (q : Str) (cl : List (Str × Addr)) (pm cv ctv : Value) (us : List Value), us.length = psl.length → bindArgs (PySem.W.kla_fn "<lambda>" q params body scope cl pm cv ctv) ⟨us, []⟩ = pure (psl.zip us)) (hdef : defaultsOf params X0.env = ([], []))
  (hlam : ∀ (cl : List (Str × Addr)) (c' f : Addr) (A : Around) (outer : List Env) (s : Shared) (H : Hp) (E : XK), CtxOk (fun _ : Unit => NdefX.ncx (L2.CX P w) P w K mg base Nl (lamF lamQ params scope cl c') f A outer s H E) P w K mg base kl (WB E) Nl scope →
   BE (fun _ : Unit => NdefX.ncx (L2.CX P w) P w K mg base Nl (lamF lamQ params scope cl c') f A outer s H E) K (WB E) body fe)
  (np : D → List D → Option (Option Exn)) (hnp : ∀ (f : Addr) (φ : Heap → Prop) (z : V) (d : D) (ds : List D) (r : Option Exn), np d ds = some r →
   ds.length = 3 ∧ runF fx Ng.length (bodyG (fAct f φ [z] 2 1 (runF [] Nl.length (sRet fe)) 3)) ((ds ++ [D.lam f φ [z] [d]]).map .dat) = some (qbp ((ds ++ [D.lam f φ [z] [d]]).map .dat) r))
  (h1 : BE (fun _ : Unit => X0) K W e1 f1) (h2 : BE (fun _ : Unit => X0) K W e2 f2) (h3 : BE (fun _ : Unit => X0) K W e3 f3)
  (s1 : starEach [e1, e2, e3, .Lambda params body scope lpos] X0.env = (false, eval e1 X0.env) :: starEach [e2, e3, .Lambda params body scope lpos] X0.env) (s2 : starEach [e2, e3, .Lambda params body scope lpos] X0.env = (false, eval e2 X0.env) :: starEach [e3, .Lambda params body scope lpos] X0.env)
  (s3 : starEach [e3, .Lambda params body scope lpos] X0.env = (false, eval e3 X0.env) :: starEach [.Lambda params body scope lpos] X0.env) (s4 : starEach [.Lambda params body scope lpos] X0.env = (false, eval (.Lambda params body scope lpos) X0.env) :: starEach [] X0.env) (hpl : (backTo pos (starEach [e2, e3, .Lambda params body scope lpos] X0.env)).any (·.1) = false) :
  BE (fun _ : Unit => X0) K W (.Call (.Name xg p) [e1, e2, e3, .Lambda params body scope lpos] [] pos) (wbi j np (ya f1 (ya f2 (ya f3 vNil)))) := by
 obtain ⟨t1, p1, d1⟩ := h1
 obtain ⟨t2, p2, d2⟩ := h2
 obtain ⟨t3, p3, d3⟩ := h3
 obtain ⟨g, fd, Fg, hmg, hbg⟩ := hT.ex
 obtain ⟨oc, od, kV, doc, pm, an, cdv, ct, osl, rfl, lk, hcd⟩ := Fg.ex
 have eP := B.pP (); have ew := B.pw (); have eK := B.pK (); have em := B.pm (); have eb := B.pb ()
 have en := B.nN (); have es := B.ns ()
 subst eP ew eK em eb
 refine ⟨fun σ H Q => (tCons t1 (tCons t2 (tCons t3 (tCons (tLamE Pt lpos (fun c' => lamF lamQ params scope (cloFrom X0.env.cells scope.names []) c') body) tNil)))) σ H
  (q4L X0.K Pt lpos (fun c' => lamF lamQ params scope (cloFrom X0.env.cells scope.names []) c') body j (fun f φ zs => runF fx Ng.length (bodyG (fAct f φ zs 2 1 (runF [] Nl.length (sRet fe)) 3))) W σ Q), fun _ => ⟨fun pins s σ H Q I h => ?_⟩, ?_⟩
 ·have pe4 := pe_lamE (X := X0) (body := body) (scope := scope) (lpos := lpos) TB hcode hq hdef (by rw [es]; exact hfree)
  have pa := pa_cons (p1 ()) (pa_cons (p2 ()) (pa_cons (p3 ()) (pa_cons pe4 pa_nil s4) s3) s2) s1
  refine wpAny_Call_Name_kw (ld_glob I (B.gl hgl ()) hmg ?_ hdb)
  refine PySem.W.callWith_K (h₀ := X0.base) I.ok.mod.kin Fg.kp (thn (pa.run pos pins s σ H _ I h) fun us s2 ⟨vs, H2, I2, r, f, c', H3, z, hz, m, hl, hsp⟩ => ⟨I2.kIn, ?_⟩) s1 hpl
  have hul : us.length = psg.length := by rw [← r.length, hl, hp4]
  have hbt := hbg s2 us I2.kIn (by rw [List.append_nil]; exact hul)
  rw [List.append_nil] at hbt
  have rc : codeAny (model X0.prog X0.w) X0.A (.call (.ref g) ⟨us, []⟩) (CR (L2.CX X0.prog X0.w) X0.stack X0.prog X0.w H2 s2 Q (WE W σ)) s2 := by
   refine LamX.run_ofS (N := Ng) (ps := psg) lk hcd hT.sc (B.room ()) I2.env0 hbt r (by rw [hl, hp4]) fun hr' => ?_
   have C1 : CtxOk (fun _ : Unit => cxOf (L2.CX X0.prog X0.w) X0.prog X0.w X0.K X0.mg X0.base Ng xg (defScope stg) g cdv X0.A X0.stack s2 H2 (WE W σ)) X0.prog X0.w X0.K X0.mg X0.base (kl + 1) (WB (WE W σ)) Ng (defScope stg) :=
    ⟨fun _ => rfl, fun _ => rfl, fun _ => rfl, fun _ => rfl, fun _ => rfl, fun _ => hr', fun _ => takes_of rfl rfl rfl rfl, fun _ => rfl, fun _ => passes_of rfl, fun _ => rfl, fun _ => rfl, hT.sc.nd⟩
   have hlr : LamRun X0.prog X0.w X0.K X0.mg X0.base (kl + 1) f (lamF lamQ params scope (cloFrom X0.env.cells scope.names []) c') body [y0] (spL X0.K 2 1 (runF [] Nl.length (sRet fe))) :=
    lam_ok S (fun pm ctv us h => hbind _ _ _ _ _ us h) hl2 rfl hl3 fun A outer s H E hB => hlam _ c' f A outer s H E hB
   have hfreeX : ∀ y ∈ scope.names, y.2 = .free → X0.env.scope.names.lookup y.1 = some .cell ∨ X0.env.scope.names.lookup y.1 = some .free := by rw [es]; exact hfree
   have caps : NdefX.Caps X0 (cloFrom X0.env.cells scope.names []) [y0] [j] := NdefX.Caps.made I2.ok hfreeX hfr (by rw [List.map_cons, List.map_nil, en, hj]; rfl)
   have hcells := NdefX.cells_of I2 caps
   have hz2 : [j].map (NdefX.slotAt σ) = ([z] : List V).map some := by rw [List.map_cons, List.map_nil, NdefX.slotAt_of hz]; rfl
   rw [hz2] at hcells
   have act : ActOk X0.prog X0.w X0.K X0.mg X0.base (kl + 1) (cxOf (L2.CX X0.prog X0.w) X0.prog X0.w X0.K X0.mg X0.base Ng xg (defScope stg) g cdv X0.A X0.stack s2 H2 (WE W σ)) Pt f (lamF lamQ params scope (cloFrom X0.env.cells scope.names []) c') body [y0] [z] 2 1 (runF [] Nl.length (sRet fe)) := by
    refine ⟨hlr, ⟨lpos, m.told⟩, fun y a ha hb => ?_, hcells, rfl, rfl⟩
    have ha2 := caps.sub y a ha
    obtain ⟨v, o, ho, hd⟩ := I2.cell y a ha2
    rcases List.mem_cons.mp (I2.stkSub a hb) with e | e
    ·obtain ⟨mm, ⟨o2, es2, ep2, k1, k2, _⟩, _⟩ := I2.loc
     rw [← e, ho] at k1
     cases k1
     rw [hd] at k2; cases k2
    ·obtain ⟨_, o3, k1, _⟩ := I2.ok.funs.mem e
     have := I2.ok.cab y a (hfn y) ha2
     exact absurd (Heap.lt_size k1) (Nat.not_lt.mpr this)
   obtain ⟨t, ht, hs⟩ := hT.body g cdv X0.A X0.stack s2 H2 (WE W σ) C1 (fAct f (LamO f (lamF lamQ params scope (cloFrom X0.env.cells scope.names []) c') body) [z] 2 1 (runF [] Nl.length (sRet fe)) 3)
    fun e es ga p pos he hpl ha => be_actL C1 act hP (fun cs r cs' => zbo cs r cs') 3 i3 v3 (by decide) (by decide) he hpl ha
   exact ⟨t, ht (), wb2 hs h4 hsp⟩
  refine wpAny_call (codeAny_mono rc fun r s' hq => ?_)
  cases r with
  | error e => exact passAt (B.tk ()) σ pins H2 s2 e s' I2 hq
  | ok fl =>
   cases fl with
   | ret u => exact I2.after hq
   | next => exact False.elim hq
   | brk => exact False.elim hq
   | cont => exact False.elim hq
 ·intro σ C H ρ e
  have hg := yak d1 (yak d2 (yak d3 (sg_nil (K := X0.K) (W := W))))
  show At X0.K W (VRel X0.K H) σ C H ρ (fun H Q => tCons t1 (tCons t2 (tCons t3 tNil)) σ H fun vs H3 => TS1 H3 Pt ∧ ∀ (f c : Addr) (H4 : Hp), Mkd H3 Pt lpos (fun c' => lamF lamQ params scope (cloFrom X0.env.cells scope.names []) c') body f c H4 →
   q4L X0.K Pt lpos (fun c' => lamF lamQ params scope (cloFrom X0.env.cells scope.names []) c') body j (fun f φ zs => runF fx Ng.length (bodyG (fAct f φ zs 2 1 (runF [] Nl.length (sRet fe)) 3))) W σ Q (vs ++ [.ref f]) H4) (yg (ya f1 (ya f2 (ya f3 vNil)) ρ) _)
  refine At.bind (tk := fun (vs : List V) (H3 : Hp) (Q : VK) => TS1 H3 Pt ∧ ∀ (f c : Addr) (H4 : Hp), Mkd H3 Pt lpos (fun c' => lamF lamQ params scope (cloFrom X0.env.cells scope.names []) c') body f c H4 →
   q4L X0.K Pt lpos (fun c' => lamF lamQ params scope (cloFrom X0.env.cells scope.names []) c') body j (fun f φ zs => runF fx Ng.length (bodyG (fAct f φ zs 2 1 (runF [] Nl.length (sRet fe)) 3))) W σ Q (vs ++ [.ref f]) H4) (hg σ C H ρ e) fun ds ρ1 vs C1 H3 q1 r1 => ?_
  have r1 : Iss X0.K C1 ds vs := r1
  cases z1 : ρ1[j]? with
  | none => exact At.nil
  | some cc =>
   obtain ⟨v, hv, ok⟩ := q1.env.cell j cc z1
   cases cc with
   | no => exact At.nil
   | own m => exact At.nil
   | dat d =>
    obtain ⟨z, rfl, hz⟩ := ok
    dsimp only
    intro out Q ho hok hex
    cases q2 : np d ds with
    | none => rw [q2] at ho; cases ho
    | some r =>
     rw [q2] at ho
     refine ⟨q1.env.tab Pt hP, fun f c' H4 m => ?_⟩
     have n1 : C1 f = none := q1.env.ext.none m.new
     have st : Step C1 H3 (upd C1 f (.ext (LamO f (lamF lamQ params scope (cloFrom X0.env.cells scope.names []) c') body))) H4 (fun _ => False) := by
      refine ⟨Ex.new n1, ⟨fun b o hb nt => ?_, fun b hb => ?_⟩, fun b o hb nt _ => m.ex.1 b o hb nt, fun b h1 h2 => ?_, m.ex.2, m.tabs⟩
      ·by_cases e : b = f
       ·subst e; rw [upd_same] at hb; cases hb; exact m.fn
       ·rw [upd_ne e] at hb; exact m.ex.1 b o (q1.env.ext.1 b o hb nt) nt
      ·by_cases e : b = f
       ·subst e; rw [m.fn] at hb; cases hb
       ·rw [upd_ne e]; exact q1.env.ext.2 b (m.ex.2 b hb)
      ·by_cases e : b = f
       ·exact .inl (by rw [e]; exact m.new)
       ·rw [upd_ne e] at h2; exact absurd h1 h2
     have e4 := q1.env.step st
     have iss4 : Iss X0.K (upd C1 f (.ext (LamO f (lamF lamQ params scope (cloFrom X0.env.cells scope.names []) c') body))) (ds ++ [D.lam f (LamO f (lamF lamQ params scope (cloFrom X0.env.cells scope.names []) c') body) [z] [d]]) (vs ++ [.ref f]) :=
      (Iss.mono st.core _ _ r1).app (ze (is_lam_iff.mpr ⟨rfl, upd_same, ze (Is.mono st.core _ _ hz) jg⟩) jg)
     have hl : (vs ++ [V.ref f]).length = 4 := by
      have hh := hnp f (LamO f (lamF lamQ params scope (cloFrom X0.env.cells scope.names []) c') body) z d ds r q2
      rw [List.length_append, r1.length, hh.1]; rfl
     refine ⟨f, c', H3, z, hv, m, hl, spF_part e4.ext e4.tab iss4 hl (hnp _ _ _ _ _ _ q2).2 (fun hr C' H' s' => ?_) fun ee hr dd C' H' s' k => ?_⟩
     ·subst hr
      cases ho
      exact hok _ _ rfl .non C' H' (Post.of_step q1.env (st.trans s' fun _ z => z.elim)) (show Is X0.K C' (.s .non) .non from is_s)
     ·subst hr
      cases ho
      exact hex ee _ rfl dd C' H' (Post.of_step q1.env (st.trans s' fun _ z => z.elim)) k
end
end PL
namespace PL
open PySem L2 PySem.Spec PyProof.Rows
section
variable {ι : Type} {X : ι → Cx} {P : Program} {w : World} {K : PySem.W.Frag} {mg : Str → Option Value} {base : Heap} {kn : Nat} {W : WX} {N : List Str} {sc : Scope} {xg xk : Str} {stg : Stmt} {Ng psg : List Str} {fx : List Nat} {bodyG : (PL.P (List Arg) → PL.P Rv) → PL.P Fl}
variable {p p2 pos : Pos} {f1 f2 f3 Fk : PL.P Rv} {e1 e2 e3 : Expr}
theorem be_needK (B : CtxOk X P w K mg base (kn + 1) W N sc) (hT : NeedT P w K mg base kn xg stg Ng psg fx bodyG) (hp4 : psg.length = 4) (h4 : 4 ≤ Ng.length) (i3 : Ng[3]? = some ("is_right" : Str)) (v3 : Vis (defScope stg) ("is_right" : Str)) (hK : xv P w K mg base kn xk 2 Fk)
  (np : List D → Option (Option Exn)) (hnp : ∀ (g : Addr) (ds : List D) (r : Option Exn), np ds = some r → ds.length = 3 ∧ runF fx Ng.length (bodyG (vaw g 2 Fk 3)) ((ds ++ [D.s (.ref g)]).map .dat) = some (qbp ((ds ++ [D.s (.ref g)]).map .dat) r))
  (h1 : BE X K W e1 f1) (h2 : BE X K W e2 f2) (h3 : BE X K W e3 f3)
  (hgl : sc.names.lookup xg = some .globalImplicit := by rfl) (hdb : (xg == ("__debug__" : Str)) = false := by decide) (hgk : sc.names.lookup xk = some .globalImplicit := by rfl) (hdk : (xk == ("__debug__" : Str)) = false := by decide)
  (s1 : ∀ i, starEach [e1, e2, e3, .Name xk p2] (X i).env = (false, eval e1 (X i).env) :: starEach [e2, e3, .Name xk p2] (X i).env := by intro _; rfl) (s2 : ∀ i, starEach [e2, e3, .Name xk p2] (X i).env = (false, eval e2 (X i).env) :: starEach [e3, .Name xk p2] (X i).env := by intro _; rfl)
  (s3 : ∀ i, starEach [e3, .Name xk p2] (X i).env = (false, eval e3 (X i).env) :: starEach [.Name xk p2] (X i).env := by intro _; rfl) (s4 : ∀ i, starEach [.Name xk p2] (X i).env = (false, eval (.Name xk p2) (X i).env) :: starEach [] (X i).env := by intro _; rfl) (hpl : ∀ i, (backTo pos (starEach [e2, e3, .Name xk p2] (X i).env)).any (·.1) = false := by intro _; rfl) :
  BE X K W (.Call (.Name xg p) [e1, e2, e3, .Name xk p2] [] pos) (fPart np (ya f1 (ya f2 (ya f3 vNil)))) := by
 obtain ⟨t1, p1, d1⟩ := h1
 obtain ⟨t2, p2', d2⟩ := h2
 obtain ⟨t3, p3, d3⟩ := h3
 obtain ⟨g, fd, Fg, hmg, hbg⟩ := hT.ex
 obtain ⟨gk, fdk, psk, k1, k2, k3, k4⟩ := hK.ex
 have fn : FnOk P w K mg base (L2.CX P w) (kn + 1) g fd psg (spF K 4 (runF fx Ng.length (bodyG (vaw gk 2 Fk 3)))) :=
  def_fn Fg hT.sc hp4 h4 fun cdv A outer s H E C1 => hT.body g cdv A outer s H E C1 (vaw gk 2 Fk 3) fun e es ga p pos he hpl ha => be_actK C1 k1 k3 k4 hK.rv 3 i3 v3 (by decide) (by decide) he hpl ha
 have hg4 : ∀ i, PE (X i) (.Name xk p2) (tC (.ref gk)) := fun i => pe_glob (B.gl hgk i) (by rw [B.pm i]; exact k2) (show RelV (.ref gk) (.ref gk) from rfl) hdk
 refine ⟨_, fun i => pe_callE (B.pP i) (B.pw i) (B.pK i) (B.pm i) (B.pb i) (B.tk i) fn (B.room i) (B.gl hgl i) hmg Fg.kp hbg (pa_cons (p1 i) (pa_cons (p2' i) (pa_cons (p3 i) (pa_cons (hg4 i) pa_nil (s4 i)) (s3 i)) (s2 i)) (s1 i)) hdb (s1 i) (hpl i), ?_⟩
 intro σ C H ρ e
 have hg := yak d1 (yak d2 (yak d3 (sg_nil (K := K) (W := W))))
 show At K W (VRel K H) σ C H ρ (fun H Q => tCons t1 (tCons t2 (tCons t3 tNil)) σ H fun vs H3 => spF K 4 (runF fx Ng.length (bodyG (vaw gk 2 Fk 3))) (vs ++ [.ref gk]) H3 Q (WE W σ)) (yg (ya f1 (ya f2 (ya f3 vNil)) ρ) _)
 refine At.bind (tk := fun (vs : List V) (H3 : Hp) (Q : VK) => spF K 4 (runF fx Ng.length (bodyG (vaw gk 2 Fk 3))) (vs ++ [.ref gk]) H3 Q (WE W σ)) (hg σ C H ρ e) fun ds ρ1 vs C1 H3 q1 r1 => ?_
 have r1 : Iss K C1 ds vs := r1
 intro out Q ho hok hex
 cases q2 : np ds with
 | none => rw [q2] at ho; cases ho
 | some r =>
  rw [q2] at ho
  have hh := hnp gk ds r q2
  have iss4 : Iss K C1 (ds ++ [D.s (.ref gk)]) (vs ++ [.ref gk]) := r1.app (ze is_s jg)
  refine spF_part q1.env.ext q1.env.tab iss4 (by rw [List.length_append, r1.length, hh.1]; rfl) hh.2 (fun hr C' H' s' => ?_) fun ee hr dd C' H' s' k => ?_
  ·subst hr
   cases ho
   exact hok _ _ rfl .non C' H' (Post.of_step q1.env s') (show Is K C' (.s .non) .non from is_s)
  ·subst hr
   cases ho
   exact hex ee _ rfl dd C' H' (Post.of_step q1.env s') k
end
section
variable {ι : Type} {X : ι → Cx} {P : Program} {w : World} {K : PySem.W.Frag} {mg : Str → Option Value} {base : Heap} {k : Nat} {W : WX} {N : List Str} {sc : Scope} {x : Str} {pos : Pos}
theorem be_globD {d : D} (B : CtxOk X P w K mg base k W N sc) (h : ∃ (v : V) (u : Value), mg x = some u ∧ RelV v u ∧ ∀ C, Is K C d v) (hg : sc.names.lookup x = some .globalImplicit := by rfl) (hd : (x == ("__debug__" : Str)) = false := by decide) : BE X K W (.Name x pos) (fC d) := by
 obtain ⟨v, u, hm, r, hI⟩ := h
 exact ⟨_, fun i => pe_glob (B.gl hg i) (by rw [B.pm i]; exact hm) r hd, fun σ C H ρ e => At.ret (R := VRel K H) e (hI C)⟩
theorem tup_strs {a : Addr} {ys : List Str} (h : ∃ (o : Obj) (its : Array Value) (n : Nat), K.lookup a = some o ∧ o.cls = .type "tuple" ∧ o.dict = none ∧ o.data = .seq its n ∧ its.size ≤ sizeLine ∧ Vals (ys.map V.str) its.toList) (C : Hp) : Is K C (.tup (ys.map fun y => .s (.str y))) (.ref a) := by
 refine vbi (xs := ys.map V.str) (.inr h) ?_
 clear h
 induction ys with
 | nil => exact jg
 | cons y ys ih => exact ze is_s ih
end
def npGo (G : D → List D → Option Bool) (most : Int) (ds : List D) : Nat → Option Bool
 | 0 => some true
 | n + 1 => match npGo G most ds n with
  | some true => if (n : Int) = most then none else (match ds[n]? with
   | some d => (match G d (ds.take n) with
    | some true => some true
    | _ => none)
   | none => none)
  | _ => none
def ybg (F : P Rv) (cs : List Cell) : Option Bool := match F cs with
 | some (.ok (.dat (.s (.bl b))) cs') => some b
 | _ => none
def npOk (G : D → List D → Option Bool) : List D → Option (Option Exn)
 | [.s (.str _), .tup ds, .s (.int most)] => (match npGo G most ds ds.length with
  | some true => some none
  | _ => none)
 | _ => none
theorem yby {G : D → List D → Option Bool} {most : Int} {ds : List D} {n : Nat} (h : npGo G most ds n = some true) : ∀ i d, i < n → ds[i]? = some d → (i : Int) ≠ most ∧ G d (ds.take i) = some true := by
 induction n with
 | zero => intro i d hi; omega
 | succ n ih =>
  intro i d hi hd
  unfold npGo at h
  cases q : npGo G most ds n with
  | none => rw [q] at h; cases h
  | some b =>
   cases b with
   | false => rw [q] at h; cases h
   | true =>
    rw [q] at h
    dsimp only at h
    by_cases e : (n : Int) = most
    ·rw [if_pos e] at h; cases h
    ·rw [if_neg e] at h
     by_cases hin : i < n
     ·exact ih q i d hin hd
     ·have : i = n := by omega
      subst this
      rw [hd] at h
      dsimp only at h
      refine ⟨e, ?_⟩
      cases q2 : G d (ds.take i) with
      | none => rw [q2] at h; cases h
      | some b => cases b with
       | false => rw [q2] at h; cases h
       | true => rfl
section
variable {QR : Rv → En → Prop} {E : Exn → En → Prop} {ρ : En}
theorem wp_part {np : List D → Option (Option Exn)} {ga : P (List D)} : wp (fPart np ga) QR E ρ ↔ wp ga (fun ds r => wpO (np ds) fun o => match o with | none => QR (.dat (.s .non)) r | some e => E e r) E ρ := by
 unfold fPart
 rw [wp_bind]
 refine kh fun ds r => ?_
 unfold wp wpO
 dsimp only
 cases np ds with
 | none => exact Iff.rfl
 | some o => cases o <;> exact Iff.rfl
theorem wp_partL {j : Nat} {np : D → List D → Option (Option Exn)} {ga : P (List D)} : wp (wbi j np ga) QR E ρ ↔ wp ga (fun ds r => atS r j (datQ fun d => wpO (np d ds) fun o => match o with | none => QR (.dat (.s .non)) r | some e => E e r)) E ρ := by
 unfold wbi
 rw [wp_bind]
 refine kh fun ds r => ?_
 unfold wp wpO atS
 dsimp only
 cases r[j]? with
 | none => exact Iff.rfl
 | some c =>
  cases c with
  | no => exact Iff.rfl
  | own m => exact Iff.rfl
  | dat d =>
   simp only [datQ]
   cases np d ds with
   | none => exact Iff.rfl
   | some o => cases o <;> exact Iff.rfl
theorem wp_actK {g i n : Nat} {F : P Rv} {ga : P (List Arg)} : wp (vaw g n F i ga) QR E ρ ↔ atS ρ i (datQ fun d => d = .s (.ref g) ∧ wp ga (fun as r => wp (wq n F as) QR E r) E ρ) := by
 unfold vaw
 unfold atS
 cases q : ρ[i]? with
 | none => unfold wp; simp only [q]
 | some c =>
  cases c with
  | no => unfold wp; simp only [q, datQ]
  | own m => unfold wp; simp only [q, datQ]
  | dat d =>
   simp only [datQ]
   rw [← wp_bind]
   cases d with
   | s x =>
    cases x with
    | ref a =>
     by_cases h : a = g
     ·subst h
      have : wp (fun ρ0 => match ρ0[i]? with
       | some (.dat (.s (.ref f0))) => if f0 = a then (ga.bind (wq n F)) ρ0 else none
       | _ => none) QR E ρ ↔ wp (ga.bind (wq n F)) QR E ρ := by unfold wp; simp only [q, if_true]
      exact this.trans ⟨fun z => ⟨rfl, z⟩, fun z => z.2⟩
     ·have : ¬ (D.s (.ref a) = D.s (.ref g)) := fun z => h (by cases z; rfl)
      unfold wp; simp only [q, if_neg h]
      exact ⟨fun z => z.elim, fun z => this z.1⟩
    | _ => unfold wp; simp only [q]; exact ⟨fun z => z.elim, fun z => by cases z.1⟩
   | _ => unfold wp; simp only [q]; exact ⟨fun z => z.elim, fun z => by cases z.1⟩
theorem wp_act {f : Addr} {φ : Heap → Prop} {zs : List V} {i n m : Nat} {F : P Rv} {ga : P (List Arg)} {ks : List D} (hi : ρ[i]? = some (.dat (.lam f φ zs ks))) (hm : ks.length = m) : wp (fAct f φ zs n m F i ga) QR E ρ ↔ wp ga (fun as r => as.length = n ∧ wp (wq (n + m) F (as ++ ks.map .inl)) QR E r) E ρ := by
 have e : wp (fAct f φ zs n m F i ga) QR E ρ ↔ wp (ga.bind fun as => if as.length = n then wq (n + m) F (as ++ ks.map .inl) else PL.P.fail) QR E ρ := by
  unfold wp fAct; simp only [hi, hm, and_self, if_true]
 rw [e, wp_bind]
 refine kh fun as r => ?_
 by_cases h : as.length = n
 ·rw [if_pos h]; exact ⟨fun q => ⟨h, q⟩, fun q => q.2⟩
 ·rw [if_neg h]; exact ⟨fun q => q.elim, fun q => h q.1⟩
end
end PL
namespace PL
open PySem L2 PySem.Spec PyProof.Rows
structure FunC (K : PySem.W.Frag) (x qual : Str) (st : Stmt) (f : Addr) (fd : FuncData) (c : Addr) : Prop where
 ex : ∃ (oc : Value) (od : Option Addr) (kV doc pm : Value) (an : Option Addr) (ct : Value) (osl : Array (Option Value)),
  fd = PySem.W.fnOf x qual (defArgs st) (defBody st) (defScope st) .none kV doc pm an (.ref c) ct ∧ K.lookup f = some ⟨oc, od, .func fd, osl⟩ ∧ PySem.W.codeIn K (.ref c) qual = true
theorem make_okC {P : Program} {w : World} {K : PySem.W.Frag} {mg : Str → Option Value} {base : Heap} {k : Nat} {m x qual : Str} {fx : List Nat} {NN ps : List Str} {n : Nat} {st : Stmt} {f c : Addr} {fd : FuncData} {body : PL.P Fl} {C : Addr} (F : FunC K m qual st f fd c) (M : Mk K C f) (hm : mg x = some (.ref C)) (hb : Binds K fd ps []) (S : FnScope NN ps (defScope st)) (hn : ps.length = n + 1) (hN : n + 1 ≤ NN.length)
  (hbody : ∀ (A : Around) (outer : List PySem.Env) (s : Shared) (H : Hp) (E : XK), CtxOk (fun _ : Unit => cxOf (L2.CX P w) P w K mg base NN qual (defScope st) f (.ref c) A outer s H E) P w K mg base k (WB E) NN (defScope st) →
   BSs (fun _ : Unit => cxOf (L2.CX P w) P w K mg base NN qual (defScope st) f (.ref c) A outer s H E) K (WB E) fx (defBody st) body) : qa1 P w K mg base (k + 1) x n C (runF fx NN.length body) := by
 obtain ⟨oc, od, kV, doc, pm, an, ct, osl, rfl, lk, hcd⟩ := F.ex
 refine ⟨⟨f, _, ps, fn_of lk hcd S (fun vs H Q E h => by rw [hn]; exact h.1) fun A outer s H vs Q E hr hsp => ?_, M, hm, hb⟩⟩
 obtain ⟨t, h1, h2⟩ := hbody A outer s H E ⟨fun _ => rfl, fun _ => rfl, fun _ => rfl, fun _ => rfl, fun _ => rfl, fun _ => hr, fun _ => takes_of rfl rfl rfl rfl, fun _ => rfl, fun _ => passes_of rfl, fun _ => rfl, fun _ => rfl, S.nd⟩
 exact ⟨t, h1 (), wb2 h2 hN hsp⟩
structure MethAtC (K : PySem.W.Frag) (C : Addr) (m qual : Str) (st : Stmt) (f c : Addr) : Prop where
 at_ : PySem.W.findIn K (.ref C) m = some (some (.ref f))
 isf : PySem.W.isFn K (.ref f) = true
 kp : PySem.W.keepIn K (.ref f) = true
 ex : ∃ (oc : Value) (od : Option Addr) (dc pm : Value) (an : Option Addr) (ct : Value) (sl : Array (Option Value)) (kV : Value), K.lookup f = some ⟨oc, od, .func (PySem.W.fnOf m qual (defArgs st) (defBody st) (defScope st) .none kV dc pm an (.ref c) ct), sl⟩ ∧ PySem.W.codeIn K (.ref c) qual = true
theorem MethAtC.of {K : PySem.W.Frag} {C c0 : Addr} {m qual : Str} {st : Stmt} {f : Addr} {oc : Value} {od : Option Addr} {dc pm : Value} {an : Option Addr} {ct : Value} {sl : Array (Option Value)} {kV : Value} (a : PySem.W.findIn K (.ref C) m = some (some (.ref f))) (l : K.lookup f = some ⟨oc, od, .func (PySem.W.fnOf m qual (defArgs st) (defBody st) (defScope st) .none kV dc pm an (.ref c0) ct), sl⟩) (c : PySem.W.codeIn K (.ref c0) qual = true) (k : PySem.W.keepIn K (.ref f) = true) (i : PySem.W.isFn K (.ref f) = true) : MethAtC K C m qual st f c0 :=
 ⟨a, i, k, _, _, _, _, _, _, _, _, l, c⟩
theorem MethAtC.fnC {K : PySem.W.Frag} {C c : Addr} {m q : Str} {st : Stmt} {f : Addr} (a : MethAtC K C m q st f c) : ∃ fd, FunC K m q st f fd c ∧ Fun K m q st f fd := by
 obtain ⟨oc, od, dc, pm, an, ct, sl, kV, l, h⟩ := a.ex
 exact ⟨_, ⟨⟨oc, od, kV, dc, pm, an, ct, sl, rfl, l, h⟩⟩, fun_mk l h a.kp⟩
theorem MethAtC.mkOk {K : PySem.W.Frag} {C c : Addr} {q : Str} {st : Stmt} {f : Addr} (a : MethAtC K C "__init__" q st f c) (h : PySem.W.makesIn K C = true) (k : PySem.W.keepIn K (.ref C) = true) : Mk K C f := ⟨h, a.at_, a.isf, k⟩
theorem MethAtC.tabP {K : PySem.W.Frag} {C c Pt : Addr} {q : Str} {st : Stmt} {f : Addr} (a : MethAtC K C "__init__" q st f c) (g : PySem.W.nsIn K mainGlobals "Table" = some (some (.ref C))) (h : PySem.W.codeHdIn K c Pt = true) : TabP K Pt := by
 obtain ⟨oc, od, dc, pm, an, ct, sl, kV, l, _⟩ := a.ex
 exact ⟨C, f, _, _, c, g, a.at_, l, rfl, rfl, h⟩
theorem MethAtC.tab_only {K : PySem.W.Frag} {C c Pt P : Addr} {q : Str} {st : Stmt} {f : Addr} (a : MethAtC K C "__init__" q st f c) (g : PySem.W.nsIn K mainGlobals "Table" = some (some (.ref C))) (h : PySem.W.codeHdIn K c Pt = true) (hP : TabP K P) : P = Pt := by
 obtain ⟨C', f', o, fd, c', g1, g2, g3, g4, g5, g6⟩ := hP
 obtain ⟨oc, od, dc, pm, an, ct, sl, kV, l, _⟩ := a.ex
 rw [g] at g1; cases g1
 rw [a.at_] at g2; cases g2
 rw [l] at g3; cases g3
 cases g4
 cases g5
 unfold PySem.W.codeHdIn at h g6
 split at h
 ·rename_i vs _ hk
  rw [hk] at g6
  simp only [Bool.and_eq_true] at h g6
  obtain ⟨⟨⟨⟨⟨e1, _⟩, _⟩, _⟩, _⟩, _⟩ := h
  obtain ⟨⟨⟨⟨⟨e2, _⟩, _⟩, _⟩, _⟩, _⟩ := g6
  split at e1
  ·rename_i P1 z1
   split at e2
   ·rename_i P2 z2
    rw [z1] at z2
    cases z2
    exact (beq_iff_eq.mp e2).symm.trans (beq_iff_eq.mp e1)
   ·cases e2
  ·cases e1
 ·cases h
end PL
set_option maxHeartbeats 2000000
namespace PySem
open Sem (wp)
open AutoSeq1 (wpAny_loadPart')
theorem xb6 (l : Addr) (items : Array Value) (n : Nat) (dct : Option Addr) (sl : Array (Option Value)) : Meets (Builtin.«enumerate.__new__» ⟨[.type "enumerate", .ref l], []⟩)
  (fun _ R s => s.heap.get? l = some { cls := .type "tuple", dict := dct, data := .seq items n, slots := sl } ∧ R (.ok (.ret (.ref (s.heap.push { cls := .type "tuple_iterator", data := .fields #[.ref l, .int 0 0] }).objs.size)))
   { s with heap := (s.heap.push { cls := .type "tuple_iterator", data := .fields #[.ref l, .int 0 0] }).push { cls := .type "enumerate", data := .fields #[.none, .bool false, .ref s.heap.objs.size, rawInt 0, .none, .none] } }) :=
 .of_wp fun prog w A R s q => by
  obtain ⟨hp, g, d, tk, os⟩ := s
  obtain ⟨h1, q⟩ := q
  have hs := sub_enumerate
  have hT : Heap.IsTuple (Shared.heap ⟨hp, g, d, tk, os⟩) l items := ⟨_, h1, rfl, n, rfl⟩
  wp_walk using wpAny_loadPart' h1
  refine wpAny_stack_any fun st => wpAny_pure ?_
  split
  ·rename_i c _ _ _ _ _
   cases (c == Value.type "enumerate") <;> (wp_walk using wpAny_loadPart' h1, wpAny_pyIter_tuple hT; exact ⟨_, rfl, q⟩)
  ·wp_walk using wpAny_loadPart' h1, wpAny_pyIter_tuple hT
   exact ⟨_, rfl, q⟩
theorem call_enumT {prog : Program} {w : World} {A : Around} {E : Value → Shared → Prop} {s : Shared} {l : Addr} {items : Array Value} {Q : Value → Shared → Prop} (hT : s.heap.IsTuple l items)
  (h : ∀ h', IsEnum h' (s.heap.objs.size + 1) s.heap.objs.size 0 .none → h'.IsTupleIter s.heap.objs.size l 0 → (∀ b o, s.heap.get? b = some o → h'.get? b = some o) → Q (.ref (s.heap.objs.size + 1)) { s with heap := h' }) :
  wpAny (model prog w) A (call (.type "enumerate") [.ref l]) Q E s := by
 obtain ⟨⟨c, dct, dt, sl⟩, hl, hc, n, hd⟩ := hT
 have hc : c = .type "tuple" := hc
 have hd : dt = .seq items n := hd
 subst hc hd
 refine callType_new F.called_enumerate (by decide) (F.typeCall_enumerate_1 _) (F.newCall_enumerate_1 _) (fun obj => F.args_object_init_2 obj _) F.entry_enumerate_new (xb6 l items n dct sl) ⟨hl, ?_⟩
 have hz : (s.heap.push { cls := .type "tuple_iterator", data := .fields #[.ref l, .int 0 0] }).objs.size = s.heap.objs.size + 1 := Heap.size_push ..
 show _ ∧ _
 rw [hz]
 have he : IsEnum ((s.heap.push { cls := .type "tuple_iterator", data := .fields #[.ref l, .int 0 0] }).push { cls := .type "enumerate", data := .fields #[.none, .bool false, .ref s.heap.objs.size, rawInt 0, .none, .none] }) (s.heap.objs.size + 1) s.heap.objs.size 0 .none := by
  have q := Heap.get?_push_size (s.heap.push { cls := .type "tuple_iterator", data := .fields #[.ref l, .int 0 0] }) (o := { cls := .type "enumerate", data := .fields #[.none, .bool false, .ref s.heap.objs.size, rawInt 0, .none, .none] }) rfl
  rw [hz] at q
  exact q
 exact ⟨⟨_, he, rfl⟩, h _ he ⟨_, Heap.get?_push_of_some _ (Heap.get?_push_size _ rfl), rfl, rfl⟩ fun b o x => Heap.get?_push_of_some _ (Heap.get?_push_of_some _ x)⟩
end PySem
namespace PL
open PySem L2 PySem.Spec PyProof.Rows
def iEnumX (K : PySem.W.Frag) (ta : TA) : TI := fun σ H R => ta σ H fun vs H1 => (∃ a xs, vs = [.ref a] ∧ SqL K H1 a xs ∧ R (IteP true K a) H1) ∨ ∃ a xs, vs = [.ref a] ∧ SqT K H1 a xs ∧ R (IteP false K a) H1
theorem pi_enumX {X : Cx} {e : Expr} {ta : TA} {p pos tpos : Pos} {elts : List Expr} {kk : Nat} (hg : Gl X "enumerate") (hm : X.mg "enumerate" = none) (ha : PA X [e] ta) (hs : starEach [e] X.env = [(false, eval e X.env)]) : PI X (.Tuple elts kk tpos) (.Call (.Name "enumerate" p) [e] [] pos) (iEnumX X.K ta) := by
 refine ⟨fun pins s σ H R I h => ?_⟩
 refine Call_ (ld_blt I hg hm boot_enumerate (PyProof.Rows.callWith_type1 (thn (ha.run pos pins s σ H _ I h) fun us s1 ⟨vs, H1, I1, r1, q1⟩ => ?_) hs rfl))
 have fr : ∀ b, b ∈ [s1.heap.objs.size + 1, s1.heap.objs.size] → FpOk X pins H1 b := fun b hb => by
  have hle : s1.heap.objs.size ≤ b := by
   have z : b = s1.heap.objs.size + 1 ∨ b = s1.heap.objs.size := by simpa using hb
   rcases z with z | z <;> subst z <;> omega
  exact I1.fpOk hle (I1.hok.fresh hle)
 rcases q1 with ⟨a, xs, rfl, hq, q⟩ | ⟨a, xs, rfl, hq, q⟩
 ·cases r1 with
  | cons r rr =>
   cases rr
   cases r
   obtain ⟨its, rv, p', hz⟩ := I1.list hq
   refine call_enumerate_list p'.isList fun h' he hit hsz hk => wpAny_pyIter_enum he ?_
   have I2 : Inv X pins σ H1 { s1 with heap := h' } := I1.kept (t' := s1.toks) hk
   exact ⟨s1.heap.objs.size + 1, [s1.heap.objs.size + 1, s1.heap.objs.size], _, _, H1, rfl, I2, jbh true a (s1.heap.objs.size + 1) s1.heap.objs.size, ⟨⟨.none, he⟩, hit, Nat.succ_ne_self _, Nat.ne_of_lt p'.lt, Nat.ne_of_gt (Nat.lt_succ_of_lt p'.lt)⟩, fr, q⟩
 ·cases r1 with
  | cons r rr =>
   cases rr
   cases r
   obtain ⟨its, rv, p', hz⟩ := I1.tuple hq
   have hal : a < s1.heap.objs.size := by obtain ⟨o, ho, _⟩ := id p'; exact Heap.lt_size ho
   refine PySem.call_enumT (show s1.heap.IsTuple a its.toArray from p') fun h' he hit hk => wpAny_pyIter_enum he ?_
   have I2 : Inv X pins σ H1 { s1 with heap := h' } := I1.kept (t' := s1.toks) hk
   exact ⟨s1.heap.objs.size + 1, [s1.heap.objs.size + 1, s1.heap.objs.size], _, _, H1, rfl, I2, jbh false a (s1.heap.objs.size + 1) s1.heap.objs.size, ⟨⟨.none, he⟩, hit, Nat.succ_ne_self _, Nat.ne_of_lt hal, Nat.ne_of_gt (Nat.lt_succ_of_lt hal)⟩, fr, q⟩
def vb0 (g : P (List D)) : P (List D) := g.bind fun ds => match ds with
 | [.lst es] => P.ret (jf 0 es)
 | [.ro es] => P.ret (jf 0 es)
 | [.tup es] => P.ret (jf 0 es)
 | _ => P.fail
section
variable {K : PySem.W.Frag} {W : WX}
theorem enum_get : ∀ {es : List D} {i k : Nat} {d : D}, (jf k es)[i]? = some d → ∃ x, es[i]? = some x ∧ d = .tup [.s (.int ((k + i : Nat) : Int)), x] := by
 intro es
 induction es with
 | nil => intro i k d h; simp [jf] at h
 | cons e es ih =>
  intro i k d h
  cases i with
  | zero => simp [jf] at h; exact ⟨e, rfl, by rw [← h]; rfl⟩
  | succ i =>
   simp [jf] at h
   obtain ⟨x, h1, h2⟩ := ih h
   exact ⟨x, by simpa using h1, by rw [h2, show k + 1 + i = k + (i + 1) by omega]⟩
theorem sd_enumX {t : TA} {g : PL.P (List D)} (hf : Sd K W (xah K) t g) : Sd K W (wa1 K) (iEnumX K t) (vb0 g) := by
 intro σ C H ρ e
 show At K W (wa1 K H) σ C H ρ (fun H R => t σ H fun vs H1 => (∃ a xs, vs = [.ref a] ∧ SqL K H1 a xs ∧ R (IteP true K a) H1) ∨ ∃ a xs, vs = [.ref a] ∧ SqT K H1 a xs ∧ R (IteP false K a) H1) (yg (g ρ) fun ds => match ds with
  | [.lst es] => P.ret (jf 0 es)
  | [.ro es] => P.ret (jf 0 es)
  | [.tup es] => P.ret (jf 0 es)
  | _ => P.fail)
 refine At.bind (tk := fun (vs : List V) (H1 : Hp) (R : It → Hp → Prop) => (∃ a xs, vs = [.ref a] ∧ SqL K H1 a xs ∧ R (IteP true K a) H1) ∨ ∃ a xs, vs = [.ref a] ∧ SqT K H1 a xs ∧ R (IteP false K a) H1) (hf σ C H ρ e) fun ds ρ1 vs C1 H1 p1 r1 => ?_
 split
 ·obtain ⟨v, r, rfl, k1, k2⟩ := iss_cons_iff.mp r1
  cases iss_nil_iff.mp k2
  obtain ⟨a, xs, rfl, k3, k4⟩ := is_lst_iff.mp k1
  exact At.imp (At.ret (R := wa1 K H) p1.env (jbr (tt := true) (SqL.of k3) k4)) fun Q h => .inl ⟨a, xs, rfl, SqL.of (p1.env.ext.1 _ _ k3 vw), h⟩
 ·obtain ⟨v, r, rfl, k1, k2⟩ := iss_cons_iff.mp r1
  cases iss_nil_iff.mp k2
  obtain ⟨a, xs, rfl, k3, k4⟩ := is_ro_iff.mp k1
  exact At.imp (At.ret (R := wa1 K H) p1.env (jbr (tt := true) k3 k4)) fun Q h => .inl ⟨a, xs, rfl, ex_l p1.env.ext k3, h⟩
 ·obtain ⟨v, r, rfl, k1, k2⟩ := iss_cons_iff.mp r1
  cases iss_nil_iff.mp k2
  obtain ⟨a, xs, rfl, k3, k4⟩ := y5 k1
  exact At.imp (At.ret (R := wa1 K H) p1.env (jbr (tt := false) k3 k4)) fun Q h => .inr ⟨a, xs, rfl, ex_t p1.env.ext k3, h⟩
 ·exact At.nil
end
section
variable {ι : Type} {X : ι → Cx} {P : Program} {w : World} {K : PySem.W.Frag} {mg : Str → Option Value} {base : Heap} {k : Nat} {W : WX} {N : List Str} {sc : Scope} {a : Expr} {gd : PL.P (List D)} {p pos tpos : Pos}
theorem bi_enumX {elts : List Expr} {kk : Nat} (B : CtxOk X P w K mg base k W N sc) (hm : mg "enumerate" = none) (ha : BAd X K W [a] gd) (hg : sc.names.lookup ("enumerate" : Str) = some .globalImplicit := by rfl) (hs : ∀ i, starEach [a] (X i).env = [(false, eval a (X i).env)] := by intro _; rfl) : BI X K W (.Tuple elts kk tpos) (.Call (.Name "enumerate" p) [a] [] pos) (vb0 gd) := by
 obtain ⟨ta, pa, sa⟩ := ha
 exact ⟨_, fun i => by have := @pi_enumX (X i) a ta p pos tpos elts kk (B.gl hg i) (by rw [B.pm i]; exact hm) (pa i) (hs i); rw [B.pK i] at this; exact this, sd_enumX sa⟩
end
section
variable {QDs : List D → En → Prop} {E : Exn → En → Prop} {ρ : En}
def isSeq (d : D) (Q : List D → Prop) : Prop := match d with
 | .lst ds => Q ds
 | .ro ds => Q ds
 | .tup ds => Q ds
 | _ => False
theorem wbz {ds : List D} {Q : List D → Prop} : isSeq (.lst ds) Q ↔ Q ds := Iff.rfl
theorem isSeq_ro {ds : List D} {Q : List D → Prop} : isSeq (.ro ds) Q ↔ Q ds := Iff.rfl
theorem zaq {ds : List D} {Q : List D → Prop} : isSeq (.tup ds) Q ↔ Q ds := Iff.rfl
theorem kbl {g : P (List D)} : wp (vb0 g) QDs E ρ ↔ wp g (fun ds r => one1 ds fun d => isSeq d fun es => QDs (jf 0 es) r) E ρ := by
 unfold vb0
 rw [wp_bind]
 refine kh fun ds r => ?_
 match ds with
 | [] => exact Iff.rfl
 | d :: e :: t => cases d <;> exact Iff.rfl
 | [d] => cases d <;> exact Iff.rfl
end
end PL
namespace PL.SX
open PySem PySem.Calls PyProof.Rows PySem.Spec L2
abbrev zaj (w : World) : Obj := { cls := .type "set", dict := none, data := .set #[] 0 (.fresh 0 0 (!w.params.followText "set-order")) }
end PL.SX
namespace PL
open PySem PySem.Spec PyProof.Rows L2
theorem vals_strs : ∀ {xs : List Str} {vs : List Value}, Vals (xs.map V.str) vs → StrsAre vs xs
 | [], vs, h => by cases h; exact .nil
 | x :: xs, vs, h => by
  cases h with
  | cons r t =>
   obtain ⟨k, rfl⟩ := r
   exact .cons x k (vals_strs t)
def kbm : List D → Option (List Str)
 | [] => some []
 | .s (.str x) :: ds => match kbm ds with
  | some xs => some (x :: xs)
  | none => none
 | _ => none
theorem xbw {K : PySem.W.Frag} {C : Hp} : ∀ {ds : List D} {xs : List Str} {vs : List V}, kbm ds = some xs → Iss K C ds vs → vs = xs.map V.str
 | [], xs, vs, h, i => by cases h; exact iss_nil_iff.mp i
 | d :: ds, xs, vs, h, i => by
  obtain ⟨v, r, rfl, i1, i2⟩ := iss_cons_iff.mp i
  cases d with
  | s x =>
   cases x with
   | str x =>
    simp only [kbm] at h
    cases q : kbm ds with
    | none => rw [q] at h; cases h
    | some ys =>
     rw [q] at h; cases h
     rw [xbw q i2, is_s_iff.mp i1]; rfl
   | _ => cases h
  | _ => cases h
end PL
namespace PL
open PySem PySem.Spec PyProof.Rows L2
section
variable {X : Cx} {pins : List (Addr × Obj)} {σ : L2.St} {H : Hp} {s : Shared}
theorem exO_st {a c : Addr} {d : Option Addr} : ∀ h1 h2 : Heap, ExO a c d h1 → (∀ o, h1.get? a = some o → h2.get? a = some o) → ExO a c d h2 := fun _ _ ⟨o, vs, e1, e2, e3⟩ k => ⟨o, vs, k o e1, e2, e3⟩
theorem inv_tell (I : Inv X pins σ H s) {a c : Addr} {d : Option Addr} (hx : ExO a c d s.heap) (na : H a = none) (nL : a ≠ X.env.locals) (n0 : X.s_0.heap.get? a = none)
  (nc : ∀ y b, X.env.cells.lookup y = some b → b ≠ a) (np : ∀ p ∈ X.pn ++ pins, p.1 ≠ a) : Inv X pins σ (upd H a (.ext (ExO a c d))) s where
 ok := I.ok
 os := I.os
 bare := I.bare
 base := {
  keep := I.base.keep
  slot := I.base.slot
  free := fun b o q1 q2 q3 => by
   rw [upd_ne (fun z => by rw [z, n0] at q1; cases q1)]
   exact I.base.free b o q1 q2 q3
  there := I.base.there
  tups := fun b xs q => by
   have q2 := I.base.tups b xs q
   rw [upd_ne (fun z => by rw [z, na] at q2; cases q2)]
   exact q2
  frzs := fun b o u q => by
   have q2 := I.base.frzs b o u q
   rw [upd_ne (fun z => by rw [z, na] at q2; cases q2)]
   exact q2
  tbls := fun b ps q => by
   obtain ⟨more, q2⟩ := I.base.tbls b ps q
   refine ⟨more, ?_⟩
   rw [upd_ne (fun z => by rw [z, na] at q2; cases q2)]
   exact q2 }
 loc := I.loc
 cell := I.cell
 free := by rw [upd_ne (Ne.symm nL)]; exact I.free
 freeC := fun y b q => by rw [upd_ne (nc y b q)]; exact I.freeC y b q
 pin := fun p hp => by
  obtain ⟨p1, p2, p3⟩ := I.pin p hp
  exact ⟨p1, by rw [upd_ne (np p hp)]; exact p2, p3⟩
 hok := fun b u q => by
  by_cases e : b = a
  ·subst e
   rw [upd_same] at q
   cases q
   obtain ⟨o, vs, h1, h2, h3⟩ := hx
   exact ⟨⟨o, vs, h1, h2, h3⟩, ⟨o, h1⟩, exO_st⟩
  ·rw [upd_ne e] at q
   refine (I.hok b u q).stay (fun c' w' _ z => z) (fun r n => ?_) (fun r xs n => ?_)
   ·rw [upd_ne (fun z => by rw [z, na] at n; cases n)]
    exact n
   ·rw [upd_ne (fun z => by rw [z, na] at n; cases n)]
    exact n
 len := I.len
theorem qb0 (I : Inv X pins σ H s) (a : Addr) : Inv (X.suite a (X.pn ++ pins)) [] σ H s :=
 ⟨I.ok.suite _ _, I.os, I.bare, I.base, I.loc, I.cell, I.free, I.freeC, fun p hp => I.pin p (by rwa [List.append_nil] at hp), I.hok, I.len⟩
theorem yb6 {a : Addr} {pn' : List (Addr × Obj)} (I : Inv (X.suite a (X.pn ++ pins)) pn' σ H s) (ok : X.Ok) : Inv X pins σ H s :=
 ⟨ok, I.os, I.bare, I.base, I.loc, I.cell, I.free, I.freeC, fun p hp => I.pin p (List.mem_append_left _ hp), I.hok, I.len⟩
end
def wHold (K : PySem.W.Frag) (u : Value) (i : Nat) (ts : TS) (Wo : WX) (D : Ends) : WX := fun cls d σ H =>
 ∃ c b, cls = .ref c ∧ PySem.W.exmOne K cls u = some b ∧
  (b = true → ∀ a, H a = none → ts { nx := fun r H' => D.nx (r.set i none) H', rt := D.rt, bk := fun r H' => D.bk (r.set i none) H', ct := fun r H' => D.ct (r.set i none) H' } (σ.set i (some (.ref a))) (upd H a (.ext (ExO a c d)))) ∧
  (b = false → Wo cls d σ H)
theorem frs_not {B h : Heap} {l : List Env} {a : Addr} {o : Obj} {vs : Array Value} (ff : h.FunFrames B l) (e : h.get? a = some o) (ed : o.data = .fields vs) : a ∉ frs l := fun m => by
 obtain ⟨_, o2, e2, nd⟩ := ff.mem m
 rw [e] at e2
 cases e2
 exact nd _ ed
theorem yb5 {X : Cx} {x n : Str} {u : Value} {i : Nat} {body rest : List Stmt} {b1 : Stmt} {np pos pos2 : Pos} {tb : WX → TS} {ts : TS} {Wo : WX} (hs : X.stack = X.env :: X.outer) (hf : X.env.frame = some X.env.locals) (hx : X.ex = []) (hN : X.N.Nodup) (hi : X.N[i]? = some n) (hl : X.env.kindOf n = some .local) (hc : Names X x u) (tk : Takes X Wo)
  (hb : ∀ (W : WX) (pn : List (Addr × Obj)) (xe : Value → Shared → Prop), Takes (X.tr pn xe) W → PassesOwn (model X.prog X.w) X.A X.env xe → PSs (X.tr pn xe) body (tb W))
  (hu : ∀ (a : Addr) (pn : List (Addr × Obj)), PSs (X.suite a pn) (b1 :: rest) ts) :
  PS X (.Try body [.ExceptHandler (some (.Name x np)) (some n) (b1 :: rest) pos2] [] [] pos) (fun D σ H => tb (wHold X.K u i ts Wo D) D σ H) := by
 refine ⟨fun pins s σ H D I h => wpAny_Try_except ?_⟩
 have ok := I.ok
 have hA : X.A.frames = some (X.env :: X.outer) := by rw [ok.frames, hs]
 let xe1 : Value → Shared → Prop := fun e s1 => wpAny (model X.prog X.w) X.A (noteFrame e X.env) (fun _ s2 =>
  wpAny (model X.prog X.w) X.A (setFlight e none) (fun _ s3 =>
   wpAny (model X.prog X.w) X.A (handleBy e X.env [.ExceptHandler (some (.Name x np)) (some n) (b1 :: rest) pos2]) (SP X pins D) X.xe s3) X.xe s2) X.xe s1
 have caught : Takes (X.tr (X.pn ++ pins) xe1) (wHold X.K u i ts Wo D) := fun v s1 xx => by
  obtain ⟨a, B, sI, pins1, σ1, H1, cls, d, rfl, J0, nb, up, sky, na, os, ag, c, b, rfl, hb1, yes, no⟩ := xx
  have J : Inv X pins σ1 H1 sI := J0.ofTry ok
  have sky1 : Sky B (X.env :: X.outer) a (Zc (.ref c) d) X.env.locals s1.heap := by rw [← hs]; exact sky
  refine Sky.land Zc.steady hA hf sky1 fun h3 fl3 up3 => ?_
  have J3 : Inv X pins σ1 H1 { s1 with heap := h3 } := J.landed nb fl3.1 (up.trans up3) os ag
  obtain ⟨o3, vs3, e3, z3, d3⟩ := fl3.there
  have nfr := frs_not fl3.2.2.1 e3 d3
  have nL : a ≠ X.env.locals := fun z => nfr (List.mem_filterMap.mpr ⟨X.env, List.mem_cons_self, by rw [hf, z]⟩)
  have nI : sI.heap.get? a = none := by
   cases q : sI.heap.get? a with
   | none => rfl
   | some o =>
    have z := nb a o q (by rw [hs]; exact nfr)
    have z2 : B.get? a = none := fl3.2.1
    rw [z2] at z; cases z
  have S3 : Inv (X.suite a (X.pn ++ pins)) [] σ1 H1 { s1 with heap := h3 } := qb0 J3 a
  refine wpAny_handleBy_cons (codeAny_handlers_test ?_) (fun q => nomatch q)
  have LM := PySem.W.exm_one (M := model X.prog X.w) (J3.kIn) (fun A Q E s k q => wpAny_typeOf_ref (k _ _ e3) (by rw [z3.1]; exact q)) hb1
  have test : ∀ {Q E : Value → Shared → Prop}, Q u { s1 with heap := h3 } → wpAny (model X.prog X.w) (X.A.mark (some (.ref a))) (eval (.Name x np) X.env) Q E { s1 with heap := h3 } := fun {Q E} q => by
   obtain ⟨g1, g2, g3 | ⟨g3, g4, g5⟩⟩ := hc
   ·exact ld_glob (X := X.suite a (X.pn ++ pins)) S3 g1 g3 q g2
   ·exact ld_blt (X := X.suite a (X.pn ++ pins)) S3 g1 g3 g4 q g5 g2
  refine test (LM.here ?_)
  cases b with
  | true =>
   refine codeAny_handlers_suite_as (HandSPX.lands_againZ fl3 fun h4 fl4 up4 => ?_)
   have J4 : Inv X pins σ1 H1 { s1 with heap := h4 } := J.landed nb fl4.1 ((up.trans up3).trans up4) os ag
   obtain ⟨o4, vs4, e4, z4, d4⟩ := fl4.there
   have T4 : Inv X pins σ1 (upd H1 a (.ext (ExO a c d))) { s1 with heap := h4 } := inv_tell J4 ⟨o4, vs4, e4, z4, d4⟩ na nL ?n0 ?nc ?np
   case n0 =>
    cases q : X.s_0.heap.get? a with
    | none => rfl
    | some o =>
     obtain ⟨o2, q2⟩ := J.base.there a o q (by rw [hx]; simp)
     rw [nI] at q2; cases q2
   case nc =>
    intro y b q z
    subst z
    obtain ⟨v, o, k1, k2⟩ := J.cell y b q
    rw [nI] at k1; cases k1
   case np =>
    intro p hp z
    have q := (J.pin p hp).1
    rw [z, nI] at q; cases q
   refine store_ok (X := X.suite a (X.pn ++ pins)) (v := .ref a) (qb0 T4 a) hN hi (.inl hl) rfl (fun s5 S5 => ?_) (.inr hl)
   refine wpAny_mono ((hu a (X.pn ++ pins)).run [] s5 _ _ _ S5 (yes rfl a na)) (fun f s6 hsp => ?_) (fun _ _ z => z.elim)
   have fin : ∀ {σ6 : L2.St} {H6 : Hp} {Q : Shared → Prop}, Inv (X.suite a (X.pn ++ pins)) [] σ6 H6 s6 → (∀ s7, Inv X pins (σ6.set i none) H6 s7 → Q s7) →
     wpAny (model X.prog X.w) X.A (do bindName X.env n .none; unbindBehindTheSuite X.env n pos2) (fun _ s7 => Q s7) X.xe s6 := fun {σ6 H6 Q} S6 hq => gone_ok (yb6 S6 ok) hN hi hl hq
   cases f with
   | next =>
    obtain ⟨σ6, H6, S6, q6⟩ := hsp
    exact fin S6 fun s7 J7 => ⟨_, _, J7, q6⟩
   | brk =>
    obtain ⟨σ6, H6, S6, q6⟩ := hsp
    exact fin S6 fun s7 J7 => ⟨_, _, J7, q6⟩
   | cont =>
    obtain ⟨σ6, H6, S6, q6⟩ := hsp
    exact fin S6 fun s7 J7 => ⟨_, _, J7, q6⟩
   | ret v6 =>
    obtain ⟨w6, σ6, H6, S6, r6, q6⟩ := hsp
    exact fin S6 fun s7 J7 => ⟨_, _, _, J7, r6, q6⟩
  | false =>
   refine wpAny_handleBy_nil ?_
   obtain ⟨_, _, _, o, vs, T, oT, tv, he, hz, hd, h1, _⟩ := id fl3
   unfold PySem.passOn
   refine wpAny_bind (wpAny_field he hd h1 ?_)
   rw [if_neg (show ¬ ((Value.ref T == Value.none) = true) by simp)]
   have on : wpAny (model X.prog X.w) X.A (setFlight (.ref a) X.env.frame) (fun _ s4 => wpAny (model X.prog X.w) X.A (throw (.ref a) : Sem Flow) (SP X pins D) X.xe s4) X.xe { s1 with heap := h3 } := by
    rw [hf]
    exact HandSPX.setFlight_upZ fl3 fun h4 fl4 up4 => wpAny_throw (tk _ _ ⟨a, B, sI, pins, σ1, H1, .ref c, d, rfl, J, nb, (up.trans up3).trans up4, .inr (.inr (by rw [hs]; exact fl4)), na, os, ag, no rfl⟩)
   first
    | exact wpAny_bind (wpAny_pure (wpAny_bind on))
    | exact wpAny_bind on
 refine wpAny_mono ((hb (wHold X.K u i ts Wo D) (X.pn ++ pins) xe1 caught PassesOwn.looking).run [] s σ H D (I.toTry _) h) (fun f s1 hsp => ?_) (fun _ _ z => z)
 cases f with
 | next =>
  obtain ⟨σ1, H1, J1, q⟩ := hsp
  exact wpAny_execs_nil ⟨σ1, H1, J1.ofTry ok, q⟩
 | brk =>
  obtain ⟨σ1, H1, J1, q⟩ := hsp
  exact ⟨σ1, H1, J1.ofTry ok, q⟩
 | cont =>
  obtain ⟨σ1, H1, J1, q⟩ := hsp
  exact ⟨σ1, H1, J1.ofTry ok, q⟩
 | ret v =>
  obtain ⟨w1, σ1, H1, J1, r, q⟩ := hsp
  exact ⟨w1, σ1, H1, J1.ofTry ok, r, q⟩
end PL
namespace PL
open PySem L2
section
variable {K : PySem.W.Frag} {W : WX} {fx : List Nat}
theorem no_post {σ : Sl} {C H : Hp} {ρ : En} {i : Nat} (e : EnvOk K C H σ ρ) (hi : i ∉ fx) (hl : i < ρ.length) : PostS K fx σ C H ρ (σ.set i none) C H (ρ.set i .no) := by
 have lσ : i < σ.length := by rw [e.len]; exact hl
 refine ⟨Step.refl e.ext, fun a ⟨j, m, h1, h2⟩ => .inl ?_, ⟨by rw [List.length_set, List.length_set]; exact e.len, e.ext, fun j c q => ?_, fun j k m n a h1 h2 h3 h4 => ?_, e.tab⟩, fun j hj => ?_, by rw [List.length_set]⟩
 ·by_cases hj : i = j
  ·subst hj; rw [List.getElem?_set_self hl] at h1; cases h1
  ·rw [List.getElem?_set_ne hj] at h1 h2; exact ⟨j, m, h1, h2⟩
 ·by_cases hj : i = j
  ·subst hj
   rw [List.getElem?_set_self hl] at q; cases q
   exact ⟨none, List.getElem?_set_self lσ, trivial⟩
  ·rw [List.getElem?_set_ne hj] at q ⊢
   exact e.cell j c q
 ·by_cases hj : i = j
  ·subst hj; rw [List.getElem?_set_self hl] at h1; cases h1
  ·by_cases hk : i = k
   ·subst hk; rw [List.getElem?_set_self hl] at h2; cases h2
   ·rw [List.getElem?_set_ne hj] at h1 h3
    rw [List.getElem?_set_ne hk] at h2 h4
    exact e.inj j k m n a h1 h2 h3 h4
 ·exact List.getElem?_set_ne (fun z => hi (by rw [z]; exact hj))
def excD (e : Exn) : D := .exc e.c e.fs.isSome (e.fs.getD [])
def sTry (K : PySem.W.Frag) (u : Addr) (xs : List Addr) (i j : Nat) (g : PL.P Fl) : PL.P Fl := fun ρ => match g ρ with
 | some (.ex e r) => (match PySem.W.exmOne K (.ref e.c) (.ref u) with
  | some true => if xs.contains e.c = true ∧ i < r.length ∧ j < r.length then some (.ok .next (((r.set i (.dat (excD e))).set j (.dat (excD e))).set i .no)) else none
  | some false => some (.ex e r)
  | none => none)
 | o => o
theorem ss_try {u : Addr} {xs : List Addr} {i j : Nat} {g : PL.P Fl} {tb : WX → TS} (hx : ∀ c, xs.contains c = true → ExcC K c) (hi : i ∉ fx) (hj : j ∉ fx) (hg : ∀ W', SdS K W' fx (tb W') g) :
  SdS K W fx (fun D σ H => tb (wHold K (.ref u) i (tAsg (tVar i) (gName j)) W D) D σ H) (sTry K u xs i j g) := by
 intro σ C H ρ out D e ho m
 unfold sTry at ho
 cases q : g ρ with
 | none => rw [q] at ho; cases ho
 | some o =>
  rw [q] at ho
  cases o with
  | ok a r =>
   cases ho
   refine hg _ σ C H ρ _ D e q ?_
   cases a <;> exact m
  | ex x r =>
   refine hg _ σ C H ρ _ D e q fun d σ1 C1 H1 p k => ?_
   dsimp only at ho
   cases q2 : PySem.W.exmOne K (.ref x.c) (.ref u) with
   | none => rw [q2] at ho; cases ho
   | some b =>
    rw [q2] at ho
    cases b with
    | false =>
     cases ho
     exact ⟨x.c, false, rfl, q2, (fun z => by cases z), fun _ => m d σ1 C1 H1 p k⟩
    | true =>
     obtain ⟨⟨c1, c2, c3⟩, rfl⟩ := we ho
     refine ⟨x.c, true, rfl, q2, fun _ a na => ?_, fun z => by cases z⟩
     have lσ : i < σ1.length := by rw [p.env.len]; exact c2
     have st : Step C1 H1 (upd C1 a (.ext (ExO a x.c d))) (upd H1 a (.ext (ExO a x.c d))) (fun _ => False) := Step.newD p.env.ext na
     have P1 : PostS K fx σ1 C1 H1 r σ1 _ _ r := PostS.of (Post.of_step p.env st)
     have is : Is K (upd C1 a (.ext (ExO a x.c d))) (excD x) (.ref a) := by
      refine is_exc_iff.mpr ⟨hx _ c1, a, d, ?_⟩
      unfold ExnOk at k
      cases q3 : x.fs with
      | none =>
       rw [q3] at k
       exact ⟨[], rfl, upd_same, .inl ⟨rfl, k⟩, zbr⟩
      | some fs =>
       rw [q3] at k
       obtain ⟨b, gs, rfl, k1, k2⟩ := k
       refine ⟨gs, rfl, upd_same, .inr ⟨b, rfl, rfl, ?_⟩, Isf.mono st.core fs gs k2⟩
       exact st.core.1 _ _ k1 nt_xd
     have P2 := jao (fx := fx) (i := i) P1.env hi c2 is
     have P3 := jao (fx := fx) (i := j) P2.env hj (by rw [List.length_set]; exact c3) is
     have P4 := no_post (fx := fx) (i := i) P3.env hi (by rw [List.length_set, List.length_set]; exact c2)
     exact ⟨.ref a, List.getElem?_set_self lσ, m _ _ _ (p.trans (P1.trans (P2.trans (P3.trans P4))))⟩
def qby (c : Addr) : PL.P Fl := fun ρ => some (.ex ⟨c, none⟩ ρ)
theorem ss_raise {c : Addr} : SdS K W fx (fun _ σ H => W (.ref c) none σ H) (qby c) := fun σ C H ρ out D e ho m => by
 cases ho
 exact m none σ C H (PostS.refl e) rfl
end
structure XOwn (K : PySem.W.Frag) (c : Addr) : Prop where
 ex : PySem.W.excIn K c [.type "ValueError", .type "Exception", .type "BaseException", .type "object"] "ValueError.__new__" = true
 kp : PySem.W.keepIn K (.ref c) = true
 sb : PySem.W.subIn K (.ref c) (.type "BaseException") = some true
 ty : PySem.W.typeIn K (.ref c) = some (.type "type")
section
variable {ι : Type} {X : ι → Cx} {P : Program} {w : World} {K : PySem.W.Frag} {mg : Str → Option Value} {base : Heap} {k : Nat} {W : WX} {N : List Str} {sc : Scope} {fx : List Nat}
theorem bs_raise {x m : Str} {c : Addr} {jj : Nat} {p p2 pos pos2 : Pos} (B : CtxOk X P w K mg base k W N sc) (hX : XOwn K c) (hm : mg x = some (.ref c)) (hg : sc.names.lookup x = some .globalImplicit := by rfl) (hd : (x == ("__debug__" : Str)) = false := by decide) :
  BS X K W fx (.Raise (some (.Call (.Name x p) [.Constant (.str m) jj p2] [] pos)) none pos2) (qby c) :=
 ⟨_, fun i => by
  have hK := B.pK i
  have h1 : PMk (X i) (.Call (.Name x p) [.Constant (.str m) jj p2] [] pos) (fun _ H Q => Q (.ref c) none H) :=
   pmk_own PySem.F.excBase_ValueError (by rw [hK]; exact hX.ex) (by rw [B.pm i]; exact hm) (by rw [hK]; exact hX.kp) (raises_own (by rw [hK]; exact hX.sb) (by rw [hK]; exact hX.ty)) (B.gl hg i) hd
  exact ps_raise (W := W) (B.calm i) (B.tk i) h1, ss_raise⟩
abbrev TrIx (X : ι → Cx) (W' : WX) : Type := { z : ι × List (Addr × Obj) × (Value → Shared → Prop) // Takes ((X z.1).tr z.2.1 z.2.2) W' ∧ PassesOwn (model (X z.1).prog (X z.1).w) (X z.1).A (X z.1).env z.2.2 }
abbrev trX (X : ι → Cx) (W' : WX) : TrIx X W' → Cx := fun z => (X z.1.1).tr z.1.2.1 z.1.2.2
theorem CtxOk.tr (B : CtxOk X P w K mg base k W N sc) (W' : WX) : CtxOk (trX X W') P w K mg base k W' N sc :=
 ⟨fun z => B.pP z.1.1, fun z => B.pw z.1.1, fun z => B.pK z.1.1, fun z => B.pm z.1.1, fun z => B.pb z.1.1, fun z => B.room z.1.1, fun z => z.2.1, fun z => B.calm z.1.1, fun z => z.2.2, fun z => B.nN z.1.1, fun z => B.ns z.1.1, B.nd'⟩
theorem bs_try {x n y : Str} {u : Addr} {xs : List Addr} {body : List Stmt} {g : PL.P Fl} {np yp np2 ap pos pos2 : Pos} (B : CtxOk X P w K mg base k W N sc) (hx : ∀ c, xs.contains c = true → ExcC K c) (hm : mg x = some (.ref u)) (i j : Nat)
  (hb : ∀ W', BSs (trX X W') K W' fx body g) (hi : N[i]? = some n := by rfl) (hj : N[j]? = some y := by rfl) (hg : sc.names.lookup x = some .globalImplicit := by rfl) (hd : (x == ("__debug__" : Str)) = false := by decide)
  (hk : ∀ z, (X z).env.kindOf n = some .local := by intro _; rfl) (vn : Vis sc n := by first | exact Or.inl rfl | exact Or.inr (Or.inl rfl) | exact Or.inr (Or.inr rfl)) (ly : Loc sc y := by first | exact .inl rfl | exact .inr rfl)
  (hs : ∀ z, swapsWith (.Name n np2) (some (.Name y yp)) ap.line (X z).env = pure false := by intro _; rfl) (hf : ∀ z, (X z).fn y = true ∨ (X z).env.scope.names.lookup y = some .local := by intro _; first | exact .inl rfl | exact .inr rfl)
  (hst : ∀ z, (X z).stack = (X z).env :: (X z).outer := by intro _; rfl) (hfr : ∀ z, (X z).env.frame = some (X z).env.locals := by intro _; rfl) (hex : ∀ z, (X z).ex = [] := by intro _; rfl) (hni : i ∉ fx := by decide) (hnj : j ∉ fx := by decide)
  (hn1 : (n == ("__debug__" : Str)) = false := by decide) (hn2 : (n == ("__classdict__" : Str)) = false := by decide) :
  BS X K W fx (.Try body [.ExceptHandler (some (.Name x np)) (some n) [.Assign [.Name y yp] (.Name n np2) ap] pos2] [] [] pos) (sTry K u xs i j g) := by
 have h1 : ∀ W', ∃ t, (∀ z, PSs (trX X W' z) body t) ∧ SdS K W' fx t g := hb
 obtain ⟨tb, h2⟩ := Classical.axiomOfChoice h1
 refine ⟨_, fun z => ?_, ss_try (W := W) hx hni hnj fun W' => (h2 W').2⟩
 have hK := B.pK z
 have := yb5 (X := X z) (x := x) (n := n) (u := .ref u) (i := i) (tb := tb) (ts := tAsg (tVar i) (gName j)) (Wo := W) (b1 := .Assign [.Name y yp] (.Name n np2) ap) (rest := []) (body := body) (np := np) (pos := pos) (pos2 := pos2) (hst z) (hfr z) (hex z) (B.nd z) (B.at_ hi z) (hk z) ⟨B.gl hg z, hd, .inl (by rw [B.pm z]; exact hm)⟩ (B.tk z)
  (fun W' pn xe tk ps => (h2 W').1 ⟨(z, pn, xe), tk, ps⟩)
  (fun a pn => pss_one (ps_set (X := (X z).suite a pn) (B.nd z) (B.at_ hj z) (B.lo ly z) (pe_var (B.at_ hi z) (B.vis vn z) hn1 hn2) (hs z) (hf z)))
 rw [hK] at this
 exact this
end
section
variable {K : PySem.W.Frag} {QF : Fl → En → Prop} {E : Exn → En → Prop} {ρ : En}
theorem wp_raise {c : Addr} : wp (qby c) QF E ρ ↔ E ⟨c, none⟩ ρ := Iff.rfl
def tryQ (K : PySem.W.Frag) (u : Addr) (xs : List Addr) (i j : Nat) (QF : Fl → En → Prop) (E : Exn → En → Prop) (e : Exn) (r : En) : Prop := match PySem.W.exmOne K (.ref e.c) (.ref u) with
 | some true => (xs.contains e.c = true ∧ i < r.length ∧ j < r.length) ∧ QF .next (((r.set i (.dat (excD e))).set j (.dat (excD e))).set i .no)
 | some false => E e r
 | none => False
theorem wp_try {u : Addr} {xs : List Addr} {i j : Nat} {g : PL.P Fl} : wp (sTry K u xs i j g) QF E ρ ↔ wp g QF (tryQ K u xs i j QF E) ρ := by
 unfold wp sTry tryQ
 cases g ρ with
 | none => exact Iff.rfl
 | some o =>
  cases o with
  | ok a r => exact Iff.rfl
  | ex e r =>
   dsimp only
   cases q : PySem.W.exmOne K (.ref e.c) (.ref u) with
   | none => exact Iff.rfl
   | some b =>
    cases b with
    | false => exact Iff.rfl
    | true =>
     dsimp only
     by_cases h : xs.contains e.c = true ∧ i < r.length ∧ j < r.length
     ·rw [if_pos h]; exact ⟨fun z => ⟨h, z⟩, fun z => z.2⟩
     ·rw [if_neg h]; exact ⟨fun z => z.elim, fun z => h z.1⟩
theorem tryQ_hit {u c : Addr} {xs : List Addr} {i j : Nat} {fs : Option (List (Str × D))} (h : PySem.W.exmOne K (.ref c) (.ref u) = some true) (hx : xs.contains c = true) : tryQ K u xs i j QF E ⟨c, fs⟩ ρ ↔ (i < ρ.length ∧ j < ρ.length) ∧ QF .next (((ρ.set i (.dat (.exc c fs.isSome (fs.getD [])))).set j (.dat (.exc c fs.isSome (fs.getD [])))).set i .no) := by
 unfold tryQ
 rw [h]
 exact ⟨fun z => ⟨z.1.2, z.2⟩, fun z => ⟨⟨hx, z.1⟩, z.2⟩⟩
theorem none_exc {c : Addr} {b : Bool} {fs : List (Str × D)} : isNone (.exc c b fs) = false := rfl
theorem isi_exc {cs : List Addr} {c b : Addr} {t : Bool} {fs : List (Str × D)} {r : Bool} (k : PySem.W.kitOne K (.ref c) (.ref b) = some r) : isiD K cs [.exc c t fs, .s (.ref b)] = some (rvB r) := by
 unfold isiD isiB
 simp only [tyD, clsD, jbg, if_true, k]
theorem isi_excL {cs : List Addr} {c : Addr} {t : Bool} {fs : List (Str × D)} {ds : List D} {us : List Value} {r : Bool} (h : clsL ds = some us) (k : PySem.W.kitAny K (.ref c) us = some r) : isiD K cs [.exc c t fs, .tup ds] = some (rvB r) := by
 unfold isiD isiT
 simp only [tyD, h, jbg, if_true, k]
end
end PL
namespace PL
open PySem L2
section
variable {K : PySem.W.Frag} {W : WX}
def powD : D → D → Option Rv
 | .s (.int i), .s (.int j) => if 0 ≤ j ∧ j ≤ 1000000 ∧ i.natAbs < 2 ^ 64 then some (rvI (i ^ j.toNat)) else none
 | _, _ => none
def absD : List D → Option Rv
 | [.s (.int i)] => some (rvI (if i < 0 then -i else i))
 | _ => none
def fDic0 : PL.P Rv := fC (.dic [])
end
section
variable {K : PySem.W.Frag} {cs : List Addr} {kvs : List (Key × D)}
theorem none_dic : isNone (.dic kvs) = false := rfl
end
end PL
namespace PL
open PySem L2
theorem zbd {α : Type} {xs : List α} {i : Nat} (h : i ≤ xs.length) : cutG xs none (some (i : Int)) = xs.take i := by
 unfold cutG
 rw [HT.sIx_nat, HT.sIx_none, List.drop_zero, Nat.sub_zero, Nat.min_eq_left h]
theorem vbq : ((("Table.__init__" : Str) ++ (".<locals>." : Str)) ++ ("<lambda>" : Str)) = lamQ := by decide +kernel
end PL
namespace PL
open PySem L2
section
variable {κ : Type} [DecidableEq κ] {K : PySem.W.Frag} {C H : Hp}
def getK (kvs : List (κ × D)) (k : κ) : Option D := (kvs.find? fun kv => decide (kv.1 = k)).map (·.2)
def setK (kvs : List (κ × D)) (k : κ) (v : D) : List (κ × D) :=
 if (kvs.any fun kv => decide (kv.1 = k)) = true then kvs.map (fun kv => if kv.1 = k then (kv.1, v) else kv) else kvs ++ [(k, v)]
theorem Iskv.length : ∀ {ds : List (κ × D)} {xs : List (κ × V)}, Iskv K C ds xs → xs.length = ds.length
 | [], xs, h => by cases (show xs = [] from h); rfl
 | (n, d) :: ds, xs, h => by
  obtain ⟨x, r, rfl, _, h3⟩ := h
  rw [List.length_cons, List.length_cons, Iskv.length h3]
theorem Iskv.any (k : κ) : ∀ {ds : List (κ × D)} {xs : List (κ × V)}, Iskv K C ds xs → (ds.any fun kv => decide (kv.1 = k)) = (xs.any fun kv => decide (kv.1 = k))
 | [], xs, h => by cases (show xs = [] from h); rfl
 | (n, d) :: ds, xs, h => by
  obtain ⟨x, r, rfl, _, h3⟩ := h
  simp only [List.any_cons, Iskv.any k h3]
theorem Iskv.get (k : κ) : ∀ {ds : List (κ × D)} {xs : List (κ × V)}, Iskv K C ds xs → (getK ds k = none ∧ valV xs k = none) ∨ ∃ d x, getK ds k = some d ∧ valV xs k = some x ∧ Is K C d x
 | [], xs, h => by cases (show xs = [] from h); exact .inl ⟨rfl, rfl⟩
 | (n, d) :: ds, xs, h => by
  obtain ⟨x, r, rfl, h2, h3⟩ := h
  unfold getK valV
  by_cases e : n = k
  ·exact .inr ⟨d, x, by simp [List.find?_cons, e], by simp [List.find?_cons, e], h2⟩
  ·have := Iskv.get k h3
   unfold getK valV at this
   simpa [List.find?_cons, e] using this
theorem Iskv.at : ∀ {ds : List (κ × D)} {xs : List (κ × V)} {i : Nat} {kd : κ × D}, Iskv K C ds xs → ds[i]? = some kd → ∃ x, xs[i]? = some (kd.1, x) ∧ Is K C kd.2 x
 | [], xs, i, kd, h, e => by simp at e
 | (n, d) :: ds, xs, 0, kd, h, e => by
  obtain ⟨x, r, rfl, h2, _⟩ := h
  simp at e; subst e
  exact ⟨x, rfl, h2⟩
 | (n, d) :: ds, xs, i + 1, kd, h, e => by
  obtain ⟨x, r, rfl, _, h3⟩ := h
  obtain ⟨y, h4, h5⟩ := Iskv.at (i := i) (kd := kd) h3 (by simpa using e)
  exact ⟨y, by simpa using h4, h5⟩
theorem Iskv.upd {k : κ} {d : D} {x : V} (hd : Is K C d x) : ∀ {ds : List (κ × D)} {xs : List (κ × V)}, Iskv K C ds xs → Iskv K C (ds.map fun kv => if kv.1 = k then (kv.1, d) else kv) (xs.map fun kv => if kv.1 = k then (kv.1, x) else kv)
 | [], xs, h => by cases (show xs = [] from h); rfl
 | (n, d0) :: ds, xs, h => by
  obtain ⟨y, r, rfl, h2, h3⟩ := h
  by_cases e : n = k
  ·simp only [List.map_cons, if_pos e]; exact ⟨x, _, rfl, hd, Iskv.upd hd h3⟩
  ·simp only [List.map_cons, if_neg e]; exact ⟨y, _, rfl, h2, Iskv.upd hd h3⟩
theorem Iskv.snoc {k : κ} {d : D} {x : V} (hd : Is K C d x) : ∀ {ds : List (κ × D)} {xs : List (κ × V)}, Iskv K C ds xs → Iskv K C (ds ++ [(k, d)]) (xs ++ [(k, x)])
 | [], xs, h => by cases (show xs = [] from h); exact ⟨x, [], rfl, hd, rfl⟩
 | (n, d0) :: ds, xs, h => by
  obtain ⟨y, r, rfl, h2, h3⟩ := h
  exact ⟨y, _, rfl, h2, Iskv.snoc hd h3⟩
theorem Iskv.put {k : κ} {d : D} {x : V} {ds : List (κ × D)} {xs : List (κ × V)} (h : Iskv K C ds xs) (hd : Is K C d x) : Iskv K C (setK ds k d) (putK xs k x) := by
 unfold setK putK
 rw [← Iskv.any k h]
 by_cases q : (ds.any fun kv => decide (kv.1 = k)) = true
 ·rw [if_pos q, if_pos q]; exact Iskv.upd hd h
 ·rw [if_neg q, if_neg q]; exact Iskv.snoc hd h
end
abbrev DK := Sum Key (List Key)
def keyD : D → Option Key
 | .s (.int i) => some (.inl i)
 | .s (.str x) => some (.inr x)
 | _ => none
def keysD : List D → Option (List Key)
 | [] => some []
 | d :: ds => match keyD d, keysD ds with
  | some k, some ks => some (k :: ks)
  | _, _ => none
section
variable {K : PySem.W.Frag} {C H : Hp} {W : WX}
def KyRel (K : PySem.W.Frag) (_ : Hp) : Rel V DK := fun C _ _ _ v k => match k with
 | .inl k => v = kV k
 | .inr ks => ∃ b, v = .ref b ∧ C b = some (.tup (ks.map kV))
theorem KyRel.mono {H0 : Hp} {C C' H' : Hp} {σ : Sl} {ρ ρ' : En} {v : V} {k : DK} (h : KyRel K H0 C H σ ρ v k) (e : Ex C C') : KyRel K H0 C' H' σ ρ' v k := by
 cases k with
 | inl k => exact h
 | inr ks => obtain ⟨b, h1, h2⟩ := h; exact ⟨b, h1, e.1 _ _ h2 nt_tup⟩
end
abbrev DV := Sum (List (Key × D)) (List (List Key × D))
def dvC : Cell → Option DV
 | .own (.dk kvs) => some (.inl kvs)
 | .own (.dt kvs) => some (.inr kvs)
 | .dat (.dic kvs) => some (.inl kvs)
 | _ => none
def dv (ρ : En) : Rv → Option DV
 | .dat (.dic kvs) => some (.inl kvs)
 | .new (.dk kvs) => some (.inl kvs)
 | .new (.dt kvs) => some (.inr kvs)
 | .bor i => match ρ[i]? with
  | some c => dvC c
  | none => none
 | _ => none
section
variable {K : PySem.W.Frag} {W : WX} {σ : Sl} {C H H0 : Hp} {ρ : En}
def dGet : DV → DK → Option (Option D)
 | .inl kvs, .inl k => some (getK kvs k)
 | .inr kvs, .inr k => some (getK kvs k)
 | _, _ => none
end
end PL
namespace PL
open PySem L2
end PL
namespace PL
open PySem L2
section
variable {K : PySem.W.Frag} {C : Hp}
def pNil : PL.P (List (Key × D)) := P.ret []
variable {W : WX}
end
end PL
namespace PL
open PySem L2 PySem.Spec PyProof.Rows
def fDNewK : PL.P Rv := fun ρ => some (.ok (.new (.dk [])) ρ)
def fDNewT : PL.P Rv := fun ρ => some (.ok (.new (.dt [])) ρ)
section
variable {α : Type} {Q : α → En → Prop} {QR : Rv → En → Prop} {QK : DK → En → Prop} {QF : Fl → En → Prop} {QP : List (Key × D) → En → Prop} {QDs : List D → En → Prop} {QA : List Arg × M → En → Prop} {E : Exn → En → Prop} {ρ : En}
def isKy (d : D) (Q : Key → Prop) : Prop := match keyD d with
 | some k => Q k
 | none => False
theorem ya6 {i : Int} {Q : Key → Prop} : isKy (.s (.int i)) Q ↔ Q (.inl i) := Iff.rfl
theorem va6 {x : Str} {Q : Key → Prop} : isKy (.s (.str x)) Q ↔ Q (.inr x) := Iff.rfl
theorem wap : keysD [] = some [] := rfl
def dvQ (Q : DV → Prop) : Cell → Prop
 | .own (.dk kvs) => Q (.inl kvs)
 | .own (.dt kvs) => Q (.inr kvs)
 | .dat (.dic kvs) => Q (.inl kvs)
 | _ => False
theorem dvQ_dk {kvs} {Q : DV → Prop} : dvQ Q (.own (.dk kvs)) ↔ Q (.inl kvs) := Iff.rfl
theorem dvQ_dt {kvs} {Q : DV → Prop} : dvQ Q (.own (.dt kvs)) ↔ Q (.inr kvs) := Iff.rfl
theorem vbs {kvs} {Q : DV → Prop} : dvQ Q (.dat (.dic kvs)) ↔ Q (.inl kvs) := Iff.rfl
theorem dv_dic {kvs} : dv ρ (.dat (.dic kvs)) = some (.inl kvs) := rfl
theorem kbs {kvs} : dv ρ (.new (.dk kvs)) = some (.inl kvs) := rfl
theorem xbs {kvs} : dv ρ (.new (.dt kvs)) = some (.inr kvs) := rfl
theorem dGet_k {kvs : List (Key × D)} {k : Key} : dGet (.inl kvs) (.inl k) = some (getK kvs k) := rfl
theorem dGet_t {kvs : List (List Key × D)} {k : List Key} : dGet (.inr kvs) (.inr k) = some (getK kvs k) := rfl
theorem va2 : wp fDNewK QR E ρ ↔ QR (.new (.dk [])) ρ := Iff.rfl
theorem za2 : wp fDNewT QR E ρ ↔ QR (.new (.dt [])) ρ := Iff.rfl
def thereQ (o : Option D) (Q : D → Prop) : Prop := match o with
 | some d => Q d
 | none => False
theorem vaf {d : D} {Q : D → Prop} : thereQ (some d) Q ↔ Q d := Iff.rfl
def putQ (k : DK) (Q : M → Prop) (d : D) : Cell → Prop
 | .own (.dk kvs) => match k with
  | .inl k => kvs.length < sizeLine ∧ Q (.dk (setK kvs k d))
  | .inr _ => False
 | .own (.dt kvs) => match k with
  | .inr k => kvs.length < sizeLine ∧ Q (.dt (setK kvs k d))
  | .inl _ => False
 | _ => False
theorem putQ_k {kvs : List (Key × D)} {k : Key} {d : D} {Q : M → Prop} : putQ (.inl k) Q d (.own (.dk kvs)) ↔ kvs.length < sizeLine ∧ Q (.dk (setK kvs k d)) := Iff.rfl
theorem putQ_t {kvs : List (List Key × D)} {k : List Key} {d : D} {Q : M → Prop} : putQ (.inr k) Q d (.own (.dt kvs)) ↔ kvs.length < sizeLine ∧ Q (.dt (setK kvs k d)) := Iff.rfl
def pinQ (i : Nat) (QP : List (Key × D) → En → Prop) (ρ : En) : Cell → Prop
 | .own (.dk kvs) => QP kvs (ρ.set i (.dat (.dic kvs)))
 | _ => False
theorem xbo {i : Nat} {kvs : List (Key × D)} : pinQ i QP ρ (.own (.dk kvs)) ↔ QP kvs (ρ.set i (.dat (.dic kvs))) := Iff.rfl
def wpPin (ρ : En) (r : Rv) (QP : List (Key × D) → En → Prop) : Prop := match r with
 | .dat (.dic kvs) => QP kvs ρ
 | .new (.dk kvs) => QP kvs ρ
 | .bor i => atS ρ i (pinQ i QP ρ)
 | _ => False
theorem xam {kvs : List (Key × D)} : wpPin ρ (.dat (.dic kvs)) QP ↔ QP kvs ρ := Iff.rfl
theorem zam {kvs : List (Key × D)} : wpPin ρ (.new (.dk kvs)) QP ↔ QP kvs ρ := Iff.rfl
theorem kam {i : Nat} : wpPin ρ (.bor i) QP ↔ atS ρ i (pinQ i QP ρ) := Iff.rfl
def inlQ (k : DK) (Q : Key → Prop) : Prop := match k with
 | .inl k => Q k
 | .inr _ => False
theorem inlQ_l {k : Key} {Q : Key → Prop} : inlQ (.inl k) Q ↔ Q k := Iff.rfl
theorem vbk : wp pNil QP E ρ ↔ QP [] ρ := Iff.rfl
end
end PL
namespace PL
open PySem L2
theorem comp_filL {α : Type} {vs : List Nat} {a : Tgt} {tests : PL.P Bool} {elt : PL.P Rv} {ρ : En} (xs : List α) (f : α → D) (p : α → Bool) (g : α → D) (hl : xs.length ≤ sizeLine)
  (hs : ∀ x ∈ xs, wpO (a (f x) ρ) fun r1 => wp tests (fun b r2 => b = p x ∧ if b = true then wp elt (fun v r3 => wpG r3 v fun y r4 => y = g x ∧ yk r4 vs = ρ) EF r2 else yk r2 vs = ρ) EF r1) :
  k9 vs a tests elt (xs.map f) [] ρ = some ((xs.filter p).map g, ρ) := by
 obtain ⟨acc, r, h1, h2, h3, h4⟩ := kbd (vs := vs) (a := a) (tests := tests) (elt := elt) (ds := xs.map f) (acc0 := []) (ρ := ρ) (fun i acc r => acc = ((xs.take i).filter p).map g ∧ r = ρ ∧ acc.length ≤ i) ⟨by simp, rfl, by simp⟩
  (fun i d acc r hd ⟨h1, h2, h3⟩ => by
   subst h2
   rw [List.getElem?_map] at hd
   obtain ⟨x, hx, rfl⟩ := Option.map_eq_some_iff.mp hd
   have hm := List.mem_of_getElem? hx
   have hi := (List.getElem?_eq_some_iff.mp hx).1
   have hh := hs x hm
   unfold wpO at hh ⊢
   cases q : a (f x) r with
   | none => rw [q] at hh; exact hh
   | some r1 =>
    rw [q] at hh
    refine wp_mono hh (fun b r2 z => ?_) fun _ _ z => z
    obtain ⟨z1, z2⟩ := z
    have et : xs.take (i + 1) = xs.take i ++ [x] := by rw [List.take_add_one, hx]; rfl
    cases b with
    | false =>
     rw [if_neg Bool.false_ne_true] at z2 ⊢
     refine ⟨?_, z2, by omega⟩
     rw [et, List.filter_append, List.map_append, ← h1]
     simp [← z1]
    | true =>
     rw [if_pos rfl] at z2 ⊢
     refine wp_mono z2 (fun v r3 z => ?_) fun _ _ z => z
     unfold wpG at z ⊢
     cases q3 : grab r3 v with
     | none => rw [q3] at z; exact z
     | some w =>
      rw [q3] at z
      obtain ⟨z3, z4⟩ := z
      refine ⟨by omega, ?_, z4, by rw [List.length_append]; simp; omega⟩
      rw [et, List.filter_append, List.map_append, ← h1, z3]
      simp [← z1])
 rw [h1, h2, h3, List.length_map, List.take_length]
theorem vi {α : Type} {vs : List Nat} {a : Tgt} {elt : PL.P Rv} {ρ : En} (xs : List α) (f g : α → D) (hl : xs.length ≤ sizeLine)
  (hs : ∀ x ∈ xs, wpO (a (f x) ρ) fun r1 => wp elt (fun v r3 => wpG r3 v fun y r4 => y = g x ∧ yk r4 vs = ρ) EF r1) :
  k9 vs a fYes elt (xs.map f) [] ρ = some (xs.map g, ρ) := by
 have := comp_filL (vs := vs) (a := a) (tests := fYes) (elt := elt) (ρ := ρ) xs f (fun _ => true) g hl fun x hx => by
  have hh := hs x hx
  unfold wpO at hh ⊢
  cases q : a (f x) ρ with
  | none => rw [q] at hh; exact hh
  | some r1 =>
   rw [q] at hh
   show wp (P.ret true) _ EF r1
   rw [xp]
   exact ⟨rfl, by rw [if_pos rfl]; exact hh⟩
 rw [this, List.filter_eq_self.mpr (fun _ _ => rfl)]
theorem xb2 : ∀ bs : List Bool, vbg (bs.map fun b => D.s (.bl b)) = some bs
 | [] => rfl
 | b :: bs => by
  show (match vbg (bs.map fun b => D.s (.bl b)) with | some bs => some (b :: bs) | none => none) = _
  rw [xb2 bs]
theorem any_map {α : Type} (xs : List α) (p : α → Bool) : anyD [.lst (xs.map fun x => D.s (.bl (p x)))] = some (rvB (xs.any p)) := by
 show (match vbg (xs.map fun x => D.s (.bl (p x))) with | some bs => some (rvB (bs.any id)) | none => none) = _
 rw [show (xs.map fun x => D.s (.bl (p x))) = (xs.map p).map (fun b => D.s (.bl b)) by rw [List.map_map]; rfl, xb2]
 simp [List.any_map]
structure Sh (n : Nat) (d : D) : Prop where
 s : shp d = true
 p : dep d ≤ n
theorem Sh.mono {m n : Nat} {d : D} (h : Sh m d) (k : m ≤ n) : Sh n d := ⟨h.s, Nat.le_trans h.p k⟩
theorem Sh.int {i : Int} : Sh 0 (.s (.int i)) := ⟨zav, Nat.le_of_eq dep_int⟩
theorem Sh.bl {i : Bool} : Sh 0 (.s (.bl i)) := ⟨shp_bl, Nat.le_of_eq dep_bl⟩
theorem Sh.non : Sh 0 (.s .non) := ⟨shp_non, Nat.le_of_eq dep_non⟩
theorem Sh.str {z : Str} (h : okS z) : Sh 0 (.s (.str z)) := ⟨shp_str.trans h, Nat.le_of_eq dep_str⟩
theorem Sh.tup {n : Nat} {ds : List D} (h : ∀ d ∈ ds, Sh n d) (k : n ≤ 63) : Sh (n + 1) (.tup ds) := ⟨shp_tup (fun d m => (h d m).s) (fun d m => (h d m).p) k, dep_tup (fun d m => (h d m).s) fun d m => (h d m).p⟩
theorem Sh.lst {n : Nat} {ds : List D} (h : ∀ d ∈ ds, Sh n d) (k : n ≤ 63) : Sh (n + 1) (.lst ds) := ⟨shp_lst (fun d m => (h d m).s) (fun d m => (h d m).p) k, dep_lst (fun d m => (h d m).s) fun d m => (h d m).p⟩
theorem qb5 {d : D} (h : shp d = true) : (py d).canLay0 = true := by
 unfold shp at h
 cases q : toPy d with
 | none => rw [q] at h; cases h
 | some a =>
  rw [q] at h
  rw [vb5 q]
  unfold SeqAt.shaped at h
  simp only [Bool.and_eq_true] at h
  first | exact h.1 | exact h.2
theorem eq_self {n : Nat} {d : D} (h : Sh n d) : eqD d d = some (rvB true) := by rw [kb7 h.s h.s, SeqAt.eqv_refl _ (qb5 h.s)]
theorem ne_self {n : Nat} {d : D} (h : Sh n d) : neD d d = some (rvB false) := by rw [zbp h.s h.s, SeqAt.eqv_refl _ (qb5 h.s)]; rfl
theorem xbd {α : Type} {xs : List α} {i : Nat} : cutG xs (some (i : Int)) none = xs.drop i := by
 unfold cutG
 rw [HT.sIx_nat, HT.sIx_none]
 by_cases h : i ≤ xs.length
 ·rw [Nat.min_eq_left h]
  exact List.take_of_length_le (by rw [List.length_drop]; omega)
 ·rw [Nat.min_eq_right (by omega), List.drop_length, List.drop_eq_nil_of_le (by omega), List.take_nil]
end PL
namespace PL
open PySem L2 PySem.Spec PyProof.Rows
section
variable {QDs : List D → En → Prop} {E : Exn → En → Prop} {ρ : En}
def three3 (ds : List D) (Q : D → D → D → Prop) : Prop := match ds with
 | [d, e, f] => Q d e f
 | _ => False
theorem zw {d e f : D} {Q : D → D → D → Prop} : three3 [d, e, f] Q ↔ Q d e f := Iff.rfl
end
end PL
namespace PL
open PySem L2 PySem.Spec PyProof.Rows
section
variable {QR : Rv → En → Prop} {E : Exn → En → Prop} {ρ : En}
def isLs (d : D) (Q : List D → Prop) : Prop := match d with
 | .lst ds => Q ds
 | _ => False
theorem za6 {ds : List D} {Q : List D → Prop} : isLs (.lst ds) Q ↔ Q ds := Iff.rfl
end
end PL
namespace PL
open PySem L2 PySem.Spec PyProof.Rows
theorem rev_adj (n : Nat) : Builtin.Slice.sliceAdjust none none (-1) (n : Int) = ((n : Int) - 1, -1) := rfl
theorem rev_plc (n : Nat) : Builtin.Slice.slicePlaces ((n : Int) - 1) (-1) (-1) = n := by
 unfold Builtin.Slice.slicePlaces
 rw [if_neg (by decide)]
 by_cases c : (n : Int) - 1 > -1
 ·rw [if_pos c, show ((n : Int) - 1 - -1 - 1) = (n : Int) - 1 by omega, show (- -1 : Int) = 1 by decide, Int.ediv_one]
  omega
 ·rw [if_neg c]
  omega
theorem fm_congr {α β : Type} {f g : α → Option β} : ∀ {xs : List α}, (∀ x ∈ xs, f x = g x) → xs.filterMap f = xs.filterMap g
 | [], _ => rfl
 | x :: xs, h => by
  rw [List.filterMap_cons, List.filterMap_cons, h x List.mem_cons_self, fm_congr fun y m => h y (List.mem_cons_of_mem _ m)]
theorem rev_pck (xs : Array Value) : ((List.range xs.size).filterMap fun (m : Nat) => xs[(((xs.size : Int) - 1) + (m : Int) * (-1)).toNat]?).toArray = xs.toList.reverse.toArray := by
 congr 1
 have e : (List.range xs.size).filterMap (fun (m : Nat) => xs[(((xs.size : Int) - 1) + (m : Int) * (-1)).toNat]?) = (List.range xs.size).filterMap (fun m => xs[xs.size - 1 - m]?) := by
  refine fm_congr fun m hm => ?_
  rw [List.mem_range] at hm
  rw [show (((xs.size : Int) - 1) + (m : Int) * (-1)).toNat = xs.size - 1 - m by omega]
 rw [e]
 have e2 : (fun (m : Nat) => xs[xs.size - 1 - m]?) = (fun (k : Nat) => xs[k]?) ∘ fun m => xs.size - 1 - m := rfl
 rw [e2, ← List.filterMap_map, PySem.W.krv_range, List.filterMap_reverse, PySem.W.krv_all]
section
variable {prog : Program} {w : World} {A : Around} {E : Value → Shared → Prop} {s : Shared}
theorem sl_rev {sl : Addr} {v1 v2 v3 : Value} {n : Nat} {Q : Int × Int × Nat → Shared → Prop} (hs : s.heap.IsSliceOf sl v1 v2 v3) (p1 : IsPart v1 none) (p2 : IsPart v2 none) (p3 : IsPart v3 (some (-1)))
  (h : Q ((n : Int) - 1, -1, n) s) : wpAny (model prog w) A (Builtin.Slice.sliceApplied (.ref sl) (pure (n : Int))) Q E s := by
 obtain ⟨oS, hoS, hcS, hdS⟩ := id hs
 (unfold Builtin.Slice.sliceApplied Builtin.Slice.sliceFields)
 refine wpAny_bind (wpAny_bind (wpAny_field hoS hdS (x := v1) rfl (wpAny_bind (wpAny_field hoS hdS (x := v2) rfl (wpAny_bind (wpAny_field hoS hdS (x := v3) rfl (wpAny_pure ?_)))))))
 refine wpAny_bind (HT.slicePart_ p3 ?_)
 show wpAny _ _ (if ((-1 : Int) == 0) = true then _ else _) _ _ s
 rw [if_neg (show ¬ ((-1 : Int) == 0) = true by decide)]
 refine wpAny_bind (HT.slicePart_ p1 (wpAny_bind (HT.slicePart_ p2 (wpAny_bind (wpAny_pure ?_)))))
 show wpAny _ _ (match Builtin.Slice.sliceAdjust none none (-1) (n : Int) with | (lo, hi) => pure (lo, (-1 : Int), Builtin.Slice.slicePlaces lo hi (-1))) _ _ s
 rw [rev_adj n]
 show wpAny _ _ (pure ((n : Int) - 1, (-1 : Int), Builtin.Slice.slicePlaces ((n : Int) - 1) (-1) (-1))) _ _ s
 rw [rev_plc]
 exact wpAny_pure h
theorem get_rev {t sl : Addr} {its : Array Value} {v1 v2 v3 : Value} {Q : Value → Shared → Prop} (hT : IsTup s.heap t its) (hs : s.heap.IsSliceOf sl v1 v2 v3) (p1 : IsPart v1 none) (p2 : IsPart v2 none) (p3 : IsPart v3 (some (-1)))
  (h : Q (.ref s.heap.objs.size) { s with heap := s.heap.push { cls := .type "tuple", data := .seq its.toList.reverse.toArray } }) (hZ : its.size ≤ sizeLine) : wpAny (model prog w) A (getItem (.ref t) (.ref sl)) Q E s := by
 have hF : sizeOk (.seq its.toList.reverse.toArray) := by
  show its.toList.reverse.toArray.size ≤ sizeLine
  rw [List.size_toArray, List.length_reverse, Array.length_toList]
  exact hZ
 obtain ⟨oS, hoS, hcS, hdS⟩ := id hs
 have hK : s.TypeIs (.ref sl) "slice" := ⟨oS, hoS, hcS⟩
 unfold getItem
 (try with_reducible refine wpAny_holding ?_); (first | refine wpAny_bind (wpAny_pure ?_) | skip)
 refine wpAny_bind (wpAny_sequenceKey hT.typeIs (by decide) ?_)
 refine wpAny_bind (wpAny_callSpecial?_slot (name := Str.ofString "__getitem__") hT.typeIs PyProof.Rows.slot_tuple_getitem (wpAny_call_entry PyProof.Rows.slot_tuple_getitem hT.typeIs entry_tuple_getitem ?_ (args_tuple_getitem _ _)))
 (show wpAny _ _ (Builtin.Tuple.tupleItemsOf (.ref t) >>= _) _ _ s)
 refine wpAny_bind (tupleItemsOf_ hT ?_)
 refine wpAny_bind (wpAny_typeOf hK ?_)
 rw [if_pos (show _ by decide)]
 refine wpAny_bind (sl_rev hs p1 p2 p3 ?_)
 have hN : ¬ (((((its.size : Nat) : Int) - 1) == 0 && (-1 : Int) == 1 && its.size == its.size) = true) := by simp
 show wpAny _ _ (if (((((its.size : Nat) : Int) - 1) == 0 && (-1 : Int) == 1 && its.size == its.size)) = true then _ else _) _ _ s
 rw [if_neg hN, rev_pck]
 first
  | exact wpAny_bind (m := Builtin.Tuple.tupleExact _) (wpAny_newObj_type (wpAny_pure ⟨_, rfl, wpAny_pure h⟩) hF)
  | exact wpAny_bind (m := Builtin.Tuple.tupleExact _) (wpAny_newObj_type (wpAny_bind (wpAny_pure (wpAny_pure ⟨_, rfl, wpAny_pure h⟩))) hF)
  | exact wpAny_bind (wpAny_bind (m := Builtin.Tuple.tupleExact _) (wpAny_newObj_type (wpAny_pure (wpAny_pure ⟨_, rfl, wpAny_pure h⟩)) hF))
  | exact wpAny_bind (wpAny_bind (m := Builtin.Tuple.tupleExact _) (wpAny_newObj_type (wpAny_pure ⟨_, rfl, wpAny_pure h⟩) hF))
end
def tRevT (K : PySem.W.Frag) (te : TE) : TE := fun σ H Q => te σ H fun x H1 => ∃ a xs, x = .ref a ∧ SqT K H1 a xs ∧ ∀ p o, H1 p = none → o.dict = none → Q (.ref p) (upd H1 p (.frz o (.tup xs.reverse)))
theorem pe_revT {X : Cx} {e : Expr} {te : TE} {kk : Nat} {q1 q2 q3 pos : Pos} (he : PE X e te) : PE X (.Subscript e (.Slice none none (some (.UnaryOp .USub (.Constant (.int 1) kk q1) q2)) q3) pos) (tRevT X.K te) := by
 constructor
 intro pins s σ H Q I h
 refine Subscript_ (thn (he.run pins s σ H _ I h) fun v s1 hh => ?_)
 obtain ⟨x, H1, I1, r1, a, xs, ex, hx, hq⟩ := hh
 subst ex
 cases r1
 have hTurn : PO X (some (.UnaryOp .USub (.Constant (.int 1) kk q1) q2)) (tPart (tUn (rU fun i => .int (-i)) (tC (.int 1)))) := po_some (pe_un un_neg pe_int)
 refine wpAny_Slice (thn (po_none.run pins s1 σ H1 (fun o K2 => o = none ∧ K2 = H1) I1 ⟨rfl, rfl⟩) fun vl s2 hh => ?_)
 obtain ⟨l, K2, I2, pl, rfl, rfl⟩ := hh
 refine thn (po_none.run pins s2 σ K2 (fun o K3 => o = none ∧ K3 = K2) I2 ⟨rfl, rfl⟩) fun vu s3 hh => ?_
 obtain ⟨u, K3, I3, pu, rfl, rfl⟩ := hh
 refine thn (hTurn.run pins s3 σ K3 (fun o K4 => o = some (-1) ∧ K4 = K3) I3 ⟨1, rfl, -1, rfl, rfl, rfl⟩) fun vs sN hh => ?_
 obtain ⟨o, K4, I4, ps, rfl, rfl⟩ := hh
 have I5 : Inv X pins σ K4 { sN with heap := sN.heap.push { cls := .type "slice", data := .fields #[vl, vu, vs] } } := I4.kept (t' := sN.toks) fun b ob q => Heap.get?_push_of_some _ q
 obtain ⟨its, r, hT, hz⟩ := I5.tuple hx
 have hlen := r.length
 show wpAny (model X.prog X.w) X.A (subscriptTail e (.Slice none none (some (.UnaryOp .USub (.Constant (.int 1) kk q1) q2)) q3) (.ref a) (.ref sN.heap.objs.size)) (EP X pins σ Q) X.xe { sN with heap := sN.heap.push { cls := .type "slice", data := .fields #[vl, vu, vs] } }
 refine tail_any (ops := [.ref a, .ref sN.heap.objs.size]) hT.typeIs (PyProof.Rows.slot_tuple_getitem.lookup) ?_ (by with_unfolding_all rfl)
 refine get_rev hT (Heap.IsSliceOf.new _ vl vu vs) pl pu ps ?_ (by rw [List.size_toArray]; omega)
 refine ⟨.ref _, _, I5.laid (t' := sN.toks) (o := .frz { cls := .type "tuple", data := .seq its.reverse.toArray } (.tup xs.reverse)) (fun b ob q => Heap.get?_push_of_some _ q) (Nat.le_refl _) ?_, rfl, hq _ _ (I5.hok.fresh (Nat.le_refl _)) rfl⟩
 exact ⟨Heap.get?_push_size _ rfl, by rw [List.length_reverse]; exact hz, _, r.reverse, IsTup.new _ _⟩
def fRevT (fo : P Rv) : P Rv := fo.bind fun ro => pk1 ro fun d => match d with
 | .tup ds => P.ret (.dat (.tup ds.reverse))
 | _ => P.fail
section
variable {K : PySem.W.Frag} {W : WX}
theorem iss_rev {C : Hp} : ∀ {ds : List D} {xs : List V}, Iss K C ds xs → Iss K C ds.reverse xs.reverse
 | [], xs, h => by rw [iss_nil_iff.mp h]; exact jg
 | d :: ds, xs, h => by
  obtain ⟨x, r, rfl, h1, h2⟩ := iss_cons_iff.mp h
  rw [List.reverse_cons, List.reverse_cons]
  exact (iss_rev h2).app (ze h1 jg)
theorem sd_revT {to : TE} {fo : P Rv} (ho : Sd K W (VRel K) to fo) : Sd K W (VRel K) (tRevT K to) (fRevT fo) := by
 intro σ C H ρ e
 show At K W (VRel K H) σ C H ρ (fun H Q => to σ H fun x H1 => ∃ a xs, x = .ref a ∧ SqT K H1 a xs ∧ ∀ p o, H1 p = none → o.dict = none → Q (.ref p) (upd H1 p (.frz o (.tup xs.reverse)))) (yg (fo ρ) fun ro => pk1 ro fun d => match d with
  | .tup ds => P.ret (.dat (.tup ds.reverse))
  | _ => P.fail)
 refine At.bind (tk := fun (x : V) (H1 : Hp) (Q : VK) => ∃ a xs, x = .ref a ∧ SqT K H1 a xs ∧ ∀ p o, H1 p = none → o.dict = none → Q (.ref p) (upd H1 p (.frz o (.tup xs.reverse)))) (ho σ C H ρ e) fun ro ρ1 x C1 H1 p1 r1 => ?_
 refine At.pk1 fun d q1 => ?_
 cases d with
 | tup ds =>
  obtain ⟨a, xs, ea, h3, h4⟩ := wax p1.env.ext (xm p1.env r1 q1)
  exact At.giv p1.env p1.step.dom fun Q g => ⟨a, xs, ea, h3, fun p o hp hd => g.tup p1.env.ext (iss_rev h4) hp hd⟩
 | _ => exact At.nil
end
section
variable {ι : Type} {X : ι → Cx} {P : Program} {w : World} {K : PySem.W.Frag} {mg : Str → Option Value} {base : Heap} {k : Nat} {W : WX} {N : List Str} {sc : Scope} {o : Expr} {fo : PL.P Rv} {j : Nat} {p1 p2 p3 pos : Pos}
theorem be_revT (B : CtxOk X P w K mg base k W N sc) (ho : BE X K W o fo) : BE X K W (.Subscript o (.Slice none none (some (.UnaryOp .USub (.Constant (.int 1) j p1) p2)) p3) pos) (fRevT fo) := by
 obtain ⟨to, po, so⟩ := ho
 exact ⟨_, fun i => by
  have := pe_revT (kk := j) (q1 := p1) (q2 := p2) (q3 := p3) (pos := pos) (po i)
  rw [B.pK i] at this
  exact this, sd_revT so⟩
end
section
variable {QR : Rv → En → Prop} {E : Exn → En → Prop} {ρ : En}
def isTp (d : D) (Q : List D → Prop) : Prop := match d with
 | .tup ds => Q ds
 | _ => False
theorem ja6 {ds : List D} {Q : List D → Prop} : isTp (.tup ds) Q ↔ Q ds := Iff.rfl
theorem kbk {fo : P Rv} : wp (fRevT fo) QR E ρ ↔ wp fo (fun ro r1 => wpO (peek r1 ro) fun d => isTp d fun ds => QR (.dat (.tup ds.reverse)) r1) E ρ := by
 unfold fRevT
 rw [wp_bind]
 refine kh fun ro r1 => ?_
 rw [qa9]
 refine za9 fun d => ?_
 cases d with
 | tup es => exact xp
 | _ => exact Iff.rfl
end
end PL
namespace PL
open PySem L2 PySem.Spec PyProof.Rows
section
variable {K : PySem.W.Frag}
theorem spF_go {N : List Str} {n : Nat} {fx : List Nat} {body : PL.P Fl} {vs : List V} {H : Hp} {Q : VK} {E : XK} {t : TS} (hN : n ≤ N.length) (hs : SdS K (fun cls d _ H => E cls d H) fx t body) (h : spF K n (runF fx N.length body) vs H Q E) : t { nx := fun _ H' => Q .non H', rt := Q } (L2.start N vs) H := by
 obtain ⟨hl, C, cs, out, e, ho, hok, hex⟩ := h
 have hlen : vs.length ≤ N.length := by rw [hl]; exact hN
 have e0 := EnvOk.begin (N := N) hlen e
 unfold runF at ho
 cases q : body (cs ++ List.replicate (N.length - cs.length) .no) with
 | none => rw [q] at ho; cases ho
 | some o =>
  rw [q] at ho
  refine hs (L2.start N vs) C H _ o _ e0 q ?_
  cases o with
  | ex x r =>
   dsimp only at ho
   cases z : merge fx 0 cs r with
   | none => rw [z] at ho; cases ho
   | some cs' =>
    rw [z] at ho; cases ho
    exact fun d σ' C' H' p k => hex x cs' rfl d C' H' (Post.finish e p z) k
  | ok fl r =>
   cases fl with
   | next =>
    dsimp only at ho
    cases z : merge fx 0 cs r with
    | none => rw [z] at ho; cases ho
    | some cs' =>
     rw [z] at ho; cases ho
     exact fun σ' C' H' p => (hok _ cs' rfl).2 .non C' H' (Post.finish e p z) (show Is K C' (.s .non) .non from is_s)
   | brk => cases ho
   | cont => cases ho
   | ret v =>
    dsimp only at ho
    cases y : handed cs.length r v with
    | none => rw [y] at ho; cases ho
    | some r' =>
     rw [y] at ho
     dsimp only at ho
     cases z : merge fx 0 cs r with
     | none => rw [z] at ho; cases ho
     | some cs' =>
      rw [z] at ho; cases ho
      exact fun u σ' C' H' p k => (hok r' cs' rfl).2 u C' H' (Post.finish e p z) (VOk.finish e p z k y).2
theorem def_fnD {P : Program} {w : World} {mg : Str → Option Value} {base : Heap} {k n : Nat} {x qual : Str} {pa : Arguments} {bd : List Stmt} {sc : Scope} {dvs : List V} {f : Addr} {fd : FuncData} {N ps : List Str} {fx : List Nat} {body : PL.P Fl} (F : FunD K x qual pa bd sc dvs [] f fd) (S : FnScope N ps sc) (hn : ps.length = n) (hN : n ≤ N.length)
  (hbody : ∀ (cdv : Value) (A : Around) (outer : List PySem.Env) (s : Shared) (H : Hp) (E : XK), CtxOk (fun _ : Unit => cxOf (L2.CX P w) P w K mg base N qual sc f cdv A outer s H E) P w K mg base k (WB E) N sc →
   BSs (fun _ : Unit => cxOf (L2.CX P w) P w K mg base N qual sc f cdv A outer s H E) K (WB E) fx bd body) : FnOk P w K mg base (L2.CX P w) (k + 1) f fd ps (spF K n (runF fx N.length body)) := by
 refine F.ok S (fun vs H Q E h => by rw [hn]; exact h.1) fun cdv A outer s H vs Q E hr h => ?_
 obtain ⟨t, h1, h2⟩ := hbody cdv A outer s H E ⟨fun _ => rfl, fun _ => rfl, fun _ => rfl, fun _ => rfl, fun _ => rfl, fun _ => hr, fun _ => takes_of rfl rfl rfl rfl, fun _ => rfl, fun _ => passes_of rfl, fun _ => rfl, fun _ => rfl, S.nd⟩
 exact ⟨t, h1 (), spF_go hN h2 h⟩
end
section
variable {X : Cx} {CX : CXT} {k : Nat} {f C : Addr} {fd : FuncData} {ps : List Str} {sp : Sp} {E : L2.St → XK} {x m : Str} {p pos apos : Pos} {e o : Expr} {es : List Expr} {ta : TE} {t : TA} {ds : List Value} {dvs : List V}
theorem run_makeD {pins : List (Addr × Obj)} {σ : L2.St} {H : Hp} {s : Shared} {Q : VK} {us : List Value} {vs : List V} (M : Mk X.K C f) (F : FnOk X.prog X.w X.K X.mg X.base CX k f fd ps sp) (hr : Room (k + 1) X.A) (hb : Binds X.K fd ps ds) (hd : Vals dvs ds)
  (hx : PassesAt CX X σ (E σ)) (I : Inv X pins σ H s) (r : Vals vs us)
  (h : ∀ x dx, H x = none → H dx = none → dx ≠ x → sp (.ref x :: (vs ++ dvs)) (upd (upd H dx (.own x)) x (.ins C dx [])) (fun v H2 => v = .non ∧ Q (.ref x) H2) (E σ)) :
  wpAny (model X.prog X.w) X.A (call (.ref C) us) (EP X pins σ Q) X.xe s := by
 have hq := h (s.heap.objs.size + 1) s.heap.objs.size (I.hok.fresh (Nat.le_succ _)) (I.hok.fresh (Nat.le_refl _)) (Nat.ne_of_lt (Nat.lt_succ_self _))
 have I2 := Inv.made (C := C) I
 have r2 : Vals (V.ref (s.heap.objs.size + 1) :: (vs ++ dvs)) (Value.ref (s.heap.objs.size + 1) :: (us ++ ds)) := .cons rfl (r.append hd)
 have hl : (Value.ref (s.heap.objs.size + 1) :: us ++ ds).length = ps.length := by
  have e := r2.length
  rw [F.len _ _ _ _ hq] at e
  exact e.symm
 have hb2 := hb _ (Value.ref (s.heap.objs.size + 1) :: us) I2.kIn hl
 refine wpAny_call (make_map (f := f) I.kIn M.makes M.init (beq_iff_eq.mp M.fn) (codeAny_mono (F.run _ X.stack _ _ ⟨Value.ref (s.heap.objs.size + 1) :: us, []⟩ (Value.ref (s.heap.objs.size + 1) :: (us ++ ds)) _ _ (E σ) (hr.make C us [])
  (I2.env0.make C us []) hb2 r2 hq) fun r s' hq' => ?_))
 cases r with
 | error e => exact hx pins _ _ e s' I2 hq'
 | ok fl =>
  cases fl with
  | ret u =>
   obtain ⟨v, H', I3, rv, ev, q3⟩ := I2.after hq'
   subst ev
   exact ⟨rv, ⟨V.ref (s.heap.objs.size + 1), H', I3, rfl, q3⟩⟩
  | next => exact False.elim hq'
  | brk => exact False.elim hq'
  | cont => exact False.elim hq'
def spA (sp : Sp) (dvs : List V) : Sp := fun vs H Q E => sp (vs ++ dvs) H Q E
theorem pe_makeD (M : Mk X.K C f) (F : FnOk X.prog X.w X.K X.mg X.base CX k f fd ps sp) (hr : Room (k + 1) X.A) (hg : Gl X x) (hm : X.mg x = some (.ref C)) (hb : Binds X.K fd ps ds) (hd : Vals dvs ds) (hx : ∀ σ, PassesAt CX X σ (E σ))
  (ha : PA X (e :: es) t) (hdb : (x == ("__debug__" : Str)) = false := by decide) (he : starEach (e :: es) X.env = (false, eval e X.env) :: starEach es X.env := by rfl) (hpl : (backTo pos (starEach es X.env)).any (·.1) = false := by rfl) :
  PE X (.Call (.Name x p) (e :: es) [] pos) (vbw C (spA sp dvs) E t) := by
 refine ⟨fun pins s σ H Q I h => ?_⟩
 refine wpAny_Call_Name_kw (ld_glob I hg hm ?_ hdb)
 refine PySem.W.callWith_K (h₀ := X.base) I.ok.mod.kin M.kp (thn (ha.run pos pins s σ H _ I h) fun us s1 hh => ?_) he hpl
 obtain ⟨vs, H1, I1, r, q⟩ := hh
 exact ⟨I1.kIn, run_makeD M F hr hb hd (hx σ) I1 r q⟩
end
def fApp (g : P (List D)) (cs : List V) : P (List D) := g.bind fun ds => P.ret (ds ++ cs.map .s)
section
variable {K : PySem.W.Frag} {W : WX}
theorem xbi {C : Hp} : ∀ cs : List V, Iss K C (cs.map .s) cs
 | [] => jg
 | c :: cs => ze is_s (xbi cs)
theorem sd_app {t : TA} {g : P (List D)} {cs : List V} (hg : Sd K W (xah K) t g) : Sd K W (xah K) (fun σ H Q => t σ H fun vs H1 => Q (vs ++ cs) H1) (fApp g cs) := by
 intro σ C H ρ e
 show At K W (xah K H) σ C H ρ (fun H Q => t σ H fun vs H1 => Q (vs ++ cs) H1) (yg (g ρ) fun ds => P.ret (ds ++ cs.map .s))
 refine At.bind (tk := fun (vs : List V) (H1 : Hp) Q => Q (vs ++ cs) H1) (hg σ C H ρ e) fun ds ρ1 vs C1 H1 p1 r1 => ?_
 exact At.ret (R := xah K H) (v := vs ++ cs) p1.env (show Iss K C1 (ds ++ cs.map .s) (vs ++ cs) from Iss.app r1 (xbi cs))
theorem sd_makeD {n : Nat} {C : Addr} {F : PL.P Rv} {t : TA} {g : PL.P (List D)} {cs : List V} (hg : Sd K W (xah K) t g) : Sd K W (VRel K) (vbw C (spA (spF K (n + 1) F) cs) (WE W) t) (j9 n C F (fApp g cs)) :=
 sd_make (sd_app (cs := cs) hg)
end
structure qbf (P : Program) (w : World) (K : PySem.W.Frag) (mg : Str → Option Value) (base : Heap) (k : Nat) (x : Str) (n : Nat) (C : Addr) (cs : List V) (F : PL.P Rv) : Prop where
 ex : ∃ (f : Addr) (fd : FuncData) (ps : List Str) (ds : List Value), FnOk P w K mg base (L2.CX P w) k f fd ps (spF K (n + 1) F) ∧ Mk K C f ∧ mg x = some (.ref C) ∧ Binds K fd ps ds ∧ Vals cs ds
theorem qbq {P : Program} {w : World} {K : PySem.W.Frag} {mg : Str → Option Value} {base : Heap} {k : Nat} {m x qual : Str} {fx : List Nat} {NN ps : List Str} {n : Nat} {pa : Arguments} {bd : List Stmt} {sc : Scope} {dvs cs : List V} {f : Addr} {fd : FuncData} {body : PL.P Fl} {C : Addr} (F : FunD K m qual pa bd sc dvs [] f fd) (M : Mk K C f) (hm : mg x = some (.ref C)) (hb : ∃ ds, Vals cs ds ∧ Binds K fd ps ds) (S : FnScope NN ps sc) (hn : ps.length = n + 1) (hN : n + 1 ≤ NN.length)
  (hbody : ∀ (cdv : Value) (A : Around) (outer : List PySem.Env) (s : Shared) (H : Hp) (E : XK), CtxOk (fun _ : Unit => cxOf (L2.CX P w) P w K mg base NN qual sc f cdv A outer s H E) P w K mg base k (WB E) NN sc →
   BSs (fun _ : Unit => cxOf (L2.CX P w) P w K mg base NN qual sc f cdv A outer s H E) K (WB E) fx bd body) : qbf P w K mg base (k + 1) x n C cs (runF fx NN.length body) := by
 obtain ⟨ds, h1, h2⟩ := hb
 exact ⟨⟨f, fd, ps, ds, def_fnD F S hn hN hbody, M, hm, h2, h1⟩⟩
section
variable {ι : Type} {X : ι → Cx} {P : Program} {w : World} {K : PySem.W.Frag} {mg : Str → Option Value} {base : Heap} {k : Nat} {W : WX} {N : List Str} {sc : Scope} {e : Expr} {es : List Expr} {pos p : Pos} {x : Str} {gd : PL.P (List D)}
theorem zbu {n : Nat} {C : Addr} {cs : List V} {F : PL.P Rv} (B : CtxOk X P w K mg base (k + 1) W N sc) (hF : qbf P w K mg base k x n C cs F) (ha : BAd X K W (e :: es) gd) (hg : sc.names.lookup x = some .globalImplicit := by rfl) (hdb : (x == ("__debug__" : Str)) = false := by decide)
  (he : ∀ i, starEach (e :: es) (X i).env = (false, eval e (X i).env) :: starEach es (X i).env := by intro _; rfl) (hpl : ∀ i, (backTo pos (starEach es (X i).env)).any (·.1) = false := by intro _; rfl) : BE X K W (.Call (.Name x p) (e :: es) [] pos) (j9 n C F (fApp gd cs)) := by
 obtain ⟨ta, pa, sa⟩ := ha
 obtain ⟨f, fd, ps, ds, h1, h2, h3, h4, h5⟩ := hF.ex
 refine ⟨_, fun i => ?_, sd_makeD sa⟩
 obtain ⟨q1, q2, q3, q4, q5⟩ := And.intro (B.pP i) (And.intro (B.pw i) (And.intro (B.pK i) (And.intro (B.pm i) (B.pb i))))
 subst q1 q2 q3 q4 q5
 exact pe_makeD h2 h1 (B.room i) (B.gl hg i) h3 h4 h5 (fun σ => passAt (B.tk i) σ) (pa i) hdb (he i) (hpl i)
end
section
variable {QD : List D → En → Prop} {E : Exn → En → Prop} {ρ : En}
theorem wp_app {g : P (List D)} {cs : List V} : wp (fApp g cs) QD E ρ ↔ wp g (fun ds r => QD (ds ++ cs.map .s) r) E ρ := by
 unfold fApp
 rw [wp_bind]
 exact kh fun ds r => xp
end
end PL
namespace PL
open PySem L2 PySem.Spec PyProof.Rows
structure MethAtF (K : PySem.W.Frag) (C : Addr) (m qual : Str) (st : Stmt) (f : Addr) (dvs : List V) : Prop where
 at_ : PySem.W.findIn K (.ref C) m = some (some (.ref f))
 isf : PySem.W.isFn K (.ref f) = true
 fn : ∃ fd, FunD K m qual (defArgs st) (defBody st) (defScope st) dvs [] f fd
theorem MethAtF.of {K : PySem.W.Frag} {C : Addr} {m qual : Str} {st : Stmt} {f T : Addr} {dvs : List V} {oc : Value} {od : Option Addr} {dc pm : Value} {an : Option Addr} {cd ct : Value} {sl : Array (Option Value)} {kV tc : Value} {td : Option Addr} {its : Array Value} {n : Nat} {ts : Array (Option Value)}
  (a : PySem.W.findIn K (.ref C) m = some (some (.ref f))) (l : K.lookup f = some ⟨oc, od, .func (PySem.W.fnOf m qual (defArgs st) (defBody st) (defScope st) (.ref T) kV dc pm an cd ct), sl⟩) (c : PySem.W.codeIn K cd qual = true) (k : PySem.W.keepIn K (.ref f) = true) (i : PySem.W.isFn K (.ref f) = true)
  (lT : K.lookup T = some ⟨tc, td, .seq its n, ts⟩) (hv : Vals dvs its.toList) (hd : dvs ≠ []) : MethAtF K C m qual st f dvs :=
 ⟨a, i, _, ⟨⟨oc, od, .ref T, kV, dc, pm, an, cd, ct, sl, rfl, l, c, .inr ⟨hd, T, _, its.toList, n, rfl, lT, by rw [Array.toArray_toList], hv⟩, .inl rfl⟩, k⟩⟩
theorem MethAtF.mkOk {K : PySem.W.Frag} {C : Addr} {q : Str} {st : Stmt} {f : Addr} {dvs : List V} (a : MethAtF K C "__init__" q st f dvs) (h : PySem.W.makesIn K C = true) (k : PySem.W.keepIn K (.ref C) = true) : Mk K C f := ⟨h, a.at_, a.isf, k⟩
end PL
namespace PL
open PySem L2 PySem.Spec PyProof.Rows
def rInT (K : PySem.W.Frag) (b : Bool) : R2 := fun x y H Q => ∃ d ds, Dp K H x d ∧ Dp K H y (.tuple ds) ∧ SeqAt.shaped d = true ∧ SeqAt.shaped (.tuple ds) = true ∧ Q (.bl (b ^^ ds.any fun z => PyData.eqv z d)) H
section
variable {X : Cx}
theorem op_notInT (hu : X.A.units + 65 < cLine) : OpR X (compareOp .NotIn) (rInT X.K true) := by
 intro pins s σ H x y v u Q I rx ry hh
 obtain ⟨d, ds, hd, he, sd, se, hq⟩ := hh
 rw [Bool.true_xor] at hq
 obtain ⟨as, g1⟩ := Dp.reads I d x v hd rx
 obtain ⟨bs, g2⟩ := Dp.reads I (.tuple ds) y u he ry
 exact SeqAt.notIn_tuple_reads g2 g1 (SeqAt.canLay_of_shaped se) (SeqAt.canLay_of_shaped sd) (room_in_shaped sd hu) ⟨.bl _, H, I, rfl, hq⟩
end
def inXB (x y : D) : Option Bool := match toPy x with
 | none => none
 | some a => match toPy y with
  | some (.list ds) => if (SeqAt.shaped a && SeqAt.shaped (.list ds)) = true then some (ds.any fun z => PyData.eqv z a) else none
  | some (.tuple ds) => if (SeqAt.shaped a && SeqAt.shaped (.tuple ds)) = true then some (ds.any fun z => PyData.eqv z a) else none
  | _ => none
def qj (x y : D) : Option Rv := match inXB x y with
 | some b => some (rvB (!b))
 | none => none
theorem inXB_some {x y : D} {b : Bool} (h : inXB x y = some b) : ∃ a ds, toPy x = some a ∧ SeqAt.shaped a = true ∧ b = (ds.any fun z => PyData.eqv z a) ∧ ((toPy y = some (.list ds) ∧ SeqAt.shaped (.list ds) = true) ∨ (toPy y = some (.tuple ds) ∧ SeqAt.shaped (.tuple ds) = true)) := by
 unfold inXB at h
 cases q1 : toPy x with
 | none => rw [q1] at h; cases h
 | some a =>
  rw [q1] at h
  dsimp only at h
  split at h
  ·rename_i ds q2
   obtain ⟨h1, rfl⟩ := we h
   obtain ⟨h2, h3⟩ := Bool.and_eq_true_iff.mp h1
   exact ⟨a, ds, rfl, h2, rfl, .inl ⟨q2, h3⟩⟩
  ·rename_i ds q2
   obtain ⟨h1, rfl⟩ := we h
   obtain ⟨h2, h3⟩ := Bool.and_eq_true_iff.mp h1
   exact ⟨a, ds, rfl, h2, rfl, .inr ⟨q2, h3⟩⟩
  ·cases h
section
variable {K : PySem.W.Frag}
theorem ok_notInXD : R2Ok K (fun x y H Q => L2.rNotInD K x y H Q ∨ rInT K true x y H Q) qj := by
 intro C H e dx dy x y rv Q h hx hy g
 unfold qj at h
 cases q : inXB dx dy with
 | none => rw [q] at h; cases h
 | some b =>
  rw [q] at h; cases h
  obtain ⟨a, ds, h1, h2, rfl, ⟨h3, h4⟩ | ⟨h3, h4⟩⟩ := inXB_some q
  ·exact .inl ⟨a, ds, qbg e h1 hx, qbg e h3 hy, h2, h4, g.d e⟩
  ·exact .inr ⟨a, ds, qbg e h1 hx, qbg e h3 hy, h2, h4, by rw [Bool.true_xor]; exact g.d e⟩
end
section
variable {ι : Type} {X : ι → Cx} {P : Program} {w : World} {K : PySem.W.Frag} {mg : Str → Option Value} {base : Heap} {k : Nat} {W : WX} {N : List Str} {sc : Scope}
theorem zat (B : CtxOk X P w K mg base k W N sc) : COp X K .NotIn qj := .mk _ _ (fun i => by
 have hu : (X i).A.units + 65 < cLine := by have := B.u64 i; omega
 have := (L2.op_notInD (X := X i) hu).or (op_notInT (X := X i) hu)
 rw [B.pK i] at this
 exact this) ok_notInXD
end
theorem inX_of {x : D} {ds : List D} {n : Nat} (hx : shp x = true) (hs : ∀ d ∈ ds, shp d = true) (hd : ∀ d ∈ ds, dep d ≤ n) (hn : n ≤ 63) : inXB x (.tup ds) = some (ds.any fun z => PyData.eqv (py z) (py x)) ∧ inXB x (.lst ds) = some (ds.any fun z => PyData.eqv (py z) (py x)) := by
 have h1 := yax hx
 have h2 := yax (shp_tup hs hd hn)
 have h3 := yax (shp_lst hs hd hn)
 rw [waa hs] at h2
 rw [py_lst hs] at h3
 unfold inXB
 rw [h1.1, h2.1, h3.1]
 dsimp only
 rw [if_pos (by rw [h1.2, h2.2]; rfl), if_pos (by rw [h1.2, h3.2]; rfl), List.any_map]
 exact ⟨rfl, rfl⟩
end PL
namespace PL.SX
open PySem PySem.Calls PyProof.Rows PySem.Spec L2
def keyS (e : Int × Value) : Str := match e.2 with | .str k _ => k | _ => Str.empty
section
variable (P : Program) (w : World)
def GoodS (e : Int × Value) : Prop := ∃ k tk, e.2 = Value.str k tk ∧ e.1 = (PySem.strKind P w).hash k
def SetS (h : Heap) (a : Addr) (xs : List Str) : Prop :=
 ∃ o es ep t, h.get? a = some o ∧ o.ExactSet ∧ o.data = .set es ep t ∧ (∀ e ∈ es.toList, GoodS P w e) ∧ (es.toList.map keyS).Nodup ∧ (∀ k, k ∈ xs ↔ k ∈ es.toList.map keyS) ∧
  es.size < scanBound ∧ t.fits es.size = true ∧ Ris t.place.toList ∧ (w.params.followText "set-order" = true ∨ t.led = true)
end
section
variable {P : Program} {w : World} {h h' : Heap} {a : Addr} {xs : List Str}
theorem SetS.at (R : SetS P w h a xs) (k : ∀ o, h.get? a = some o → h'.get? a = some o) : SetS P w h' a xs := by
 obtain ⟨o, es, ep, t, ho, r⟩ := R
 exact ⟨o, es, ep, t, k o ho, r⟩
theorem qb7 {l : List (Int × Value)} (g : ∀ e ∈ l, GoodS P w e) : ElemsOf (PySem.strKind P w) l := fun e he => by
 obtain ⟨k, tk, h1, h2⟩ := g e he
 exact ⟨⟨k, by rw [h1]; exact strKind_is P w k tk, h2⟩, by rw [h1] <;> rfl⟩
theorem goodS_is {e : Int × Value} (g : GoodS P w e) (k : Str) : (PySem.strKind P w).is k e.2 = true ↔ keyS e = k := by
 obtain ⟨k0, tk, h1, _⟩ := g
 unfold keyS
 rw [h1]
 show Value.isStrOf k (.str k0 tk) = true ↔ k0 = k
 simp [Value.isStrOf]
theorem xb0 {l : List (Int × Value)} (g : ∀ e ∈ l, GoodS P w e) (k : Str) : k ∈ l.map keyS ↔ ∃ e ∈ l, (PySem.strKind P w).is k e.2 = true := by
 rw [List.mem_map]
 constructor
 ·rintro ⟨e, he, q⟩
  exact ⟨e, he, (goodS_is (g e he) k).2 q⟩
 ·rintro ⟨e, he, q⟩
  exact ⟨e, he, (goodS_is (g e he) k).1 q⟩
end
theorem nodup_len {α : Type} [DecidableEq α] {l xs : List α} (h : l.Nodup) (m : ∀ x ∈ l, x ∈ xs) : l.length ≤ xs.length := by
 induction l generalizing xs with
 | nil => exact Nat.zero_le _
 | cons x l ih =>
  obtain ⟨h1, h2⟩ := List.nodup_cons.mp h
  have hx := m x List.mem_cons_self
  have := ih (xs := xs.erase x) h2 fun y hy => (List.mem_erase_of_ne (fun e : y = x => h1 (by rw [← e]; exact hy))).mpr (m y (List.mem_cons_of_mem _ hy))
  have h3 := List.length_erase_of_mem hx
  have h4 : 0 < xs.length := List.length_pos_of_mem hx
  rw [List.length_cons]
  omega
section
variable {P : Program} {w : World} {A : Around} {E : Value → Shared → Prop} {s : Shared} {a : Addr} {xs : List Str}
theorem qao {g : Bool → Sem Unit} (hg : ∀ (b : Bool) (s₁ : Shared) (Q' : Unit → Shared → Prop), Q' () s₁ → wpAny (model P w) A (g b) Q' E s₁)
  {o : Obj} {es : Array (Int × Value)} {ep : Nat} {t : SetTable} (ho : s.heap.get? a = some o) (hex : o.ExactSet) (hd : o.data = .set es ep t)
  {es1 : Array (Int × Value)} {t2 : SetTable} {xs' : List Str} (g1 : ∀ e ∈ es1.toList, GoodS P w e) (nd1 : (es1.toList.map keyS).Nodup) (m1 : ∀ k, k ∈ xs' ↔ k ∈ es1.toList.map keyS)
  (hb1 : es1.size < scanBound) (hf2 : t2.fits es1.size = true) (hr : Ris t2.place.toList) (hl : w.params.followText "set-order" = true ∨ t2.led = true) {wasDummy : Bool} {R : Option Bool → Shared → Prop}
  (hR : ∀ h', Heap.SameBut a s.heap h' → SetS P w h' a xs' → R (some true) { s with heap := h' }) :
  wpAny (model P w) A (do
    storeSet a es1 t2
    if (!wasDummy && t2.tooFull) = true then do
      g (relayAll t2 es1 (SetTable.grown es1.size)).2.2
      storeSet a (relayAll t2 es1 (SetTable.grown es1.size)).1 (relayAll t2 es1 (SetTable.grown es1.size)).2.1
      pure (some true)
     else pure (some true)) R E s := by
 refine wpAny_bind (wpAny_storeSet_of ho hd ?_ (fits_of_scanBound hb1))
 have ho1 := store_at (es' := es1) (t' := t2) ho hd
 have sb1 := Heap.SameBut.update s.heap a (Obj.putSet es1 t2)
 split
 ·have pm := relayAll_perm t2 es1 (SetTable.grown es1.size)
  have hf3 := relayAll_fits t2 es1 (SetTable.grown es1.size)
  have hr3 := relayAll_ris t2 es1 (SetTable.grown es1.size)
  have hl3 := relayAll_led t2 es1 (SetTable.grown es1.size)
  generalize relayAll t2 es1 (SetTable.grown es1.size) = Z at pm hf3 hr3 hl3 ⊢
  obtain ⟨es2, t3, gave⟩ := Z
  dsimp only at pm hf3 hr3 hl3 ⊢
  have hsz : es2.size = es1.size := by rw [← Array.length_toList, pm.length_eq, Array.length_toList]
  have hb2 : es2.size < scanBound := by rw [hsz]; exact hb1
  refine wpAny_bind (hg _ _ _ ?_)
  refine wpAny_bind (wpAny_storeSet_of ho1 rfl ?_ (fits_of_scanBound hb2))
  have ho2 := store_at (es' := es2) (t' := t3) ho1 rfl
  refine wpAny_pure (hR _ (sb1.trans (Heap.SameBut.update _ a _)) ?_)
  exact ⟨_, es2, _, t3, ho2, hex, rfl, fun e he => g1 e (pm.mem_iff.mp he), (pm.map keyS).nodup_iff.mpr nd1, fun k => (m1 k).trans (pm.map keyS).mem_iff.symm, hb2, hf3, hr3,
   hl.imp id fun z => by rw [hl3]; exact z⟩
 ·exact wpAny_pure (hR _ sb1 ⟨_, es1, _, t2, ho1, hex, rfl, g1, nd1, m1, hb1, hf2, hr, hl⟩)
theorem wa9 {k : Str} {tk : Tok} {Q : Bool → Shared → Prop} (R : SetS P w s.heap a xs) (room : xs.length + 1 < scanBound)
  (hQ : ∀ b h', Heap.SameBut a s.heap h' → SetS P w h' a (xs ++ [k]) → Q b { s with heap := h' }) :
  wpAny (model P w) A (setAddHashed a (.str k tk) ((PySem.strKind P w).hash k)) Q E s := by
 obtain ⟨o, es, ep, t, ho, hex, hd, g, nd, hm, hb, hf, hr, hl⟩ := R
 have hkey : (PySem.strKind P w).is k (.str k tk) = true := strKind_is P w k tk
 have hsc : (Value.str k tk).scannable = true := rfl
 have hel : ElemsOf (PySem.strKind P w) es.toList := qb7 g
 have hn : es.size ≤ xs.length := by
  have := nodup_len nd fun x hx => (hm x).mpr hx
  rwa [List.length_map, Array.length_toList] at this
 unfold setAddHashed setAddHashedIn
 refine wpAny_holding (wpAny_bind (wpAny_setState_of ho hd hf ?_))
 dsimp only
 rw [byScan_of hsc hb hel]
 simp only [↓reduceIte]
 unfold setAddByScan
 refine wpAny_bind ?_
 refine wpAny_bind (wpAny_rule ?_)
 refine wpAny_bind (wpAny_setScan_of hkey ho hd hf hel ?_)
 cases hfi : List.findIdx? (fun e => (PySem.strKind P w).is k e.2) es.toList with
 | some j =>
  dsimp only
  obtain ⟨hj, pj, _⟩ := List.findIdx?_eq_some_iff_getElem.mp hfi
  have hSk : k ∈ xs := (hm k).2 ((xb0 g k).2 ⟨es.toList[j], List.getElem_mem hj, pj⟩)
  refine wpAny_pure (wpAny_pure ?_)
  exact hQ false s.heap (Heap.SameBut.refl a s.heap) ⟨o, es, ep, t, ho, hex, hd, g, nd, fun i => by
   rw [List.mem_append, List.mem_singleton, ← hm i]
   exact ⟨fun z => z.elim id (fun e => e ▸ hSk), .inl⟩, hb, hf, hr, hl⟩
 | none =>
  dsimp only
  have hnk : k ∉ es.toList.map keyS := fun z => by
   obtain ⟨e, he, q⟩ := (xb0 g k).1 z
   have c := List.findIdx?_eq_none_iff.mp hfi e he
   rw [q] at c
   cases c
  have hgw : ∀ (b : Bool) {s₁ : Shared} {Q' : Unit → Shared → Prop}, Q' () s₁ → wpAny (model P w) A (match b with | true => rule "set.scan.the-table-gave-way" | false => pure ()) Q' E s₁ :=
   fun b s₁ Q' q => by cases b <;> first | exact wpAny_pure q | exact wpAny_rule q
  have pm := layNew_perm t es ((PySem.strKind P w).hash k) (.str k tk)
  have hf1 := layNew_fits t es ((PySem.strKind P w).hash k) (.str k tk)
  have hr1 := layNew_ris t es ((PySem.strKind P w).hash k) (.str k tk) hr
  have hl1 := layNew_led t es ((PySem.strKind P w).hash k) (.str k tk)
  generalize layNew t es ((PySem.strKind P w).hash k) (.str k tk) = Z at pm hf1 hr1 hl1 ⊢
  obtain ⟨es1, t1, wasDummy, gave⟩ := Z
  dsimp only at pm hf1 hr1 hl1 ⊢
  rw [Array.toList_push] at pm
  have pc : es1.toList.Perm (((PySem.strKind P w).hash k, Value.str k tk) :: es.toList) := pm.trans (List.perm_append_singleton _ _)
  have pk : (es1.toList.map keyS).Perm (k :: es.toList.map keyS) := pc.map keyS
  have g1 : ∀ e ∈ es1.toList, GoodS P w e := fun e he => by
   rcases List.mem_cons.mp (pc.mem_iff.mp he) with z | z
   ·rw [z]; exact ⟨k, tk, rfl, rfl⟩
   ·exact g e z
  have nd1 : (es1.toList.map keyS).Nodup := pk.nodup_iff.mpr (List.nodup_cons.mpr ⟨hnk, nd⟩)
  have m1 : ∀ i, i ∈ xs ++ [k] ↔ i ∈ es1.toList.map keyS := fun i => by
   rw [List.mem_append, List.mem_singleton, hm i, pk.mem_iff, List.mem_cons]
   exact Or.comm
  have hsz : es1.size = es.size + 1 := by rw [← Array.length_toList, pc.length_eq, List.length_cons, Array.length_toList]
  have hb1 : es1.size < scanBound := by rw [hsz]; omega
  have hled : w.params.followText "set-order" = true ∨ t1.led = true := hl.imp id fun z => by rw [hl1]; exact z
  have fin : ∀ h', Heap.SameBut a s.heap h' → SetS P w h' a (xs ++ [k]) → Q true { s with heap := h' } := fun h' sb r => hQ true h' sb r
  refine wpAny_bind (hgw _ ?_)
  split
  ·refine wpAny_bind ?_
   rw [hashByValue_scannable 8 hsc]
   refine wpAny_pure ?_
   refine qao ?_ ho hex hd g1 nd1 m1 hb1 ?_ ?_ ?_ ?_
   ·intro b s₁ Q' q; cases b <;> first | exact wpAny_pure q | exact wpAny_rule q
   ·first | (split <;> first | exact hf1 | exact SetTable.fits_plain_off hf1) | exact hf1
   ·first | (split <;> exact hr1) | exact hr1
   ·first | (split <;> exact hled) | exact hled
   ·intro h' sb r; dsimp only; exact wpAny_pure (fin h' sb r)
  ·refine wpAny_bind (wpAny_pure ?_)
   simp only [↓reduceIte]
   refine qao ?_ ho hex hd g1 nd1 m1 hb1 hf1 hr1 hled ?_
   ·intro b s₁ Q' q; cases b <;> first | exact wpAny_pure q | exact wpAny_rule q
   ·intro h' sb r; dsimp only; exact wpAny_pure (fin h' sb r)
end
section
variable {P : Program} {w : World} {A : Around} {E : Value → Shared → Prop} {s : Shared} {R : Result → Shared → Prop} {I : Addr} {fp wr : List Addr} {G : Array GenState → Array GenState → Prop} {n : Nat} {Pv : Nat → Value → Prop} {St : Nat → Shared → Prop}
theorem upd_txtsS (W : WalksS P w A.in1 I fp wr G n Pv St) (S : Addr) (hSf : S ∉ fp) (xs : List Str) (hn : n = xs.length) (hb : xs.length + 1 < scanBound)
  (hval : ∀ i v, Pv i v → ∃ k t, xs[i]? = some k ∧ v = .str k t) : ∀ (k i : Nat) (s : Shared), n - i = k → i ≤ n → St i s → SetS P w s.heap S (xs.take i) →
   (∀ s', Moved (S :: wr) G s s' → SetS P w s'.heap S xs → R (.ok (.ret .none)) s') → codeAny (model P w) A (.builtin "set.update.loop" ⟨[.ref S, .ref I], []⟩) R s := by
 have nS : S ∉ wr := fun h => hSf (W.sub _ h)
 have sb0 : ∀ b ∈ wr, b ∈ S :: wr := fun b q => List.mem_cons_of_mem _ q
 intro k
 induction k with
 | zero =>
  intro i s e0 hi hst hS hR
  obtain rfl : i = n := by omega
  refine codeAny_builtin F.entry_set_update_loop ?_
  rw [Around.under_plainId F.plain_set_update_loop _]
  show wpAny _ A.in1 (pyNext (.ref I) >>= _) _ _ s
  refine wpAny_bind (W.done s _ _ hst fun s' hm => ?_)
  show wpAny _ A.in1 (ret Value.none) _ _ s'
  rw [List.take_of_length_le (show xs.length ≤ i by omega)] at hS
  exact wpAny_pure (hR s' (hm.mono sb0) (hS.at fun o q => hm.heap S o nS q))
 | succ k ih =>
  intro i s e0 hi hst hS hR
  have hlt : i < n := by omega
  refine codeAny_builtin F.entry_set_update_loop ?_
  rw [Around.under_plainId F.plain_set_update_loop _]
  show wpAny _ A.in1 (pyNext (.ref I) >>= _) _ _ s
  refine wpAny_bind (W.item i s _ _ hlt hst fun v s' hP hst' hm => ?_)
  obtain ⟨z, t, hz, rfl⟩ := hval i v hP
  have hS' := hS.at (h' := s'.heap) fun o q => hm.heap S o nS q
  show wpAny _ A.in1 (holding [Value.str z t] (setAdd S (.str z t)) >>= _) _ _ s'
  refine wpAny_bind (wpAny_holding ?_)
  unfold setAdd
  have hk : (PySem.strKind P w).is z (.str z t) = true := strKind_is P w z t
  refine wpAny_holding (wpAny_bind ((PySem.strKind P w).pyHash (k := z) hk ?_))
  refine wa9 (s := { s' with toks := s'.toks + 1 }) hS' (by rw [List.length_take]; omega) fun b h' hsb hS2 => ?_
  have e1 : xs.take i ++ [z] = xs.take (i + 1) := by rw [List.take_add_one, hz]; rfl
  rw [e1] at hS2
  refine wpAny_pure ⟨plainId_quiet F.plain_set_update_loop _, ih (i + 1) _ (by omega) hlt (W.frame _ s' _ _ hst' (Nat.le_succ _) fun b q o e => ?_) hS2 fun s'' hm'' hS'' => ?_⟩
  ·rw [hsb.2 b (fun h : b = S => hSf (by rw [← h]; exact q))]; exact e
  ·refine hR s'' (Moved.trans W.gtrans ((hm.mono sb0).then_heap (Nat.le_succ _) fun b o q e => ?_) hm'') hS''
   rw [hsb.2 b (fun h : b = S => q (by rw [h]; exact List.mem_cons_self))]; exact e
theorem setS_fresh {h : Heap} (P : Program) (w : World) : SetS P w (h.push (zaj w)) h.objs.size [] :=
 ⟨_, #[], 0, _, Heap.get?_push_size _ rfl, ⟨rfl, rfl, rfl⟩, rfl, (fun e he => by simp at he), (by simp), (fun k => by simp), (by decide), (by rfl), List.Pairwise.nil, by
  show _ ∨ (!w.params.followText "set-order") = true
  cases w.params.followText "set-order"
  ·exact .inr rfl
  ·exact .inl rfl⟩
set_option maxHeartbeats 6400000 in
theorem set_txtL {l : Addr} {items : Array Value} (xs : List Str) {Q : Value → Shared → Prop} (hh : A.handled = none) (hl : s.heap.IsList l items) (hit : StrsAre items.toList xs) (hb : xs.length + 1 < scanBound)
  (h : ∀ (h' : Heap) (tk : Nat), SetS P w h' s.heap.objs.size xs → (∀ b o, s.heap.get? b = some o → h'.get? b = some o) → Q (.ref s.heap.objs.size) { s with heap := h', toks := tk }) : wpAny (model P w) A (call (.type "set") [.ref l]) Q E s := by
 have hz : items.size = xs.length := by
  have q := hit.len_eq
  rwa [Array.length_toList] at q
 obtain ⟨c, tl, hmro⟩ := F.called_set.mro
 have hmade := F.called_set.made
 have hsub := F.called_set.sub
 refine wpAny_call (codeAny_of_tree ?_)
 show wpAny _ _ (callAny (.type "set") _) _ _ _
 refine wpAny_pure ⟨Code.quiet_builtin _ (by decide +kernel), codeAny_builtin F.entry_type_call ?_⟩
 rw [Around.under_plain (weight_type_call_type "set" [.ref l] []) rfl]
 have h1 := F.called_set.notType
 have h2 := F.called_set.canCreate
 have hct := F.typeCall_set_1 (.ref l)
 repeat (any_goals (first | assumption | wp_step))
 refine codeAny_mono (code_set_led1 (.ref l) (E := E) (Q₁ := fun obj s₁ => obj = .ref s.heap.objs.size ∧ s₁ = { s with heap := s.heap.push (zaj w) }) ⟨rfl, rfl⟩) fun r s₁ hr => ?_
 cases r with
 | error e => exact hr
 | ok fl =>
  cases fl with
  | ret obj =>
   obtain ⟨rfl, rfl⟩ := hr
   have hS : (s.heap.push (zaj w)).get? s.heap.objs.size = some (zaj w) := Heap.get?_push_size _ rfl
   have hT : Shared.TypeIs { s with heap := s.heap.push (zaj w) } (.ref s.heap.objs.size) "set" := ⟨_, hS, rfl⟩
   have hli := F.called_set.init.lookup
   have hbi := F.called_set.init.bind (.ref s.heap.objs.size)
   repeat (any_goals (first | assumption | wp_step))
   refine codeAny_mono (codeAny_call_builtin (R := wants (fun r s₂ => r = .none ∧ ∃ h' tk, s₂ = { s with heap := h', toks := tk } ∧ SetS P w h' s.heap.objs.size xs ∧
     (∀ b o, s.heap.get? b = some o → h'.get? b = some o)) E) F.called_set.init.plain F.entry_set_init (check_set_init_1 hT ?_)) fun r₂ s₂ hr₂ => ?_
   ·obtain ⟨ol, hol, hcl, nl, hdl⟩ := hl
    obtain ⟨ocls, odict, odata, oslots⟩ := ol
    simp only at hcl hdl
    subst hcl hdl
    have hol' : (s.heap.push (zaj w)).get? l = some { cls := .type "list", dict := odict, data := .seq items nl, slots := oslots } := Heap.get?_push_of_some _ hol
    have k1 := F.sub_list_set
    have k2 := F.sub_list_frozenset
    have k3 : (Value.type "list" == Value.type "dict") = false := by decide
    have hl1 : (s.heap.push (zaj w)).IsList l items := ⟨_, hol', rfl, nl, rfl⟩
    unfold Builtin.«set.__init__» noKeywords Builtin.Frozenset.updateFrom
    generalize hPI : pyIter = PI
    wp_walk
    subst hPI
    refine wpAny_pyIter_list hl1 (wpAny_bind (wpAny_runValue ?_))
    have hlS : l < s.heap.objs.size := Heap.lt_size hol
    have hh3 : A.in1.in1.in1.handled = none := by simp [hh]
    have sz1 : (s.heap.push (zaj w)).objs.size = s.heap.objs.size + 1 := Heap.size_push ..
    have hneI : l ≠ (s.heap.push (zaj w)).objs.size := by
     rw [sz1]; exact Nat.ne_of_lt (Nat.lt_succ_of_lt hlS)
    have hSf : s.heap.objs.size ∉ [(s.heap.push (zaj w)).objs.size, l] := by
     rw [sz1]
     intro z
     rcases List.mem_cons.mp z with z | z
     ·exact absurd z (Nat.ne_of_lt (Nat.lt_succ_self _))
     ·exact absurd (List.mem_singleton.mp z) (Nat.ne_of_gt hlS)
    have hval : ∀ (i : Nat) (v : Value), items[i]? = some v → ∃ k t, xs[i]? = some k ∧ v = .str k t := fun i v hv => by
     obtain ⟨y, t, e1, e2⟩ := hit.item i v (by rw [Array.getElem?_toList]; exact hv)
     exact ⟨y, t, e2, e1⟩
    refine upd_txtsS ((Walks.list hh3 _ l hneI items).toS) s.heap.objs.size hSf xs hz hb hval (items.size - 0) 0 _ (by omega) (Nat.zero_le _) ⟨⟨_, Heap.get?_push_size _ rfl, rfl, rfl⟩, (hl1.push _)⟩ ?hS0 ?hR
    case hS0 => exact (setS_fresh (h := s.heap) P w).at fun o q => Heap.get?_push_of_some _ q
    case hR =>
     intro s' hm hS'
     obtain ⟨h', g2, d', tk', os'⟩ := s'
     obtain rfl : g2 = s.gens := hm.gens
     obtain rfl : d' = s.drawn := hm.drawn
     obtain rfl : os' = s.os := hm.os
     show wpAny _ _ _ _ _ _
     refine wpAny_pure ?_
     show wpAny _ _ (ret Value.none) _ _ _
     refine wpAny_pure ⟨rfl, h', tk', rfl, hS', fun b o e => ?_⟩
     have b0 : b < s.heap.objs.size := Heap.lt_size e
     refine hm.heap b o (fun z => ?_) (Heap.get?_push_of_some _ (Heap.get?_push_of_some _ e))
     rw [sz1] at z
     rcases List.mem_cons.mp z with z | z
     ·exact absurd z (Nat.ne_of_lt b0)
     ·exact absurd (List.mem_singleton.mp z) (Nat.ne_of_lt (Nat.lt_succ_of_lt b0))
   ·cases r₂ with
    | error e => exact hr₂
    | ok fl₂ =>
     cases fl₂ with
     | ret r =>
      obtain ⟨rfl, h', tk, rfl, hS', hk'⟩ := hr₂
      repeat (any_goals (first | assumption | wp_step))
      exact h _ _ hS' hk'
     | _ => exact hr₂.elim
  | _ => exact hr.elim
end
end PL.SX
namespace PL.SX
open PySem PySem.Calls PyProof.Rows PySem.Spec L2
def nub : List Str → List Str
 | [] => []
 | x :: xs => if x ∈ xs then nub xs else x :: nub xs
theorem mem_nub {x : Str} : ∀ {xs : List Str}, x ∈ nub xs ↔ x ∈ xs
 | [] => Iff.rfl
 | y :: xs => by
  unfold nub
  split
  ·rename_i h
   rw [mem_nub, List.mem_cons]
   exact ⟨.inr, fun z => z.elim (fun e => e ▸ h) id⟩
  ·rw [List.mem_cons, List.mem_cons, mem_nub]
theorem nub_nd : ∀ xs : List Str, (nub xs).Nodup
 | [] => List.nodup_nil
 | y :: xs => by
  unfold nub
  split
  ·exact nub_nd xs
  ·rename_i h
   exact List.nodup_cons.mpr ⟨fun m => h (mem_nub.mp m), nub_nd xs⟩
theorem nub_len : ∀ xs : List Str, (nub xs).length ≤ xs.length
 | [] => Nat.le_refl _
 | y :: xs => by
  have := nub_len xs
  unfold nub
  split
  ·rw [List.length_cons]; omega
  ·rw [List.length_cons, List.length_cons]; omega
def leT (a b : Str) : Bool := decide (a.cps.toList ≤ b.cps.toList)
def sortT (xs : List Str) : List Str := (nub xs).mergeSort leT
theorem leT_anti {a b : Str} (h1 : leT a b = true) (h2 : leT b a = true) : a = b :=
 PySem.W.str_of_cps (List.le_antisymm (of_decide_eq_true h1) (of_decide_eq_true h2))
theorem leT_tr {a b c : Str} (h1 : leT a b = true) (h2 : leT b c = true) : leT a c = true :=
 decide_eq_true (List.le_trans (of_decide_eq_true h1) (of_decide_eq_true h2))
theorem leT_tot (a b : Str) : (leT a b || leT b a) = true := by
 rcases List.le_total a.cps.toList b.cps.toList with h | h
 ·rw [show leT a b = true from decide_eq_true h]; rfl
 ·rw [show leT b a = true from decide_eq_true h, Bool.or_true]
theorem sort_pw (xs : List Str) : (xs.mergeSort leT).Pairwise fun a b => leT a b = true := List.pairwise_mergeSort (le := leT) (fun _ _ _ => leT_tr) leT_tot xs
theorem sortT_eq {xs ys : List Str} (h1 : ys.Nodup) (h2 : ∀ k, k ∈ ys ↔ k ∈ xs) : ys.mergeSort leT = sortT xs := by
 have hp : ys.Perm (nub xs) := (List.perm_ext_iff_of_nodup h1 (nub_nd xs)).mpr fun k => (h2 k).trans mem_nub.symm
 exact List.Perm.eq_of_pairwise (fun a b _ _ => leT_anti) (sort_pw ys) (sort_pw _) ((List.mergeSort_perm _ _).trans (hp.trans (List.mergeSort_perm _ _).symm))
theorem sortT_len (xs : List Str) : (sortT xs).length ≤ xs.length := by
 unfold sortT
 rw [(List.mergeSort_perm _ _).length_eq]
 exact nub_len xs
theorem mem_sortT {x : Str} {xs : List Str} : x ∈ sortT xs ↔ x ∈ xs := by
 unfold sortT
 rw [(List.mergeSort_perm _ _).mem_iff, mem_nub]
theorem sortT_nd (xs : List Str) : (sortT xs).Nodup := (List.mergeSort_perm _ _).nodup_iff.mpr (nub_nd xs)
theorem ei_strs : ∀ {vs : List Value} {ys : List Str}, EIs (fun v (b : Str) => ∃ t, v = .str b t) vs ys → StrsAre vs ys
 | _, _, .nil => .nil
 | _, _, .cons ⟨t, e⟩ r => by subst e; exact .cons _ t (ei_strs r)
theorem ei_of : ∀ {vs : List Value}, (∀ v ∈ vs, ∃ k tk, v = Value.str k tk) → EIs (fun v (b : Str) => ∃ t, v = .str b t) vs (vs.map fun v => keyS (0, v))
 | [], _ => .nil
 | v :: vs, h => by
  refine .cons ?_ (ei_of fun u hu => h u (List.mem_cons_of_mem _ hu))
  obtain ⟨k, tk, rfl⟩ := h v List.mem_cons_self
  exact ⟨tk, rfl⟩
section
variable {P : Program} {w : World} {A : Around} {E : Value → Shared → Prop} {s : Shared} {a : Addr} {xs : List Str}
theorem sorted_setS {Q : Value → Shared → Prop} (R : SetS P w s.heap a xs) (hh : A.handled = none) (hu : A.units + 4 < cLine)
  (hQ : ∀ s' p (out : Array Value) (c : Nat), (∀ b o, s.heap.get? b = some o → s'.heap.get? b = some o) → s'.gens = s.gens → s'.os = s.os → s.heap.objs.size ≤ p →
   s'.heap.get? p = some (seqObj "list" out c) → StrsAre out.toList (sortT xs) → Q (.ref p) s') :
  wpAny (model P w) A (call (.builtin "sorted") [.ref a]) Q E s := by
 obtain ⟨o, es, ep, t, ho, hex, hd, g, nd, hm, hb, hf, hr, hl⟩ := R
 refine Calls.call_function_entry kind_sorted plain_sorted entry_sorted (args_sorted1 _) ?_
 unfold Builtin.«sorted»
 refine wpAny_bind (m := checkCount "sorted" 1 1 _) (wpAny_pure ?_)
 refine wpAny_bind (collect_set (A := A.in1) hh ⟨o, ho, hex.1, hd⟩ hf hb hr hl fun s1 vs k1 hz g1 o1 pm => ?_)
 have hvl : vs.length = es.size := by rw [pm.length_eq, List.length_map, Array.length_toList]
 have hvs : ∀ v ∈ vs, ∃ k tk, v = Value.str k tk := fun v hv => by
  obtain ⟨e, he, q⟩ := List.mem_map.mp (pm.mem_iff.mp hv)
  obtain ⟨k, tk, h1, _⟩ := g e he
  exact ⟨k, tk, by rw [← q]; exact h1⟩
 have hI := ei_of hvs
 have pk : (vs.map fun v => keyS (0, v)).Perm (es.toList.map keyS) := by
  have q := pm.map fun v => keyS (0, v)
  rw [List.map_map] at q
  exact q
 have hn2 : (vs.map fun v => keyS (0, v)).Nodup := pk.nodup_iff.mpr nd
 have hm2 : ∀ k, k ∈ (vs.map fun v => keyS (0, v)) ↔ k ∈ xs := fun k => pk.mem_iff.trans (hm k).symm
 generalize (vs.map fun v => keyS (0, v)) = ys at hI hn2 hm2
 have sb : scanBound = 4096 := rfl
 refine wpAny_bind (wpAny_newList ?_ (by rw [hvl, sizeLine_eq]; omega))
 have hoL : (s1.heap.push (seqObj "list" vs.toArray 0)).get? s1.heap.objs.size = some (seqObj "list" vs.toArray 0) := Heap.get?_push_size _ rfl
 have hfin : ∀ out : List Value, EIs (fun v (b : Str) => ∃ t, v = .str b t) out (ys.mergeSort (PySem.W.dataLe false (fun b : Str => PyData.str b))) → Q (.ref s1.heap.objs.size) { s1 with heap := sortedHeap (s1.heap.push (seqObj "list" vs.toArray 0)) s1.heap.objs.size vs out.toArray } := fun out eo => by
  rw [PySem.W.dataLe_str (fun b : Str => b)] at eo
  have eo : EIs (fun v (b : Str) => ∃ t, v = .str b t) out (ys.mergeSort leT) := eo
  rw [sortT_eq hn2 hm2] at eo
  obtain ⟨c, hc⟩ := sortedHeap_at (vs := vs) (out := out.toArray) hoL
  refine hQ _ s1.heap.objs.size out.toArray c (fun b u e => ?_) g1 o1 hz hc (ei_strs eo)
  have q := k1 b u e
  have hlt := Heap.lt_size q
  show (sortedHeap (s1.heap.push (seqObj "list" vs.toArray 0)) s1.heap.objs.size vs out.toArray).get? b = some u
  rw [sortedHeap_old (Nat.ne_of_lt hlt) (by rw [size_push']; exact Nat.lt_succ_of_lt hlt)]
  exact Heap.get?_push_of_some _ q
 have hd0 : ∀ b : Str, (PyData.str b).depth = 0 := fun b => by simp [PyData.depth]
 refine wpAny_bind (wpAny_holding (PySem.W.list_sort_data (R := fun v (b : Str) => ∃ t, v = .str b t) (enc := fun b : Str => PyData.str b) (bs := ys) hoL hI (hI.mono fun v b ⟨t, e⟩ => ⟨[], ⟨by rw [e]; exact .str _ _, List.not_mem_nil⟩⟩) (PySem.W.AllAlike.of fun _ _ => by simp [PySem.W.alike]) (PySem.W.Sortable.others fun _ => ⟨(fun z => nomatch z), (fun _ z => nomatch z)⟩) (by rw [← hI.length, hvl, sizeLine_eq]; omega) (fun b _ => by rw [hd0]; simp; omega) fun out ho eo => ?_))
 exact wpAny_pure ⟨_, rfl, hfin out eo⟩
end
end PL.SX
namespace PL
open PySem PySem.Spec PyProof.Rows L2
def tSortSet (K : PySem.W.Frag) (ta : TE) : TE := fun σ H Q => ta σ H fun x H1 => ∃ (l : Addr) (xs : List Str), x = .ref l ∧ SqL K H1 l (xs.map V.str) ∧ xs.length + 1 < scanBound ∧ ∀ p, H1 p = none → Q (.ref p) (upd H1 p (.lst ((SX.sortT xs).map V.str)))
theorem ybw : ∀ {vs : List Value} {xs : List Str}, StrsAre vs xs → Vals (xs.map V.str) vs
 | _, _, .nil => .nil
 | _, _, .cons n t r => .cons ⟨t, rfl⟩ (ybw r)
theorem pe_sortSet {X : Cx} {a : Expr} {ta : TE} {p p2 q pos : Pos} (hu : X.A.units + 67 < cLine) (hc : X.calm = true) (hg : Gl X "sorted") (hm : X.mg "sorted" = none) (hg2 : Gl X "set") (hm2 : X.mg "set" = none) (ha : PE X a ta) (na : starEach [a] X.env = (false, eval a X.env) :: starEach [] X.env) :
  PE X (.Call (.Name "sorted" p) [.Call (.Name "set" p2) [a] [] q] [] pos) (tSortSet X.K ta) := by
 refine ⟨fun pins s σ H Q I h => ?_⟩
 refine Call_ (ld_blt I hg hm boot_sorted (PyProof.Rows.callWith_builtin1 (PyProof.Rows.args_cons ?_ rfl) rfl rfl))
 refine Call_ (ld_blt I hg2 hm2 boot_set ?_)
 refine PyProof.Rows.callWith_type1 (PyProof.Rows.args_cons (thn (ha.run pins s σ H _ I h) fun v s1 ⟨x, H1, I1, r1, l, xs, e1, hq, hb, q1⟩ => PyProof.Rows.args_nil ?_) na) na rfl
 subst e1
 cases r1
 obtain ⟨its, r, pl, hz⟩ := I1.list hq
 refine SX.set_txtL xs (I1.ok.hd hc) pl.isList (by simpa using vals_strs r) hb fun h' tk hS hk => PyProof.Rows.args_nil ?_
 have I2 : Inv X pins σ H1 { s1 with heap := h', toks := tk } := I1.kept fun b o e => hk b o e
 have sb : scanBound = 4096 := rfl
 have hS2 : SX.SetS X.prog X.w ({ s1 with heap := h', toks := tk } : Shared).heap s1.heap.objs.size xs := hS
 generalize ({ s1 with heap := h', toks := tk } : Shared) = s2 at I2 hS2 ⊢
 refine SX.sorted_setS hS2 (I2.ok.hd hc) (by omega) fun s' p out c k g o hp hgt hst => ?_
 have hlen : ((SX.sortT xs).map V.str).length ≤ sizeLine := by
  have := SX.sortT_len xs
  rw [List.length_map, sizeLine_eq]; omega
 have hn : H1 p = none := I2.hok.fresh hp
 have J : Inv X pins σ (upd H1 p (.lst ((SX.sortT xs).map V.str))) { s2 with heap := s'.heap, gens := s'.gens, drawn := s'.drawn, toks := s'.toks } :=
  I2.call (ch := []) (Un.laid k hp hn) (I2.hok.laid k hp ⟨hlen, out.toList, c, ybw hst, hgt⟩) (by rw [g]; exact I2.bare) (fun _ z => nomatch z)
 have e : s' = { s2 with heap := s'.heap, gens := s'.gens, drawn := s'.drawn, toks := s'.toks } := by
  cases s'
  cases s2
  cases o
  rfl
 rw [e]
 exact ⟨.ref p, _, J, rfl, q1 p hn⟩
def waf : D → Option Rv
 | .lst ds => match kbm ds with
  | some xs => if xs.length + 1 < scanBound then some (.new (.lst ((SX.sortT xs).map fun x => D.s (.str x)))) else none
  | none => none
 | _ => none
theorem iss_strs {K : PySem.W.Frag} {C : Hp} : ∀ xs : List Str, Iss K C (xs.map fun x => D.s (.str x)) (xs.map V.str)
 | [] => jg
 | x :: xs => ze is_s (iss_strs xs)
theorem sd_sortSet {K : PySem.W.Frag} {W : WX} {ta : TE} {fa : PL.P Rv} (ha : Sd K W (VRel K) ta fa) : Sd K W (VRel K) (tSortSet K ta) (fUn waf fa) := by
 refine sd_un (r := fun x H1 Q => ∃ (l : Addr) (xs : List Str), x = .ref l ∧ SqL K H1 l (xs.map V.str) ∧ xs.length + 1 < scanBound ∧ ∀ p, H1 p = none → Q (.ref p) (upd H1 p (.lst ((SX.sortT xs).map V.str)))) ?_ ha
 intro C H e dx x rv Q h hx g
 cases dx with
 | lst ds =>
  obtain ⟨a, vs, rfl, h1, h2⟩ := hx
  unfold waf at h
  cases q : kbm ds with
  | none => simp only [q] at h; cases h
  | some xs =>
   simp only [q] at h
   obtain ⟨h3, rfl⟩ := we h
   rw [xbw q h2] at h1
   exact ⟨a, xs, rfl, SqL.of h1, h3, fun p hp => g.lst e (iss_strs _) hp⟩
 | _ => cases h
section
variable {ι : Type} {X : ι → Cx} {P : Program} {w : World} {K : PySem.W.Frag} {mg : Str → Option Value} {base : Heap} {k : Nat} {W : WX} {N : List Str} {sc : Scope} {a : Expr} {fa : PL.P Rv} {p p2 q pos : Pos}
theorem be_sortSet (B : CtxOk X P w K mg base k W N sc) (hm : mg "sorted" = none) (hm2 : mg "set" = none) (ha : BE X K W a fa) (hg : sc.names.lookup ("sorted" : Str) = some .globalImplicit := by rfl) (hg2 : sc.names.lookup ("set" : Str) = some .globalImplicit := by rfl) (na : ∀ i, starEach [a] (X i).env = (false, eval a (X i).env) :: starEach [] (X i).env := by intro _; rfl) :
  BE X K W (.Call (.Name "sorted" p) [.Call (.Name "set" p2) [a] [] q] [] pos) (fUn waf fa) := by
 obtain ⟨t, pa, sa⟩ := ha
 exact ⟨_, fun i => by have := @pe_sortSet (X i) a t p p2 q pos (by have := B.u64 i; omega) (B.calm i) (B.gl hg i) (by rw [B.pm i]; exact hm) (B.gl hg2 i) (by rw [B.pm i]; exact hm2) (pa i) (na i); rw [B.pK i] at this; exact this, sd_sortSet sa⟩
end
end PL
namespace PL
open PySem L2 PySem.Spec PyProof.Rows
end PL
namespace PL
open PySem L2
def truS : V → Option Bool
 | .non => some false
 | .bl b => some b
 | .str z => if z.length ≤ sizeLine then some ((z.length : Int) != 0) else none
 | _ => none
section
variable {QR : Rv → En → Prop} {E : Exn → En → Prop} {ρ : En}
def trQ (d : D) (Q : V → Bool → Prop) : Prop := match d with
 | .s x => wpO (truS x) (Q x)
 | _ => False
theorem wbm {Q : V → Bool → Prop} : trQ (.s .non) Q ↔ Q .non false := Iff.rfl
end
end PL
namespace PL
open PySem PySem.Spec PyProof.Rows L2
theorem tupAt0 {K : PySem.W.Frag} {a : Addr} {its : Array Value} {n : Nat} {sl : Array (Option Value)} {ys : List Str} (h : K.lookup a = some ⟨.type "tuple", none, .seq its n, sl⟩) (hz : its.size ≤ 1000000) (hv : Vals (ys.map V.str) its.toList) :
  ∃ (o : Obj) (its : Array Value) (n : Nat), K.lookup a = some o ∧ o.cls = .type "tuple" ∧ o.dict = none ∧ o.data = .seq its n ∧ its.size ≤ sizeLine ∧ Vals (ys.map V.str) its.toList := ⟨_, its, n, h, rfl, rfl, rfl, Nat.le_trans hz (by rw [size_eq]; decide), hv⟩
end PL
namespace PL
open PySem L2 PySem.Spec PyProof.Rows
def un1 : D → D
 | .lab _ d => d
 | d => d
section
variable {K : PySem.W.Frag} {C H C' H' : Hp} {σ σ' : Sl} {ρ ρ' : En}
theorem is_un1 {d : D} {v : V} (h : Is K C d v) : Is K C (un1 d) v := by
 unfold un1
 split
 ·exact (is_lab_iff.mp h).2
 ·exact h
theorem ybh (h : ∀ (i : Nat) (m : M), ρ'[i]? = some (.own m) ↔ ρ[i]? = some (.own m)) {a : Addr} : kf σ ρ' a ↔ kf σ ρ a := by
 constructor
 ·rintro ⟨i, m, h1, h2⟩; exact ⟨i, m, (h i m).mp h1, h2⟩
 ·rintro ⟨i, m, h1, h2⟩; exact ⟨i, m, (h i m).mpr h1, h2⟩
def Labs (G : En → Prop) (L : List Addr → En → En) : Prop := ∀ K C H σ ρ, G ρ → EnvOk K C H σ ρ → ∃ as, EnvOk K C H σ (L as ρ) ∧ ∀ (i : Nat) (m : M), (L as ρ)[i]? = some (.own m) ↔ ρ[i]? = some (.own m)
def peelR : Rv → Rv
 | .dat d => .dat (un1 d)
 | r => r
def yq (f : P Rv) : P Rv := f.bind fun r => P.ret (peelR r)
theorem sd_peel {W : WX} {t : TE} {f : P Rv} (h : Sd K W (VRel K) t f) : Sd K W (VRel K) t (yq f) := by
 intro σ C H ρ e
 show At K W (VRel K H) σ C H ρ (fun H Q => t σ H fun v H1 => Q v H1) (yg (f ρ) fun r => P.ret (peelR r))
 refine At.bind (tk := fun v H1 (Q : V → Hp → Prop) => Q v H1) (h σ C H ρ e) fun r ρ1 v C1 H1 p1 r1 => ?_
 refine At.ret (R := VRel K H) (v := v) p1.env ?_
 cases r with
 | dat d => exact is_un1 r1
 | new m => exact r1
 | bor i => exact r1
end
section
variable {ι : Type} {X : ι → Cx} {P : Program} {w : World} {K : PySem.W.Frag} {mg : Str → Option Value} {base : Heap} {k : Nat} {W : WX} {N : List Str} {sc : Scope} {fx : List Nat} {e : Expr} {fe : PL.P Rv} {s1 s2 : Stmt} {sts : List Stmt} {G1 G2 G3 : PL.P Fl}
theorem kg (h : BE X K W e fe) : BE X K W e (yq fe) := by
 obtain ⟨t, p, s⟩ := h
 exact ⟨t, p, sd_peel s⟩
end
section
variable {Q : Rv → En → Prop} {QF : Fl → En → Prop} {E : Exn → En → Prop} {ρ : En}
theorem wp_peel {f : P Rv} : wp (yq f) Q E ρ ↔ wp f (fun r r1 => Q (peelR r) r1) E ρ := by
 unfold yq
 rw [wp_bind]
 exact kh fun r r1 => Iff.rfl
theorem peel_dat {d : D} : peelR (.dat d) = .dat (un1 d) := rfl
theorem un1_lab {a : Addr} {d : D} : un1 (.lab a d) = d := rfl
theorem un1_tup {ds : List D} : un1 (.tup ds) = .tup ds := rfl
theorem un1_lst {ds : List D} : un1 (.lst ds) = .lst ds := rfl
end
end PL
namespace PL.NeOwn
open PySem PySem.Spec PyProof.Rows L2
section
variable {M : Model} {prog : Program} {w : World} {A : Around} {E : Value → Shared → Prop} {s : Shared} {K : PySem.W.Frag} {x C : Addr} {ox : Obj} {od : Option Obj}
theorem eq_self {Q : Value → Shared → Prop} (X : K.In s.heap) (I : PySem.W.InstAt s.heap x ox C od) (hm : PySem.W.mroIn K C (.type "object") = some true) (q : Q (.bool true) s) :
  wpAny (model prog w) A (call (.builtin "object.__eq__") [.ref x, .ref x]) Q E s :=
 wpAny_call (codeAny_call_builtin F.cmp_object.eq.plain F.cmpEntry_eq (PySem.W.check_slot F.cmpKind_eq F.cmpSplit_eq (I.type.andThen (PySem.W.looks_mroIn X hm)) (F.cmpArgs_eq _ _) (objEq_entry_same q)))
theorem ne_fin {Q : PySem.Fin → Shared → Prop} (hu : A.units < cLine) (X : K.In s.heap) (I : PySem.W.InstAt s.heap x ox C od) (hm : PySem.W.mroIn K C (.type "object") = some true) (he : PySem.W.findIn K (.ref C) "__eq__" = some (some (.builtin "object.__eq__")))
  (q : Q (.done (.ret (.bool false))) s) : wpAny (model prog w) A (Builtin.«object.__ne__» ⟨[.ref x, .ref x], []⟩) Q E s := by
 unfold Builtin.«object.__ne__»
 repeat (first | with_reducible refine wpAny_cRoomFor hu ?_ | with_reducible refine HN.ifBound_objEq X I he (eq_self X I hm ?_) | wp_step)
 exact q
theorem ne_bound {args : List Value} {Q : Option Value → Shared → Prop} (X : K.In s.heap) (I : PySem.W.InstAt s.heap x ox C od) (hs : PySem.W.findIn K (.ref C) "__ne__" = some (some (.builtin "object.__ne__")))
  (h : wpAny M A (call (.builtin "object.__ne__") (.ref x :: args)) (fun v => Q (some v)) E s) : wpAny M A (callSpecialIfBound? (.ref x) "__ne__" args) Q E s := by
 simp only [callSpecialIfBound?, bindSpecialIfBound?]
 refine wpAny_holding (wpAny_bind (wpAny_bind (wpAny_bind (I.type.here ((PySem.W.looks_findIn X hs).here ?_)))))
 have z : wpAny M A (call (.builtin "object.__ne__") ([.ref x] ++ args) >>= fun v => pure (some v)) Q E s := wpAny_bind (wpAny_mono h (fun _ _ y => wpAny_pure y) fun _ _ y => y)
 refine wpAny_bind (wpAny_askSetting (wpAny_ite ?_))
 split
 ·exact wpAny_bind (wpAny_of_eq (F.cmp_object.ne.bind _) (wpAny_pure (by exact z)))
 ·exact wpAny_tryCatch (wpAny_bind (wpAny_of_eq (F.cmp_object.ne.bind _) (wpAny_pure (by exact z))))
theorem ne_self (hu : A.units + 1 < cLine) (X : K.In s.heap) (I : PySem.W.InstAt s.heap x ox C od) (hm : PySem.W.mroIn K C (.type "object") = some true) (he : PySem.W.findIn K (.ref C) "__eq__" = some (some (.builtin "object.__eq__")))
  (hn : PySem.W.findIn K (.ref C) "__ne__" = some (some (.builtin "object.__ne__"))) : SeqAt.RcNeAt A s (.ref x) (.ref x) false := fun prog w E Q h => by
 have one : wpAny (model prog w) A (tryCompare (.ref x) "__ne__" (.ref x)) (fun r s' => r = some (.bool false) ∧ s' = s) E s := by
  unfold tryCompare
  refine wpAny_bind (ne_bound X I hn (wpAny_call (codeAny_call_builtin F.cmp_object.ne.plain F.cmpEntry_ne (PySem.W.check_slot F.cmpKind_ne F.cmpSplit_ne (I.type.andThen (PySem.W.looks_mroIn X hm)) (F.cmpArgs_ne _ _)
   (ne_fin (A := A.in1) hu X I hm he (wpAny_pure ⟨rfl, rfl⟩))))))
 simp only [richCompare, cmpInfo_NotEq, oneThing_ref]
 refine wpAny_holding (wpAny_bind (wpAny_cRoomFor (by omega) ?_))
 refine wpAny_bind (I.type.here ?_)
 refine wpAny_bind (I.type.here ?_)
 rw [if_neg (by simp)]
 refine wpAny_bind (wpAny_pure ?_)
 simp only [Bool.false_eq_true, if_false]
 refine wpAny_bind (m := tryCompare (.ref x) _ (.ref x)) (wpAny_mono one (fun r s1 z => ?_) fun _ _ e => e)
 obtain ⟨z1, z2⟩ := z
 subst z1
 subst z2
 exact wpAny_pure h
end
end PL.NeOwn
namespace PL
open PySem PySem.Spec PyProof.Rows L2
def NoCmp (K : PySem.W.Frag) (C : Addr) : Prop := PySem.W.mroIn K C (.type "object") = some true ∧ PySem.W.findIn K (.ref C) "__eq__" = some (some (.builtin "object.__eq__")) ∧ PySem.W.findIn K (.ref C) "__ne__" = some (some (.builtin "object.__ne__"))
def rNeOb (K : PySem.W.Frag) : R2 := fun x y H Q => ∃ (a C dx : Addr) (fs : List (Str × V)), x = V.ref a ∧ y = V.ref a ∧ H a = some (.ins C dx fs) ∧ NoCmp K C ∧ Q (.bl false) H
theorem op_neOb {X : Cx} (hu : X.A.units + 1 < cLine) : OpR X (compareOp .NotEq) (rNeOb X.K) := by
 intro pins s σ H x y v u Q I rx ry h
 obtain ⟨a, C, dx, fs, rfl, rfl, ha, ⟨hm, he, hn⟩, q⟩ := h
 obtain rfl : v = Value.ref a := rx
 obtain rfl : u = Value.ref a := ry
 obtain ⟨mA, O, _⟩ := ins_get I.hok ha
 obtain ⟨od, J, _⟩ := O.look
 exact NeOwn.ne_self hu I.kIn J hm he hn X.prog X.w _ _ ⟨.bl false, H, I, rfl, q⟩
def wb5 (cs : List Addr) : D → D → Option Rv
 | .lab a (.obj c _), .lab b _ => if a = b ∧ cs.contains c = true then some (rvB false) else none
 | _, _ => none
theorem ok_neOb {K : PySem.W.Frag} {cs : List Addr} (hc : ∀ c, cs.contains c = true → NoCmp K c) : R2Ok K (rNeOb K) (wb5 cs) := by
 intro C H e dx dy x y rv Q h hx hy g
 unfold wb5 at h
 split at h
 ·rename_i a c fs b d
  obtain ⟨⟨rfl, h1⟩, rfl⟩ := we h
  obtain ⟨rfl, k1⟩ := is_lab_iff.mp (show Is K C (.lab a (.obj c fs)) x from hx)
  obtain ⟨rfl, k2⟩ := is_lab_iff.mp (show Is K C (.lab a d) y from hy)
  obtain ⟨a', dx, gs, e1, h2, h3⟩ := is_obj_iff.mp k1
  cases e1
  exact ⟨a, c, dx, gs, rfl, rfl, e.1 _ _ h2 vby, hc c h1, g.d e⟩
 ·cases h
section
variable {ι : Type} {X : ι → Cx} {P : Program} {w : World} {K : PySem.W.Frag} {mg : Str → Option Value} {base : Heap} {k : Nat} {W : WX} {N : List Str} {sc : Scope}
theorem c_neOb {cs : List Addr} (hc : ∀ c, cs.contains c = true → NoCmp K c) (B : CtxOk X P w K mg base k W N sc) : COp X K .NotEq (wb5 cs) := .mk _ _ (fun i => by have := @op_neOb (X i) (by have := B.u64 i; omega); rw [B.pK i] at this; exact this) (ok_neOb hc)
end
def labT : List D → List Addr → List D
 | [], _ => []
 | d :: ds, as => .lab (as.headD 0) d :: labT ds as.tail
theorem kb6 {K : PySem.W.Frag} {C : Hp} : ∀ {ds : List D} {vs : List V}, (∀ d ∈ ds, ∃ c fs, d = .obj c fs) → Iss K C ds vs → ∃ as, as.length = ds.length ∧ Iss K C (labT ds as) vs
 | [], vs, _, h => ⟨[], rfl, h⟩
 | d :: ds, vs, hd, h => by
  obtain ⟨v, r, rfl, h1, h2⟩ := iss_cons_iff.mp h
  obtain ⟨c, fs, rfl⟩ := hd d List.mem_cons_self
  obtain ⟨a, dx, gs, rfl, h3, h4⟩ := is_obj_iff.mp h1
  obtain ⟨as, hl, k⟩ := kb6 (fun d m => hd d (List.mem_cons_of_mem _ m)) h2
  exact ⟨a :: as, by rw [List.length_cons, hl, List.length_cons], ze (is_lab_iff.mpr ⟨rfl, is_obj_iff.mpr ⟨a, dx, gs, rfl, h3, h4⟩⟩) k⟩
end PL
namespace PL
open PySem L2 PySem.Spec PyProof.Rows
def un1T : D → D
 | .tup ds => .tup (ds.map un1)
 | d => d
def un2 : D → D
 | .obj c fs => .obj c (fs.map fun p => (p.1, un1T p.2))
 | d => d
section
variable {K : PySem.W.Frag} {C H C' H' : Hp} {σ σ' : Sl} {ρ ρ' : En}
theorem iss_un1 : ∀ {ds : List D} {vs : List V}, Iss K C ds vs → Iss K C (ds.map un1) vs
 | [], vs, h => h
 | d :: ds, vs, h => by
  obtain ⟨x, r, rfl, h1, h2⟩ := iss_cons_iff.mp h
  exact ze (is_un1 h1) (iss_un1 h2)
theorem is_un1T {d : D} {v : V} (h : Is K C d v) : Is K C (un1T d) v := by
 unfold un1T
 split
 ·obtain ⟨a, xs, rfl, h1, h2⟩ := qa6 h
  exact vbi h1 (iss_un1 h2)
 ·exact h
theorem isf_un1T : ∀ {fs : List (Str × D)} {gs : List (Str × V)}, Isf K C fs gs → Isf K C (fs.map fun p => (p.1, un1T p.2)) gs
 | [], gs, h => h
 | (n, d) :: fs, gs, h => by
  obtain ⟨x, r, rfl, h1, h2⟩ := isf_cons_iff.mp h
  exact kag (is_un1T h1) (isf_un1T h2)
theorem is_un2 {d : D} {v : V} (h : Is K C d v) : Is K C (un2 d) v := by
 unfold un2
 split
 ·obtain ⟨a, dx, gs, h1, h2, h3⟩ := is_obj_iff.mp h
  exact is_obj_iff.mpr ⟨a, dx, gs, h1, h2, isf_un1T h3⟩
 ·exact h
def argC : Cell → Cell
 | .dat d => .dat (un2 d)
 | c => c
def argE : Nat → En → En
 | _, [] => []
 | 0, _ :: ρ => .no :: argE 0 ρ
 | n + 1, c :: ρ => argC c :: argE n ρ
theorem qbv : ∀ (n : Nat) (ρ : En), (argE n ρ).length = ρ.length
 | _, [] => by cases ‹Nat› <;> rfl
 | 0, c :: ρ => by rw [argE, List.length_cons, List.length_cons, qbv 0 ρ]
 | n + 1, c :: ρ => by rw [argE, List.length_cons, List.length_cons, qbv n ρ]
theorem jbv : ∀ {n : Nat} {ρ : En} {i : Nat} {c : Cell}, (argE n ρ)[i]? = some c → ∃ c0, ρ[i]? = some c0 ∧ (c = .no ∨ c = argC c0)
 | n, [], i, c, h => by cases n <;> simp [argE] at h
 | 0, c0 :: ρ, 0, c, h => by
  rw [argE] at h
  exact ⟨c0, rfl, .inl (by simpa using h.symm)⟩
 | 0, c0 :: ρ, i + 1, c, h => by
  rw [argE] at h
  exact jbv (n := 0) (ρ := ρ) (i := i) (by simpa using h)
 | n + 1, c0 :: ρ, 0, c, h => by
  rw [argE] at h
  exact ⟨c0, rfl, .inr (by simpa using h.symm)⟩
 | n + 1, c0 :: ρ, i + 1, c, h => by
  rw [argE] at h
  exact jbv (n := n) (ρ := ρ) (i := i) (by simpa using h)
theorem wbu {n i : Nat} {m : M} (h : (argE n ρ)[i]? = some (.own m)) : ρ[i]? = some (.own m) := by
 obtain ⟨c0, h1, h2⟩ := jbv h
 rcases h2 with h2 | h2
 ·cases h2
 ·cases c0 with
  | no => cases h2
  | dat d => cases h2
  | own m' => cases h2; exact h1
theorem env_arg {n : Nat} (e : EnvOk K C H σ ρ) : EnvOk K C H σ (argE n ρ) := by
 refine ⟨by rw [qbv]; exact e.len, e.ext, fun i c h => ?_, fun i j m m' a h1 h2 h3 h4 => e.inj i j m m' a (wbu h1) (wbu h2) h3 h4, e.tab⟩
 obtain ⟨c0, h1, h2⟩ := jbv h
 obtain ⟨v, hv, ok⟩ := e.cell i c0 h1
 refine ⟨v, hv, ?_⟩
 rcases h2 with rfl | rfl
 ·trivial
 ·cases c0 with
  | no => trivial
  | dat d => obtain ⟨x, hx, z⟩ := ok; exact ⟨x, hx, is_un2 z⟩
  | own m => exact ok
def argO (n : Nat) : Out Fl → Option (D × En)
 | .ok (.ret (.dat d)) r => some (d, argE n r)
 | _ => none
open Classical in
noncomputable def kb5 (n : Nat) (G : En → Prop) (L : List Addr → En → En) (f : P Fl) : P Fl := fun ρ =>
 if h : G ρ ∧ ∃ o : D × En, ∀ as, ∃ o', f (L as ρ) = some o' ∧ argO n o' = some o then some (.ok (.ret (.dat (Classical.choose h.2).1)) (Classical.choose h.2).2) else none
theorem ss_labA {W : WX} {fx : List Nat} {t : TS} {f : P Fl} {n : Nat} {G : En → Prop} {L : List Addr → En → En} (hL : Labs G L) (hf : SdS K W fx t f) : SdS K W fx t (kb5 n G L f) := by
 intro σ C H ρ out D e ho m
 unfold kb5 at ho
 split at ho
 ·rename_i h
  have hc := Classical.choose_spec h.2
  generalize Classical.choose h.2 = o at hc ho
  cases ho
  obtain ⟨as, e1, same⟩ := hL K C H σ ρ h.1 e
  obtain ⟨o', h1, h2⟩ := hc as
  refine hf σ C H (L as ρ) o' D e1 h1 ?_
  unfold argO at h2
  split at h2
  ·rename_i d r
   cases h2
   intro v σ' C' H' p k
   refine m v σ' C' H' ⟨p.step.weak fun a h => .inl ((ybh same).mp h), fun a ha => ?_, env_arg p.env, p.fix, p.len⟩ k
   obtain ⟨i, mm, q1, q2⟩ := ha
   exact (p.own a ⟨i, mm, wbu q1, q2⟩).imp (fun z => (ybh same).mp z) id
  ·cases h2
 ·cases ho
end
section
variable {ι : Type} {X : ι → Cx} {K : PySem.W.Frag} {W : WX} {fx : List Nat} {sts : List Stmt} {G1 : PL.P Fl}
theorem bss_labA {n : Nat} {G : En → Prop} {L : List Addr → En → En} (hL : Labs G L) (h : BSs X K W fx sts G1) : BSs X K W fx sts (kb5 n G L G1) := by
 obtain ⟨t, p, d⟩ := h
 exact ⟨t, p, ss_labA hL d⟩
end
section
variable {QF : Fl → En → Prop} {E : Exn → En → Prop} {ρ : En}
theorem wp_labA {n : Nat} {G : En → Prop} {L : List Addr → En → En} {f : P Fl} {d : D} {r : En} (hG : G ρ) (h : ∀ as, wp f (fun fl' r' => fl' = .ret (.dat d) ∧ argE n r' = r) (fun _ _ => False) (L as ρ)) (hQ : QF (.ret (.dat d)) r) : wp (kb5 n G L f) QF E ρ := by
 have key : ∀ as, ∃ o', f (L as ρ) = some o' ∧ argO n o' = some (d, r) := fun as => by
  have z := h as
  unfold wp at z
  cases q : f (L as ρ) with
  | none => rw [q] at z; exact z.elim
  | some o =>
   rw [q] at z
   cases o with
   | ok a b => obtain ⟨rfl, z2⟩ := z; exact ⟨_, rfl, by show some (d, argE n b) = _; rw [z2]⟩
   | ex e b => exact z.elim
 have hh : G ρ ∧ ∃ o : D × En, ∀ as, ∃ o', f (L as ρ) = some o' ∧ argO n o' = some o := ⟨hG, _, key⟩
 have e : kb5 n G L f ρ = some (.ok (.ret (.dat d)) r) := by
  unfold kb5
  rw [dif_pos hh]
  have hc := Classical.choose_spec hh.2
  obtain ⟨o', h1, h2⟩ := hc []
  obtain ⟨o'', h3, h4⟩ := key []
  rw [h1] at h3
  cases h3
  rw [h4] at h2
  have := Option.some.inj h2
  rw [← this]
 exact wp_eq e hQ
end
def lab7 (as : List Addr) : En → En
 | .dat (.obj c [(n1, .tup ws), (n2, .tup ps), x, y]) :: ρ => .dat (.obj c [(n1, .tup (labT ws as)), (n2, .tup (labT ps (as.drop ws.length))), x, y]) :: ρ
 | ρ => ρ
def Tab7 (ρ : En) : Prop := ∃ c n1 ws n2 ps x y r, ρ = .dat (.obj c [(n1, .tup ws), (n2, .tup ps), x, y]) :: r ∧ (∀ d ∈ ws, ∃ c fs, d = D.obj c fs) ∧ ∀ d ∈ ps, ∃ c fs, d = D.obj c fs
theorem labs_7 : Labs Tab7 lab7 := by
 rintro K C H σ ρ ⟨c, n1, ws, n2, ps, x, y, r, rfl, hw, hp⟩ e
 obtain ⟨v, hv, z, rfl, hz⟩ := e.cell 0 _ rfl
 obtain ⟨a, dx, gs, rfl, h1, h2⟩ := is_obj_iff.mp hz
 obtain ⟨u1, r1, rfl, i1, h3⟩ := isf_cons_iff.mp h2
 obtain ⟨u2, r2, rfl, i2, h4⟩ := isf_cons_iff.mp h3
 obtain ⟨b1, xs, rfl, t1, k1⟩ := qa6 i1
 obtain ⟨b2, ys, rfl, t2, k2⟩ := qa6 i2
 obtain ⟨as1, l1, j1⟩ := kb6 hw k1
 obtain ⟨as2, l2, j2⟩ := kb6 hp k2
 have cut : ∀ (ds : List D) (as bs : List Addr), as.length = ds.length → labT ds (as ++ bs) = labT ds as := by
  intro ds
  induction ds with
  | nil => intro as bs _; rfl
  | cons d ds ih =>
   intro as bs h
   cases as with
   | nil => cases h
   | cons a as =>
    rw [labT, labT, List.cons_append, List.tail_cons, List.tail_cons, ih as bs (by simpa using h)]
    rfl
 refine ⟨as1 ++ as2, ?_, fun i m => ?_⟩
 ·have hd : (as1 ++ as2).drop ws.length = as2 := by rw [← l1, List.drop_left]
  show EnvOk K C H σ (.dat (.obj c [(n1, .tup (labT ws (as1 ++ as2))), (n2, .tup (labT ps ((as1 ++ as2).drop ws.length))), x, y]) :: r)
  rw [cut ws as1 as2 l1, hd]
  refine ⟨e.len, e.ext, fun i c' h => ?_, fun i j m m' b q1 q2 q3 q4 => ?_, e.tab⟩
  ·cases i with
   | zero =>
    cases h
    exact ⟨_, hv, _, rfl, is_obj_iff.mpr ⟨a, dx, _, rfl, h1, kag (vbi t1 j1) (kag (vbi t2 j2) h4)⟩⟩
   | succ i => exact e.cell (i + 1) c' h
  ·cases i with
   | zero => cases q1
   | succ i => cases j with
    | zero => cases q2
    | succ j => exact e.inj (i + 1) (j + 1) m m' b q1 q2 q3 q4
 ·cases i with
  | zero => exact ⟨fun z => (by cases z), fun z => (by cases z)⟩
  | succ i => exact Iff.rfl
theorem jb4 : ∀ {ds : List D} {as : List Addr}, (labT ds as).map un1 = ds
 | [], _ => rfl
 | d :: ds, as => by rw [labT, List.map_cons, jb4]; rfl
end PL
namespace LW
open PySem L2 PL
def topS (i : Nat) : Stmt := PySem.Challenge.pw_wishwords_k07_tables_told.main.body.getD i (.Pass ⟨0, 0, 0, 0⟩)
def clsS (i j : Nat) : Stmt := (C8.clsBody (topS i)).getD j (.Pass ⟨0, 0, 0, 0⟩)
abbrev c_LETTERS : V := .str "abcdefghijklmnopqrstuvwxyz"
abbrev c_MOST_OTHERS : V := .int 4
abbrev c_MOST_WISHES : V := .int 5
abbrev c_OFTENS : List Str := ["one", "maybe", "some", "any"]
abbrev qan : Nat := 100000
structure Ads where
 P : Program
 w : World
 K : W.Frag
 c_WordError : Addr
 c_NoKind : Addr
 c_NoTable : Addr
 c_NoText : Addr
 c_NoName : Addr
 c_NoRow : Addr
 c_Kind : Addr
 c_AnyWord : Addr
 c_Number : Addr
 c_Among : Addr
 c_Begins : Addr
 c_Wish : Addr
 c_Place : Addr
 c_Table : Addr
 cT : Addr
 pT : Addr
 nd : [c_WordError, c_NoKind, c_NoTable, c_NoText, c_NoName, c_NoRow, c_Kind, c_AnyWord, c_Number, c_Among, c_Begins, c_Wish, c_Place, c_Table].Nodup
 kit_AnyWord_Kind : W.kitOne K (.ref c_AnyWord) (.ref c_Kind) = some true
 kit_Number_Kind : W.kitOne K (.ref c_Number) (.ref c_Kind) = some true
 kit_Among_Kind : W.kitOne K (.ref c_Among) (.ref c_Kind) = some true
 kit_Begins_Kind : W.kitOne K (.ref c_Begins) (.ref c_Kind) = some true
 kit_Wish_Kind : W.kitOne K (.ref c_Wish) (.ref c_Kind) = some false
 kit_Place_Kind : W.kitOne K (.ref c_Place) (.ref c_Kind) = some false
 kit_Table_Kind : W.kitOne K (.ref c_Table) (.ref c_Kind) = some false
 kit_NoneType_Kind : W.kitOne K (.type "NoneType") (.ref c_Kind) = some false
 kit_bool_Kind : W.kitOne K (.type "bool") (.ref c_Kind) = some false
 kit_int_Kind : W.kitOne K (.type "int") (.ref c_Kind) = some false
 kit_str_Kind : W.kitOne K (.type "str") (.ref c_Kind) = some false
 kit_tuple_Kind : W.kitOne K (.type "tuple") (.ref c_Kind) = some false
 kit_list_Kind : W.kitOne K (.type "list") (.ref c_Kind) = some false
 kit_AnyWord_Wish : W.kitOne K (.ref c_AnyWord) (.ref c_Wish) = some false
 kit_Number_Wish : W.kitOne K (.ref c_Number) (.ref c_Wish) = some false
 kit_Among_Wish : W.kitOne K (.ref c_Among) (.ref c_Wish) = some false
 kit_Begins_Wish : W.kitOne K (.ref c_Begins) (.ref c_Wish) = some false
 kit_Wish_Wish : W.kitOne K (.ref c_Wish) (.ref c_Wish) = some true
 kit_Place_Wish : W.kitOne K (.ref c_Place) (.ref c_Wish) = some false
 kit_Table_Wish : W.kitOne K (.ref c_Table) (.ref c_Wish) = some false
 kit_NoneType_Wish : W.kitOne K (.type "NoneType") (.ref c_Wish) = some false
 kit_bool_Wish : W.kitOne K (.type "bool") (.ref c_Wish) = some false
 kit_int_Wish : W.kitOne K (.type "int") (.ref c_Wish) = some false
 kit_str_Wish : W.kitOne K (.type "str") (.ref c_Wish) = some false
 kit_tuple_Wish : W.kitOne K (.type "tuple") (.ref c_Wish) = some false
 kit_list_Wish : W.kitOne K (.type "list") (.ref c_Wish) = some false
 kit_AnyWord_Place : W.kitOne K (.ref c_AnyWord) (.ref c_Place) = some false
 kit_Number_Place : W.kitOne K (.ref c_Number) (.ref c_Place) = some false
 kit_Among_Place : W.kitOne K (.ref c_Among) (.ref c_Place) = some false
 kit_Begins_Place : W.kitOne K (.ref c_Begins) (.ref c_Place) = some false
 kit_Wish_Place : W.kitOne K (.ref c_Wish) (.ref c_Place) = some false
 kit_Place_Place : W.kitOne K (.ref c_Place) (.ref c_Place) = some true
 kit_Table_Place : W.kitOne K (.ref c_Table) (.ref c_Place) = some false
 kit_NoneType_Place : W.kitOne K (.type "NoneType") (.ref c_Place) = some false
 kit_bool_Place : W.kitOne K (.type "bool") (.ref c_Place) = some false
 kit_int_Place : W.kitOne K (.type "int") (.ref c_Place) = some false
 kit_str_Place : W.kitOne K (.type "str") (.ref c_Place) = some false
 kit_tuple_Place : W.kitOne K (.type "tuple") (.ref c_Place) = some false
 kit_list_Place : W.kitOne K (.type "list") (.ref c_Place) = some false
 kit_AnyWord_bool : W.kitOne K (.ref c_AnyWord) (.type "bool") = some false
 kit_AnyWord_str : W.kitOne K (.ref c_AnyWord) (.type "str") = some false
 kit_AnyWord_tuple : W.kitOne K (.ref c_AnyWord) (.type "tuple") = some false
 kit_Number_bool : W.kitOne K (.ref c_Number) (.type "bool") = some false
 kit_Number_str : W.kitOne K (.ref c_Number) (.type "str") = some false
 kit_Number_tuple : W.kitOne K (.ref c_Number) (.type "tuple") = some false
 kit_Among_bool : W.kitOne K (.ref c_Among) (.type "bool") = some false
 kit_Among_str : W.kitOne K (.ref c_Among) (.type "str") = some false
 kit_Among_tuple : W.kitOne K (.ref c_Among) (.type "tuple") = some false
 kit_Begins_bool : W.kitOne K (.ref c_Begins) (.type "bool") = some false
 kit_Begins_str : W.kitOne K (.ref c_Begins) (.type "str") = some false
 kit_Begins_tuple : W.kitOne K (.ref c_Begins) (.type "tuple") = some false
 kit_Wish_bool : W.kitOne K (.ref c_Wish) (.type "bool") = some false
 kit_Wish_str : W.kitOne K (.ref c_Wish) (.type "str") = some false
 kit_Wish_tuple : W.kitOne K (.ref c_Wish) (.type "tuple") = some false
 kit_Place_bool : W.kitOne K (.ref c_Place) (.type "bool") = some false
 kit_Place_str : W.kitOne K (.ref c_Place) (.type "str") = some false
 kit_Place_tuple : W.kitOne K (.ref c_Place) (.type "tuple") = some false
 kit_Table_bool : W.kitOne K (.ref c_Table) (.type "bool") = some false
 kit_Table_str : W.kitOne K (.ref c_Table) (.type "str") = some false
 kit_Table_tuple : W.kitOne K (.ref c_Table) (.type "tuple") = some false
 kit_NoName_NoKind : W.kitOne K (.ref c_NoName) (.ref c_NoKind) = some false
 kit_NoName_NoTable : W.kitOne K (.ref c_NoName) (.ref c_NoTable) = some false
 kit_NoName_NoText : W.kitOne K (.ref c_NoName) (.ref c_NoText) = some false
 kit_NoName_NoName : W.kitOne K (.ref c_NoName) (.ref c_NoName) = some true
 kit_NoName_NoRow : W.kitOne K (.ref c_NoName) (.ref c_NoRow) = some false
 exm_NoName_WordError : W.exmOne K (.ref c_NoName) (.ref c_WordError) = some true
def Ads.cs (A : Ads) : List Addr := [A.c_AnyWord, A.c_Number, A.c_Among, A.c_Begins, A.c_Wish, A.c_Place, A.c_Table]
def Ads.xs (A : Ads) : List Addr := [A.c_NoName]
def zas (A : Ads) : List Addr := [A.c_Wish, A.c_Place]
def yac (A : Ads) : List Addr := [A.c_Table]
def wg (A : Ads) : List Addr := [A.c_Wish, A.c_Place]
def j7 (A : Ads) : List Addr := [A.c_Number]
def ki (A : Ads) : List Addr := [A.c_Wish]
def wu (A : Ads) : List Addr := [A.c_Among]
def q7 (A : Ads) : List Addr := [A.c_Wish]
def xaj (A : Ads) : List Addr := [A.c_Wish]
def xal (A : Ads) : List Addr := [A.c_Number]
def y6 (A : Ads) : List Addr := [A.c_Wish]
def ve (A : Ads) : List Addr := [A.c_Wish, A.c_Place]
def jx (A : Ads) : List Addr := [A.c_Table]
def vp (A : Ads) : List Addr := [A.c_Place]
def qk (A : Ads) : List Addr := [A.c_Table]
def x6 (A : Ads) : List Addr := [A.c_Begins]
def wj (A : Ads) : List Addr := [A.c_Table]
abbrev wba (A : Ads) : D := .obj A.c_AnyWord []
abbrev yao (A : Ads) (x_least x_most : D) : D := .obj A.c_Number [("least", x_least), ("most", x_most)]
abbrev ybo (A : Ads) (x_listed : D) : D := .obj A.c_Among [("listed", x_listed)]
abbrev va4 (A : Ads) (x_start : D) : D := .obj A.c_Begins [("start", x_start)]
abbrev xw (A : Ads) (x_name x_letter x_kind x_may x_many x_must : D) : D := .obj A.c_Wish [("name", x_name), ("letter", x_letter), ("kind", x_kind), ("may", x_may), ("many", x_many), ("must", x_must)]
abbrev zy (A : Ads) (x_name x_kind x_often : D) : D := .obj A.c_Place [("name", x_name), ("kind", x_kind), ("often", x_often)]
abbrev qg (A : Ads) (x_wishes x_places x_bars x_needs : D) : D := .obj A.c_Table [("wishes", x_wishes), ("places", x_places), ("bars", x_bars), ("needs", x_needs)]
noncomputable def x7 (A : Ads) : PL.P Fl :=
 (sSeq (qy (ve A) 0 "name" (fVar 1))
 (sSeq (qy (ki A) 0 "letter" (fVar 2))
 (sSeq (qy (wg A) 0 "kind" (fVar 3))
 (sSeq (qy (xaj A) 0 "may" (fVar 4))
 (sSeq (qy (q7 A) 0 "many" (fVar 5))
 (qy (y6 A) 0 "must" (fVar 6)))))))
noncomputable def wh (A : Ads) : PL.P Rv := runF [0, 1, 2, 3, 4, 5, 6] 7 (x7 A)
noncomputable def jae (A : Ads) : PL.P Fl :=
 (sSeq (qy (ve A) 0 "name" (fVar 1))
 (sSeq (qy (wg A) 0 "kind" (fVar 2))
 (qy (vp A) 0 "often" (fVar 3))))
noncomputable def xq (A : Ads) : PL.P Rv := runF [0, 1, 2, 3] 4 (jae A)
noncomputable def qau (A : Ads) : PL.P Fl :=
 (sRet (x9 (fCB (isiD A.K A.cs) (yd (fVar 0) (yd (fC (.s (.ty "str"))) fNil))) (x9 (yb0 leD leD (fVar 1) (fCB lenD (yd (fVar 0) fNil)) (fVar 2)) (fOp eqD (fM1 wbw (fVar 0) (fC (.s c_LETTERS))) (fC (.s (.str "")))))))
noncomputable def zp (A : Ads) : PL.P Rv := runF [0, 1, 2] 3 (qau A)
noncomputable def kbj (A : Ads) : PL.P Fl :=
 (sRet (x9 (wd 3 (zp A) (uD (fUn (fldD (ve A) "name") (fVar 0)) (uD (fC (.s (.int 2))) (uD (fC (.s (.int 8))) uNil)))) (fOp zbb (fUn (fldD (ve A) "name") (fVar 0)) (fVar 1))))
noncomputable def j5 (A : Ads) : PL.P Rv := runF [0, 1] 2 (kbj A)
noncomputable def kb3 (A : Ads) : PL.P Fl :=
 (sSeq (sIf (fOr (fNot (wc (fCB (isiD A.K A.cs) (yd (fVar 0) (yd (fC (.s (.ref A.c_Wish))) fNil))))) (fNot (wc (wd 2 (j5 A) (uD (fVar 0) (uD (jw [2] (vv (fVar 1)) (aN 2) fYes (fUn (fldD (ve A) "name") (fVar 2))) uNil))))))
 (sRet (fC (.s (.bl false))))
 vf)
 (sSeq (sIf (wc (fOp z0 (fUn (fldD (ki A) "letter") (fVar 0)) (fC (.s .non))))
 (sIf (fOr (fNot (wc (wd 3 (zp A) (uD (fUn (fldD (ki A) "letter") (fVar 0)) (uD (fC (.s (.int 1))) (uD (fC (.s (.int 1))) uNil)))))) (wc (fOp inD (fUn (fldD (ki A) "letter") (fVar 0)) (jw [2] (vv (fVar 1)) (aN 2) fYes (fUn (fldD (ki A) "letter") (fVar 2))))))
 (sRet (fC (.s (.bl false))))
 vf)
 vf)
 (sSeq (sIf (fNot (wc (fCB allD (yd (jw [3] (vv (fTup (ya (fUn (fldD (xaj A) "may") (fVar 0)) (ya (fUn (fldD (q7 A) "many") (fVar 0)) (ya (fUn (fldD (y6 A) "must") (fVar 0)) vNil))))) (aN 3) fYes (fCB (isiD A.K A.cs) (yd (fVar 3) (yd (fC (.s (.ty "bool"))) fNil)))) fNil))))
 (sRet (fC (.s (.bl false))))
 vf)
 (sRet (fOrV (fCB (isiD A.K A.cs) (yd (fUn (fldD (wg A) "kind") (fVar 0)) (yd (fC (.s (.ref A.c_Kind))) fNil))) (x9 (fOp isD (fUn (fldD (wg A) "kind") (fVar 0)) (fC (.s .non))) (fNotV (fUn (fldD (xaj A) "may") (fVar 0)))))))))
noncomputable def vae (A : Ads) : PL.P Rv := runF [0, 1] 4 (kb3 A)
noncomputable def xbj (A : Ads) : PL.P Fl :=
 (sSeq (sIf (fOr (fNot (wc (fCB (isiD A.K A.cs) (yd (fVar 0) (yd (fC (.s (.ref A.c_Place))) fNil))))) (fNot (wc (wd 2 (j5 A) (uD (fVar 0) (uD (fVar 1) uNil))))))
 (sRet (fC (.s (.bl false))))
 vf)
 (sRet (x9 (fCB (isiD A.K A.cs) (yd (fUn (fldD (wg A) "kind") (fVar 0)) (yd (fC (.s (.ref A.c_Kind))) fNil))) (x9 (fCB (isiD A.K A.cs) (yd (fUn (fldD (vp A) "often") (fVar 0)) (yd (fC (.s (.ty "str"))) fNil))) (fOp inD (fUn (fldD (vp A) "often") (fVar 0)) (fC (.tup (c_OFTENS.map fun y => .s (.str y)))))))))
noncomputable def jah (A : Ads) : PL.P Rv := runF [0, 1] 2 (xbj A)
noncomputable def vb3 (A : Ads) : PL.P Fl :=
 (sSeq (sIf (fOr (fNot (wc (fCB (isiD A.K A.cs) (yd (fVar 0) (yd (fC (.s (.ty "tuple"))) fNil))))) (wc (fOp neD (fCB lenD (yd (fVar 0) fNil)) (fC (.s (.int 2))))))
 (sRet (fC (.s (.bl false))))
 vf)
 (sRet (x9 (fOp inD (fOp ixD (fVar 0) (fC (.s (.int 0)))) (fVar 1)) (x9 (fOp inD (fOp ixD (fVar 0) (fC (.s (.int 1)))) (fVar 1)) (fOp neD (fOp ixD (fVar 0) (fC (.s (.int 0)))) (fOp ixD (fVar 0) (fC (.s (.int 1)))))))))
noncomputable def yae (A : Ads) : PL.P Rv := runF [0, 1] 2 (vb3 A)
noncomputable def wal (A : Ads) (act : PL.P (List PL.Arg) → PL.P Rv) : PL.P Fl :=
 (sSeq (sIf (fNot (wc (fCB (isiD A.K A.cs) (yd (fVar 1) (yd (fC (.s (.ty "tuple"))) fNil)))))
 PL.P.fail
 vf)
 (sFor (vb0 (ya (fVar 1) vNil)) (aT 2 (v9 (aN 4) (v9 (aN 5) aNil)))
 (sIf (fOr (wc (fOp eqD (fVar 4) (fVar 2))) (fNot (wc (act (uD (fVar 5) (uD (fSl (fVar 1) zNo (zAt (fVar 4))) uNil))))))
 PL.P.fail
 vf)))
noncomputable def jk (A : Ads) (act : PL.P (List PL.Arg) → PL.P Rv) : PL.P Rv := runF [0, 1, 2, 3] 6 (wal A act)
noncomputable def vt (A : Ads) : List D → Option (Option Exn) := npOk fun d ahead => ybg (vae A) [.dat d, .dat (.tup ahead)]
noncomputable def jz (A : Ads) : PL.P Rv := runF [] 4 (sRet (wd 2 (jah A) (uD (fVar 0) (uD (fOp addD (fVar 2) (jw [3] (vv (fVar 1)) (aN 3) fYes (fUn (fldD (ve A) "name") (fVar 3)))) uNil))))
noncomputable def xi (A : Ads) (nm : D) : List D → Option (Option Exn) := npOk fun d ahead => ybg (jz A) [.dat d, .dat (.tup ahead), .dat nm]
noncomputable def qz (A : Ads) : PL.P Rv := runF [] 3 (sRet (x9 (wd 2 (yae A) (uD (fVar 0) (uD (fVar 2) uNil))) (x9 (fOp qj (fVar 0) (fVar 1)) (fOp qj (fRevT (fVar 0)) (fVar 1)))))
noncomputable def ji (A : Ads) (nm : D) : List D → Option (Option Exn) := npOk fun d ahead => ybg (qz A) [.dat d, .dat (.tup ahead), .dat nm]
noncomputable def yy (A : Ads) : PL.P Rv := runF [] 3 (sRet (x9 (wd 2 (yae A) (uD (fVar 0) (uD (fVar 2) uNil))) (fOp qj (fVar 0) (fVar 1))))
noncomputable def qi (A : Ads) (nm : D) : List D → Option (Option Exn) := npOk fun d ahead => ybg (yy A) [.dat d, .dat (.tup ahead), .dat nm]
noncomputable def va0 (A : Ads) : PL.P Fl :=
 (sSeq (ja1 (fPart (vt A) (ya (fC (.s (.str "wishes"))) (ya (fVar 1) (ya (fC (.s c_MOST_WISHES)) vNil)))))
 (sSeq (sSet 5 (jw [6] (vv (fVar 1)) (aN 6) fYes (fUn (fldD (ve A) "name") (fVar 6))))
 (sSeq (ja1 (wbi 5 (xi A) (ya (fC (.s (.str "places"))) (ya (fVar 2) (ya (fC (.s c_MOST_OTHERS)) vNil)))))
 (sSeq (ja1 (wbi 5 (ji A) (ya (fC (.s (.str "bars"))) (ya (fVar 3) (ya (fC (.s c_MOST_OTHERS)) vNil)))))
 (sSeq (ja1 (wbi 5 (qi A) (ya (fC (.s (.str "needs"))) (ya (fVar 4) (ya (fC (.s c_MOST_OTHERS)) vNil)))))
 (sSeq (qy (wj A) 0 "wishes" (fVar 1))
 (sSeq (qy (qk A) 0 "places" (fVar 2))
 (sSeq (qy (yac A) 0 "bars" (fVar 3))
 (qy (jx A) 0 "needs" (fVar 4))))))))))
noncomputable def xh (A : Ads) : PL.P Rv := runF [0, 1, 2, 3, 4] 7 (va0 A)
noncomputable def qq (A : Ads) : PL.P Fl :=
 (sRet (fTup (ya (fC (.s (.str "any"))) vNil)))
noncomputable def yi (A : Ads) : PL.P Rv := runF [0] 1 (qq A)
noncomputable def vr (A : Ads) : PL.P Fl :=
 (sRet (fTup (ya (fC (.s (.str "number"))) (ya (fUn (fldD (j7 A) "least") (fVar 0)) (ya (fUn (fldD (xal A) "most") (fVar 0)) vNil)))))
noncomputable def qm (A : Ads) : PL.P Rv := runF [0] 1 (vr A)
noncomputable def yx (A : Ads) : PL.P Fl :=
 (sRet (fTup (ya (fC (.s (.str "among"))) (ya (fUn (fldD (wu A) "listed") (fVar 0)) vNil))))
noncomputable def qo (A : Ads) : PL.P Rv := runF [0] 1 (yx A)
noncomputable def yr (A : Ads) : PL.P Fl :=
 (sRet (fTup (ya (fC (.s (.str "begins"))) (ya (fUn (fldD (x6 A) "start") (fVar 0)) vNil))))
noncomputable def jm (A : Ads) : PL.P Rv := runF [0] 1 (yr A)
noncomputable def ky (A : Ads) : List (Addr × PL.P Rv) := [(A.c_AnyWord, yi A), (A.c_Number, qm A), (A.c_Among, qo A), (A.c_Begins, jm A)]
noncomputable def qbe (A : Ads) : PL.P Fl :=
 (sRet (fIf (wc (fOp isD (fVar 0) (fC (.s .non)))) (fC (.s .non)) (w0 "told" 1 (ky A) (fVar 0) uNil)))
noncomputable def v7 (A : Ads) : PL.P Rv := runF [0] 1 (qbe A)
noncomputable def vbe (A : Ads) : PL.P Fl :=
 (sRet (fTup (ya (fC (.s (.str "wish"))) (ya (fUn (fldD (ve A) "name") (fVar 0)) (ya (fUn (fldD (ki A) "letter") (fVar 0)) (ya (wd 1 (v7 A) (uD (fUn (fldD (wg A) "kind") (fVar 0)) uNil)) (ya (fUn (fldD (xaj A) "may") (fVar 0)) (ya (fUn (fldD (q7 A) "many") (fVar 0)) (ya (fUn (fldD (y6 A) "must") (fVar 0)) vNil)))))))))
noncomputable def wm (A : Ads) : PL.P Rv := runF [0] 1 (vbe A)
noncomputable def wx (A : Ads) : List (Addr × PL.P Rv) := [(A.c_Wish, wm A)]
noncomputable def ya0 (A : Ads) : PL.P Fl :=
 (sRet (fTup (ya (fC (.s (.str "place"))) (ya (fUn (fldD (ve A) "name") (fVar 0)) (ya (w0 "told" 1 (ky A) (fUn (fldD (wg A) "kind") (fVar 0)) uNil) (ya (fUn (fldD (vp A) "often") (fVar 0)) vNil))))))
noncomputable def zk (A : Ads) : PL.P Rv := runF [0] 1 (ya0 A)
noncomputable def jt (A : Ads) : List (Addr × PL.P Rv) := [(A.c_Place, zk A)]
noncomputable def ka0 (A : Ads) : PL.P Fl :=
 (sSeq (sSet 1 (fCB zz (yd (jw [2] (vv (fUn (fldD (wj A) "wishes") (fVar 0))) (aN 2) fYes (w0 "told" 1 (wx A) (yq (fVar 2)) uNil)) fNil)))
 (sRet (fTup (ya (fVar 1) (ya (fCB zz (yd (jw [3] (vv (fUn (fldD (qk A) "places") (fVar 0))) (aN 3) fYes (w0 "told" 1 (jt A) (yq (fVar 3)) uNil)) fNil)) (ya (fUn (fldD (yac A) "bars") (fVar 0)) (ya (fUn (fldD (jx A) "needs") (fVar 0)) vNil)))))))
noncomputable def jh (A : Ads) : PL.P Rv := runF [0] 4 (ka0 A)
noncomputable def yh (A : Ads) : List (Addr × PL.P Rv) := [(A.c_Table, jh A)]
noncomputable def xb3 (A : Ads) : PL.P Fl :=
 (sSeq (sSet 2 (fOp modD (fOp va1 (fOp addD (fOp addD (fVar 0) (fOp va1 (fC (.s (.int 7919))) (fVar 1))) (fC (.s (.int 11)))) (fC (.s (.int 48271)))) (fC (.s (.int 2147483647)))))
 (sRet (fOp modD (fOp addD (fOp va1 (fVar 2) (fVar 2)) (fOp va1 (fC (.s (.int 40692))) (fVar 2))) (fC (.s (.int 2147483399))))))
noncomputable def kae (A : Ads) : PL.P Rv := runF [0, 1] 3 (xb3 A)
noncomputable def kbe (A : Ads) : PL.P Fl :=
 (sSeq (sSet 2 (fC (.s (.int 0))))
 (sSeq (sIf (wc (fOp ltXD (fVar 1) (fCB lenD (yd (fVar 0) fNil))))
 (sSet 2 (fOp ixD (fVar 0) (fVar 1)))
 vf)
 (sRet (wd 2 (kae A) (uD (fVar 2) (uD (fOp addD (fC (.s (.int 300))) (fVar 1)) uNil))))))
noncomputable def w7 (A : Ads) : PL.P Rv := runF [0, 1] 3 (kbe A)
noncomputable def b_l_next (A : Ads) : PL.P Fl :=
 (sSeq (sIncL 0 1 1)
 (sRet (fOp modD (fOp kb0 (wd 2 (kae A) (uD (fOp ixD (fVar 0) (fC (.s (.int 0)))) (uD (fOp ixD (fVar 0) (fC (.s (.int 1)))) uNil))) (fC (.s (.int 7)))) (fVar 1))))
noncomputable def yf (A : Ads) : PL.P Rv := runF [0, 1] 2 (b_l_next A)
noncomputable def xbu (A : Ads) : PL.P Fl :=
 (sRet (fOp ixD (fVar 1) (wd 2 (yf A) (uM 0 (uD (fCB lenD (yd (fVar 1) fNil)) uNil)))))
noncomputable def xf (A : Ads) : PL.P Rv := runF [0, 1] 2 (xbu A)
noncomputable def zb3 (A : Ads) : PL.P Fl :=
 (sSeq (sSet 2 (fC (.s (.str "abcdefghijklmnopqrstuvwxyz"))))
 (sSeq (sSet 3 (fM1 joinD (fC (.s (.str ""))) (jw [8] (vbc (yd (fOp addD (fC (.s (.int 2))) (wd 2 (yf A) (uM 0 (uD (fC (.s (.int 5))) uNil)))) fNil)) (aN 8) fYes (wd 2 (xf A) (uM 0 (uD (fVar 2) uNil))))))
 (sSeq (sSet 4 (wd 2 (yf A) (uM 0 (uD (fCB lenD (yd (fVar 3) fNil)) uNil))))
 (sSeq (sSet 5 (wd 2 (yf A) (uM 0 (uD (fC (.s (.int 26))) uNil))))
 (sSeq (sSet 6 (wd 2 (yf A) (uM 0 (uD (fC (.s (.int 4))) uNil))))
 (sSeq (xba 7 (fLst vNil))
 (sSeq (sFor (vbc (yd (fVar 1) fNil)) (aN 8)
 (sSeq (sSet 9 (fOp addD (fOp addD (fSl (fVar 3) zNo (zAt (fVar 4))) (fOp ixD (fVar 2) (fOp modD (fOp addD (fVar 5) (fVar 8)) (fC (.s (.int 26)))))) (fSl (fVar 3) (zAt (fOp addD (fVar 4) (fC (.s (.int 1))))) zNo)))
 (sSeq (sIf (fAnd (wc (fOp eqD (fVar 6) (fC (.s (.int 3))))) (wc (fOp ltXD (fVar 8) (fC (.s (.int 6))))))
 (sSet 9 (fOp ixD (fLst (ya (fC (.s (.str "many"))) (ya (fC (.s (.str "must"))) (ya (fC (.s (.str "maybe"))) (ya (fC (.s (.str "any"))) (ya (fC (.s (.str "asks"))) (ya (fC (.s (.str "wish"))) vNil))))))) (fOp modD (fOp addD (fVar 5) (fVar 8)) (fC (.s (.int 6))))))
 vf)
 (sSeq (sIf (fAnd (wc (fOp eqD (fVar 6) (fC (.s (.int 1))))) (fAnd (wc (fOp ltXD (fVar 8) (fC (.s (.int 3))))) (wc (fOp ltXD (fOp addD (fCB lenD (yd (fVar 3) fNil)) (fVar 8)) (fC (.s (.int 9)))))))
 (sSet 9 (fOp addD (fVar 3) (fSl (fC (.s (.str "zyx"))) zNo (zAt (fVar 8)))))
 vf)
 (sSeq (sIf (wc (fOp eqD (fVar 6) (fC (.s (.int 2)))))
 (sSet 9 (fOp addD (fOp ixD (fVar 2) (fOp modD (fOp addD (fVar 5) (fOp va1 (fC (.s (.int 3))) (fVar 8))) (fC (.s (.int 26))))) (fSl (fVar 3) (zAt (fC (.s (.int 1)))) (zAt (fOp addD (fC (.s (.int 2))) (fOp modD (fVar 8) (fC (.s (.int 2)))))))))
 vf)
 (sSeq (sSet 10 (fC (.s (.int 0))))
 (sSeq (qaa (fOr (wc (fOp inD (fVar 9) (fVar 7))) (wc (fOp ltXD (fCB lenD (yd (fVar 9) fNil)) (fC (.s (.int 2)))))) (sSeq (sAug 10 ybe (fC (.s (.int 1))))
 (sSet 9 (fOp addD (fOp addD (fOp ixD (fVar 2) (fOp modD (fVar 10) (fC (.s (.int 26))))) (fOp ixD (fVar 2) (fOp modD (fOp addD (fVar 10) (fVar 8)) (fC (.s (.int 26)))))) (fOp ixD (fVar 2) (fOp modD (fVar 8) (fC (.s (.int 26)))))))) qan)
 (ja1 (kac 7 (fVar 9))))))))))
 (sRet (fVar 7)))))))))
noncomputable def xae (A : Ads) : PL.P Rv := runF [0, 1] 11 (zb3 A)
noncomputable def b_l_bare (A : Ads) : PL.P Fl :=
 (sSeq (sSet 1 (fLst (ya (fC (.s (.str "0"))) (ya (fC (.s (.str "1"))) (ya (fC (.s (.str "5"))) (ya (fC (.s (.str "7"))) (ya (fC (.s (.str "12"))) (ya (fC (.s (.str "99"))) (ya (fC (.s (.str "100"))) (ya (fC (.s (.str "07"))) (ya (fC (.s (.str "00"))) (ya (fC (.s (.str "a"))) (ya (fC (.s (.str "b"))) (ya (fC (.s (.str "ab"))) (ya (fC (.s (.str "abc"))) (ya (fC (.s (.str "b1"))) (ya (fC (.s (.str "red"))) (ya (fC (.s (.str "x"))) (ya (fC (.s (.str "="))) vNil)))))))))))))))))))
 (sRet (wd 2 (xf A) (uM 0 (uD (fOp addD (fVar 1) (fLst (ya (fC (.s (.str "a-b"))) (ya (fC (.s (.str "=1"))) (ya (fC (.s (.str "ba"))) vNil))))) uNil)))))
noncomputable def wa8 (A : Ads) : PL.P Rv := runF [0] 2 (b_l_bare A)
noncomputable def b_l_kind (A : Ads) : PL.P Fl :=
 (sSeq (sSet 1 (wd 2 (yf A) (uM 0 (uD (fC (.s (.int 7))) uNil))))
 (sSeq (sIf (wc (fOp ltXD (fVar 1) (fC (.s (.int 2)))))
 (sRet (fTup (ya (fC (.s (.str "any"))) vNil)))
 vf)
 (sSeq (sIf (wc (fOp ltXD (fVar 1) (fC (.s (.int 4)))))
 (sSeq (sSet 2 (wd 2 (xf A) (uM 0 (uD (fLst (ya (fC (.s (.int 0))) (ya (fC (.s (.int 0))) (ya (fC (.s (.int 1))) (ya (fC (.s (.int 5))) (ya (fC (.s (.int 7))) (ya (fC (.s (.int 10))) (ya (fC (.s (.int 100))) vNil)))))))) uNil))))
 (sRet (fTup (ya (fC (.s (.str "number"))) (ya (fVar 2) (ya (fOp addD (fVar 2) (wd 2 (xf A) (uM 0 (uD (fLst (ya (fC (.s (.int 0))) (ya (fC (.s (.int 1))) (ya (fC (.s (.int 5))) (ya (fC (.s (.int 93))) (ya (fC (.s (.int 99))) vNil)))))) uNil)))) vNil))))))
 vf)
 (sSeq (sIf (wc (fOp ltXD (fVar 1) (fC (.s (.int 6)))))
 (sSeq (sSet 3 (jw [4] (vbc (yd (fOp addD (fC (.s (.int 1))) (wd 2 (yf A) (uM 0 (uD (fC (.s (.int 4))) uNil)))) fNil)) (aN 4) fYes (wd 1 (wa8 A) (uM 0 uNil))))
 (sRet (fTup (ya (fC (.s (.str "among"))) (ya (fCB zz (yd (fUn waf (fVar 3)) fNil)) vNil)))))
 vf)
 (sRet (fTup (ya (fC (.s (.str "begins"))) (ya (wd 2 (xf A) (uM 0 (uD (fLst (ya (fC (.s (.str "a"))) (ya (fC (.s (.str "b"))) (ya (fC (.s (.str "ab"))) (ya (fC (.s (.str "abc"))) (ya (fC (.s (.str "r"))) (ya (fC (.s (.str "x"))) vNil))))))) uNil))) vNil))))))))
noncomputable def yau (A : Ads) : PL.P Rv := runF [0] 5 (b_l_kind A)
noncomputable def b_l_wish (A : Ads) : PL.P Fl :=
 (sSeq (sSet 3 (wd 2 (xf A) (uM 0 (uD (fLst (ya (fC (.s (.str "a"))) (ya (fC (.s (.str "b"))) (ya (fC (.s (.str "c"))) (ya (fC (.s (.str "v"))) (ya (fC (.s (.str "x"))) (ya (fC (.s (.str "z"))) (ya (fC (.s .non)) (ya (fC (.s .non)) vNil))))))))) uNil))))
 (sSeq (sIf (wc (fOp inD (fVar 3) (fVar 2)))
 (sSet 3 (fC (.s .non)))
 vf)
 (sSeq (ja1 (kac 2 (fVar 3)))
 (sSeq (sSet 4 (fC (.s .non)))
 (sSeq (sIf (wc (fOp gtD (wd 2 (yf A) (uM 0 (uD (fC (.s (.int 5))) uNil))) (fC (.s (.int 1)))))
 (sSet 4 (wd 1 (yau A) (uM 0 uNil)))
 vf)
 (sSeq (sSet 5 (x9 (fOp z0 (fVar 4) (fC (.s .non))) (fOp eqD (wd 2 (yf A) (uM 0 (uD (fC (.s (.int 3))) uNil))) (fC (.s (.int 0))))))
 (sRet (fTup (ya (fC (.s (.str "wish"))) (ya (fVar 1) (ya (fVar 3) (ya (fVar 4) (ya (fVar 5) (ya (fOp eqD (wd 2 (yf A) (uM 0 (uD (fC (.s (.int 3))) uNil))) (fC (.s (.int 0)))) (ya (fOp eqD (wd 2 (yf A) (uM 0 (uD (fC (.s (.int 5))) uNil))) (fC (.s (.int 0)))) vNil)))))))))))))))
noncomputable def y7 (A : Ads) : PL.P Rv := runF [0, 1, 2] 6 (b_l_wish A)
noncomputable def zbe (A : Ads) : PL.P Fl :=
 (sSeq (xba 3 (fLst vNil))
 (sSeq (sFor (vbc (yd (fOp va1 (fVar 2) (fCB intD (yd (fOp gtD (fCB lenD (yd (fVar 1) fNil)) (fC (.s (.int 1)))) fNil))) fNil)) (aN 4)
 (sSeq (sSet 5 (wd 2 (xf A) (uM 0 (uD (fVar 1) uNil))))
 (sSeq (sSet 6 (wd 2 (xf A) (uM 0 (uD (fVar 1) uNil))))
 (sIf (fAnd (wc (fOp neD (fVar 5) (fVar 6))) (fAnd (wc (fOp qj (fTup (ya (fVar 5) (ya (fVar 6) vNil))) (fVar 3))) (wc (fOp qj (fTup (ya (fVar 6) (ya (fVar 5) vNil))) (fVar 3)))))
 (ja1 (kac 3 (fTup (ya (fVar 5) (ya (fVar 6) vNil)))))
 vf))))
 (sRet (fCB zz (yd (fVar 3) fNil)))))
noncomputable def jv (A : Ads) : PL.P Rv := runF [0, 1, 2] 7 (zbe A)
noncomputable def qb3 (A : Ads) : PL.P Fl :=
 (sSeq (sSet 3 (wd 2 (yf A) (uM 0 (uD (fOp addD (fVar 1) (fC (.s (.int 1)))) uNil))))
 (sSeq (sSet 4 (wd 2 (xae A) (uM 0 (uD (fOp addD (fVar 3) (wd 2 (yf A) (uM 0 (uD (fOp addD (fVar 2) (fC (.s (.int 1)))) uNil)))) uNil))))
 (sSeq (xba 5 (fLst vNil))
 (sSeq (sSet 6 (fCB zz (yd (jw [11] (vv (fSl (fVar 4) zNo (zAt (fVar 3)))) (aN 11) fYes (wd 3 (y7 A) (uM 0 (uD (fVar 11) (uM 5 uNil))))) fNil)))
 (sSeq (sSet 7 (fLst (ya (fC (.s (.str "one"))) (ya (fC (.s (.str "maybe"))) (ya (fC (.s (.str "some"))) (ya (fC (.s (.str "any"))) (ya (fC (.s (.str "any"))) vNil)))))))
 (sSeq (sSet 8 (fCB zz (yd (jw [11] (vv (fSl (fVar 4) (zAt (fVar 3)) zNo)) (aN 11) fYes (fTup (ya (fC (.s (.str "place"))) (ya (fVar 11) (ya (wd 1 (yau A) (uM 0 uNil)) (ya (wd 2 (xf A) (uM 0 (uD (fVar 7) uNil))) vNil)))))) fNil)))
 (sSeq (sSet 9 (wd 3 (jv A) (uM 0 (uD (fSl (fVar 4) zNo (zAt (fVar 3))) (uD (wd 2 (xf A) (uM 0 (uD (fLst (ya (fC (.s (.int 0))) (ya (fC (.s (.int 0))) (ya (fC (.s (.int 0))) (ya (fC (.s (.int 1))) (ya (fC (.s (.int 1))) (ya (fC (.s (.int 2))) vNil))))))) uNil))) uNil)))))
 (sSeq (sSet 10 (wd 3 (jv A) (uM 0 (uD (fSl (fVar 4) zNo (zAt (fVar 3))) (uD (wd 2 (xf A) (uM 0 (uD (fLst (ya (fC (.s (.int 0))) (ya (fC (.s (.int 0))) (ya (fC (.s (.int 1))) (ya (fC (.s (.int 2))) (ya (fC (.s (.int 3))) vNil)))))) uNil))) uNil)))))
 (sRet (fTup (ya (fVar 6) (ya (fVar 8) (ya (fVar 9) (ya (fVar 10) vNil))))))))))))))
noncomputable def vau (A : Ads) : PL.P Rv := runF [0, 1, 2] 12 (qb3 A)
noncomputable def zau (A : Ads) : PL.P Fl :=
 (sSeq (qy (j7 A) 0 "least" (fVar 1))
 (qy (xal A) 0 "most" (fVar 2)))
noncomputable def q8 (A : Ads) : PL.P Rv := runF [0, 1, 2] 3 (zau A)
noncomputable def wa0 (A : Ads) : PL.P Fl :=
 (qy (wu A) 0 "listed" (fVar 1))
noncomputable def wae (A : Ads) : PL.P Rv := runF [0, 1] 2 (wa0 A)
noncomputable def xau (A : Ads) : PL.P Fl :=
 (qy (x6 A) 0 "start" (fVar 1))
noncomputable def j8 (A : Ads) : PL.P Rv := runF [0, 1] 2 (xau A)
noncomputable def yat (A : Ads) : PL.P Fl :=
 (sSeq (sIf (wc (fOp eqD (fOp ixD (fVar 0) (fC (.s (.int 0)))) (fC (.s (.str "any")))))
 (sRet (fBare A.c_AnyWord))
 vf)
 (sSeq (sIf (wc (fOp eqD (fOp ixD (fVar 0) (fC (.s (.int 0)))) (fC (.s (.str "number")))))
 (sRet (j9 2 A.c_Number (q8 A) (ya (fOp ixD (fVar 0) (fC (.s (.int 1)))) (ya (fOp ixD (fVar 0) (fC (.s (.int 2)))) vNil))))
 vf)
 (sSeq (sIf (wc (fOp eqD (fOp ixD (fVar 0) (fC (.s (.int 0)))) (fC (.s (.str "among")))))
 (sRet (j9 1 A.c_Among (wae A) (ya (fOp ixD (fVar 0) (fC (.s (.int 1)))) vNil)))
 vf)
 (sRet (j9 1 A.c_Begins (j8 A) (ya (fOp ixD (fVar 0) (fC (.s (.int 1)))) vNil))))))
noncomputable def qp (A : Ads) : PL.P Rv := runF [0] 1 (yat A)
noncomputable def jak (A : Ads) : PL.P Fl :=
 (sSeq (xba 1 (fLst vNil))
 (sSeq (sFor (vv (fOp ixD (fVar 0) (fC (.s (.int 0))))) (aT 7 (v9 (aN 2) (v9 (aN 3) (v9 (aN 4) (v9 (aN 5) (v9 (aN 6) (v9 (aN 7) (v9 (aN 8) aNil))))))))
 (sSeq (sSet 9 (fC (.s .non)))
 (sSeq (sIf (wc (fOp z0 (fVar 5) (fC (.s .non))))
 (sSet 9 (wd 1 (qp A) (uD (fVar 5) uNil)))
 vf)
 (ja1 (kac 1 (j9 6 A.c_Wish (wh A) (fApp (ya (fVar 3) (ya (fVar 4) (ya (fVar 9) (ya (fVar 6) (ya (fVar 7) (ya (fVar 8) vNil)))))) [])))))))
 (sSeq (sSet 10 (jw [2, 3, 5, 11] (vv (fOp ixD (fVar 0) (fC (.s (.int 1))))) (aT 4 (v9 (aN 2) (v9 (aN 3) (v9 (aN 5) (v9 (aN 11) aNil))))) fYes (j9 3 A.c_Place (xq A) (ya (fVar 3) (ya (wd 1 (qp A) (uD (fVar 5) uNil)) (ya (fVar 11) vNil))))))
 (sRet (j9 4 A.c_Table (xh A) (ya (fCB zz (yd (fVar 1) fNil)) (ya (fCB zz (yd (fVar 10) fNil)) (ya (fOp ixD (fVar 0) (fC (.s (.int 2)))) (ya (fOp ixD (fVar 0) (fC (.s (.int 3)))) vNil)))))))))
noncomputable def jq (A : Ads) : PL.P Rv := runF [0] 12 (jak A)
noncomputable def za0 (A : Ads) : PL.P Fl :=
 (sSeq (sFor (vv (fUn (fldD (wj A) "wishes") (fVar 0))) (aN 2)
 (sIf (wc (fOp eqD (fUn (fldD (ve A) "name") (yq (fVar 2))) (fVar 1)))
 (sRet (fVar 2))
 vf))
 (qby A.c_NoName))
noncomputable def yn (A : Ads) : PL.P Rv := runF [0, 1] 3 (za0 A)
noncomputable def k7 (A : Ads) : List (Addr × PL.P Rv) := [(A.c_Table, yn A)]
noncomputable def jau (A : Ads) : PL.P Fl :=
 (sSeq (sFor (vv (fUn (fldD (qk A) "places") (fVar 0))) (aN 2)
 (sIf (wc (fOp eqD (fUn (fldD (ve A) "name") (yq (fVar 2))) (fVar 1)))
 (sRet (fVar 2))
 vf))
 (qby A.c_NoName))
noncomputable def yl (A : Ads) : PL.P Rv := runF [0, 1] 3 (jau A)
noncomputable def vy (A : Ads) : List (Addr × PL.P Rv) := [(A.c_Table, yl A)]
noncomputable def xbe (A : Ads) : PL.P Fl :=
 (sSeq (sSet 3 (fC (.s .non)))
 (sSeq (sSet 4 (fC (.s .non)))
 (sSeq (sTry A.K A.c_WordError A.xs 5 3
 (sIf (wc (fOp eqD (fVar 0) (fC (.s (.str "wish")))))
 (sSet 4 (w0 "wish" 2 (k7 A) (fVar 1) (uD (fVar 2) uNil)))
 (sSet 4 (w0 "place" 2 (vy A) (fVar 1) (uD (fVar 2) uNil)))))
 (sSeq (sIf (wc (fOp isD (fVar 3) (fC (.s .non))))
 (sRet (fVar 4))
 vf)
 (sRet (x9 (fCB (isiD A.K A.cs) (yd (fVar 3) (yd (fC (.s (.ref A.c_NoName))) fNil))) (fNotV (fCB (isiD A.K A.cs) (yd (fVar 3) (yd (fTup (ya (fC (.s (.ref A.c_NoKind))) (ya (fC (.s (.ref A.c_NoRow))) (ya (fC (.s (.ref A.c_NoTable))) (ya (fC (.s (.ref A.c_NoText))) vNil))))) fNil))))))))))
noncomputable def zf (A : Ads) : PL.P Rv := runF [0, 1, 2] 6 (xbe A)
noncomputable def jb3 (A : Ads) : PL.P Fl :=
 (kb5 2 Tab7 lab7
 (sSeq (sIf (fOr (wc (fOp neD (w0 "told" 1 (yh A) (fVar 0) uNil) (fVar 1))) (fNot (wc (fCB (isiD A.K A.cs) (yd (w0 "told" 1 (yh A) (fVar 0) uNil) (yd (fC (.s (.ty "tuple"))) fNil))))))
 (sRet (fC (.s (.bl false))))
 vf)
 (sSeq (sIf (fOr (fNot (wc (fCB (isiD A.K A.cs) (yd (fUn (fldD (wj A) "wishes") (fVar 0)) (yd (fC (.s (.ty "tuple"))) fNil))))) (fNot (wc (fCB (isiD A.K A.cs) (yd (fUn (fldD (qk A) "places") (fVar 0)) (yd (fC (.s (.ty "tuple"))) fNil))))))
 (sRet (fC (.s (.bl false))))
 vf)
 (sSeq (sIf (fOr (wc (fOp neD (fTup (ya (fUn (fldD (yac A) "bars") (fVar 0)) (ya (fUn (fldD (jx A) "needs") (fVar 0)) vNil))) (fSl (fVar 1) (zAt (fC (.s (.int 2)))) zNo))) (wc (fOp neD (jw [3] (vv (fUn (fldD (wj A) "wishes") (fVar 0))) (aN 3) fYes (w0 "told" 1 (wx A) (yq (fVar 3)) uNil)) (fCB xbz (yd (fOp ixD (fVar 1) (fC (.s (.int 0)))) fNil)))))
 (sRet (fC (.s (.bl false))))
 vf)
 (sSeq (sIf (wc (fOp neD (jw [4] (vv (fUn (fldD (qk A) "places") (fVar 0))) (aN 4) fYes (w0 "told" 1 (jt A) (yq (fVar 4)) uNil)) (fCB xbz (yd (fOp ixD (fVar 1) (fC (.s (.int 1)))) fNil))))
 (sRet (fC (.s (.bl false))))
 vf)
 (sSeq (sFor (vbc (yd (fCB lenD (yd (fOp ixD (fVar 1) (fC (.s (.int 0)))) fNil)) fNil)) (aN 2)
 (sSeq (sSet 3 (fOp ixD (fUn (fldD (wj A) "wishes") (fVar 0)) (fVar 2)))
 (sSeq (sIf (wc (fOp neD (fTup (ya (fUn (fldD (ve A) "name") (yq (fVar 3))) (ya (fUn (fldD (ki A) "letter") (yq (fVar 3))) (ya (fUn (fldD (xaj A) "may") (yq (fVar 3))) (ya (fUn (fldD (q7 A) "many") (yq (fVar 3))) (ya (fUn (fldD (y6 A) "must") (yq (fVar 3))) vNil)))))) (fOp addD (fSl (fOp ixD (fOp ixD (fVar 1) (fC (.s (.int 0)))) (fVar 2)) (zAt (fC (.s (.int 1)))) (zAt (fC (.s (.int 3))))) (fSl (fOp ixD (fOp ixD (fVar 1) (fC (.s (.int 0)))) (fVar 2)) (zAt (fC (.s (.int 4)))) zNo))))
 (sRet (fC (.s (.bl false))))
 vf)
 (sSeq (sIf (wc (fOp neD (fOp isD (fUn (fldD (wg A) "kind") (yq (fVar 3))) (fC (.s .non))) (fOp isD (fOp ixD (fOp ixD (fOp ixD (fVar 1) (fC (.s (.int 0)))) (fVar 2)) (fC (.s (.int 3)))) (fC (.s .non)))))
 (sRet (fC (.s (.bl false))))
 vf)
 (sSeq (sIf (fAnd (wc (fOp z0 (fUn (fldD (wg A) "kind") (yq (fVar 3))) (fC (.s .non)))) (wc (fOp neD (w0 "told" 1 (ky A) (fUn (fldD (wg A) "kind") (yq (fVar 3))) uNil) (fOp ixD (fOp ixD (fOp ixD (fVar 1) (fC (.s (.int 0)))) (fVar 2)) (fC (.s (.int 3)))))))
 (sRet (fC (.s (.bl false))))
 vf)
 (sSeq (sIf (wc (fOp (wb5 (zas A)) (wd 3 (zf A) (uD (fC (.s (.str "wish"))) (uD (fVar 0) (uD (fUn (fldD (ve A) "name") (yq (fVar 3))) uNil)))) (fVar 3)))
 (sRet (fC (.s (.bl false))))
 vf)
 (sIf (wc (fOp z0 (wd 3 (zf A) (uD (fC (.s (.str "place"))) (uD (fVar 0) (uD (fUn (fldD (ve A) "name") (yq (fVar 3))) uNil)))) (fC (.s (.bl true)))))
 (sRet (fC (.s (.bl false))))
 vf)))))))
 (sSeq (sFor (vbc (yd (fCB lenD (yd (fOp ixD (fVar 1) (fC (.s (.int 1)))) fNil)) fNil)) (aN 2)
 (sSeq (sSet 4 (fOp ixD (fUn (fldD (qk A) "places") (fVar 0)) (fVar 2)))
 (sSeq (sIf (fOr (wc (fOp neD (fTup (ya (fUn (fldD (ve A) "name") (yq (fVar 4))) (ya (fUn (fldD (vp A) "often") (yq (fVar 4))) vNil))) (fTup (ya (fOp ixD (fOp ixD (fOp ixD (fVar 1) (fC (.s (.int 1)))) (fVar 2)) (fC (.s (.int 1)))) (ya (fOp ixD (fOp ixD (fOp ixD (fVar 1) (fC (.s (.int 1)))) (fVar 2)) (fC (.s (.int 3)))) vNil))))) (wc (fOp neD (w0 "told" 1 (ky A) (fUn (fldD (wg A) "kind") (yq (fVar 4))) uNil) (fOp ixD (fOp ixD (fOp ixD (fVar 1) (fC (.s (.int 1)))) (fVar 2)) (fC (.s (.int 2)))))))
 (sRet (fC (.s (.bl false))))
 vf)
 (sIf (fOr (wc (fOp (wb5 (zas A)) (wd 3 (zf A) (uD (fC (.s (.str "place"))) (uD (fVar 0) (uD (fUn (fldD (ve A) "name") (yq (fVar 4))) uNil)))) (fVar 4))) (wc (fOp z0 (wd 3 (zf A) (uD (fC (.s (.str "wish"))) (uD (fVar 0) (uD (fUn (fldD (ve A) "name") (yq (fVar 4))) uNil)))) (fC (.s (.bl true))))))
 (sRet (fC (.s (.bl false))))
 vf))))
 (sSeq (sSet 5 (jw [8] (vv (fOp ixD (fVar 1) (fC (.s (.int 0))))) (aN 8) fYes (fOp ixD (fVar 8) (fC (.s (.int 1))))))
 (sSeq (sSet 6 (jw [8] (vv (fOp ixD (fVar 1) (fC (.s (.int 1))))) (aN 8) fYes (fOp ixD (fVar 8) (fC (.s (.int 1))))))
 (sSeq (sFor (vv (fOp addD (fVar 5) (fVar 6))) (aN 7)
 (sSeq (sIf (fAnd (wc (fOp zbb (fSl (fVar 7) zNo (zAt (fUn negD (fC (.s (.int 1)))))) (fVar 5))) (wc (fOp z0 (wd 3 (zf A) (uD (fC (.s (.str "wish"))) (uD (fVar 0) (uD (fSl (fVar 7) zNo (zAt (fUn negD (fC (.s (.int 1)))))) uNil)))) (fC (.s (.bl true))))))
 (sRet (fC (.s (.bl false))))
 vf)
 (sIf (fAnd (wc (fOp zbb (fSl (fVar 7) zNo (zAt (fUn negD (fC (.s (.int 1)))))) (fVar 6))) (wc (fOp z0 (wd 3 (zf A) (uD (fC (.s (.str "place"))) (uD (fVar 0) (uD (fSl (fVar 7) zNo (zAt (fUn negD (fC (.s (.int 1)))))) uNil)))) (fC (.s (.bl true))))))
 (sRet (fC (.s (.bl false))))
 vf)))
 (sRet (x9 (fOp isD (wd 3 (zf A) (uD (fC (.s (.str "wish"))) (uD (fVar 0) (uD (fC (.s (.str "nosuchname"))) uNil)))) (fC (.s (.bl true)))) (fOp isD (wd 3 (zf A) (uD (fC (.s (.str "place"))) (uD (fVar 0) (uD (fC (.s (.str ""))) uNil)))) (fC (.s (.bl true))))))))))))))))
noncomputable def zae (A : Ads) : PL.P Rv := runF [0, 1] 9 (jb3 A)
noncomputable def b_law (A : Ads) : PL.P Fl :=
 (sSeq (sFor (vbc (yd (fCB maxD (yd (fC (.s (.int 1))) (yd (fCB minD (yd (fC (.s (.int 30))) (yd (fCB lenD (yd (fVar 0) fNil)) fNil))) fNil))) fNil)) (aN 1)
 (sSeq (xba 2 (fLst (ya (wd 2 (w7 A) (uD (fVar 0) (uD (fVar 1) uNil))) (ya (fC (.s (.int 0))) vNil))))
 (sSeq (sSet 3 (wd 3 (vau A) (uM 2 (uD (fC (.s (.int 5))) (uD (fC (.s (.int 4))) uNil)))))
 (sSeq (sSet 4 (wd 1 (jq A) (uD (fVar 3) uNil)))
 (sSeq (sIf (fOr (fNot (wc (wd 2 (zae A) (uD (fVar 4) (uD (fVar 3) uNil))))) (fNot (wc (wd 2 (zae A) (uD (fVar 4) (uD (fVar 3) uNil))))))
 (sRet (fC (.s (.bl false))))
 vf)
 (sIf (wc (fOp eqD (wd 2 (yf A) (uM 2 (uD (fC (.s (.int 4))) uNil))) (fC (.s (.int 0)))))
 (sSeq (sSet 5 (wd 2 (xae A) (uM 2 (uD (fC (.s (.int 3))) uNil))))
 (sSeq (sSet 6 (j9 4 A.c_Table (xh A) (ya (fTup (ya (j9 6 A.c_Wish (wh A) (fApp (ya (fOp ixD (fVar 5) (fC (.s (.int 0)))) vNil) [.non, .non, .bl false, .bl false, .bl false])) (ya (j9 6 A.c_Wish (wh A) (fApp (ya (fOp ixD (fVar 5) (fC (.s (.int 1)))) (ya (fC (.s (.str "q"))) vNil)) [.non, .bl false, .bl false, .bl false])) vNil))) (ya (fTup vNil) (ya (fTup vNil) (ya (fTup vNil) vNil))))))
 (sSeq (sSet 7 (fTup (ya (fC (.s (.str "wish"))) (ya (fOp ixD (fVar 5) (fC (.s (.int 0)))) (ya (fC (.s .non)) (ya (fC (.s .non)) (ya (fC (.s (.bl false))) (ya (fC (.s (.bl false))) (ya (fC (.s (.bl false))) vNil)))))))))
 (sSeq (sSet 8 (fTup (ya (fC (.s (.str "wish"))) (ya (fOp ixD (fVar 5) (fC (.s (.int 1)))) (ya (fC (.s (.str "q"))) (ya (fC (.s .non)) (ya (fC (.s (.bl false))) (ya (fC (.s (.bl false))) (ya (fC (.s (.bl false))) vNil)))))))))
 (sSeq (sIf (fOr (wc (fOp neD (w0 "told" 1 (yh A) (fVar 6) uNil) (fTup (ya (fTup (ya (fVar 7) (ya (fVar 8) vNil))) (ya (fTup vNil) (ya (fTup vNil) (ya (fTup vNil) vNil))))))) (wc (fOp neD (w0 "told" 1 (yh A) (j9 4 A.c_Table (xh A) (ya (fTup vNil) (ya (fTup vNil) (ya (fTup vNil) (ya (fTup vNil) vNil))))) uNil) (fTup (ya (fTup vNil) (ya (fTup vNil) (ya (fTup vNil) (ya (fTup vNil) vNil))))))))
 (sRet (fC (.s (.bl false))))
 vf)
 (sSeq (sSet 9 (j9 4 A.c_Table (xh A) (ya (fTup vNil) (ya (fTup (ya (j9 3 A.c_Place (xq A) (ya (fOp ixD (fVar 5) (fC (.s (.int 2)))) (ya (fBare A.c_AnyWord) (ya (fC (.s (.str "any"))) vNil)))) vNil)) (ya (fTup vNil) (ya (fTup vNil) vNil))))))
 (sIf (wc (fOp neD (w0 "told" 1 (yh A) (fVar 9) uNil) (fTup (ya (fTup vNil) (ya (fTup (ya (fTup (ya (fC (.s (.str "place"))) (ya (fOp ixD (fVar 5) (fC (.s (.int 2)))) (ya (fTup (ya (fC (.s (.str "any"))) vNil)) (ya (fC (.s (.str "any"))) vNil))))) vNil)) (ya (fTup vNil) (ya (fTup vNil) vNil)))))))
 (sRet (fC (.s (.bl false))))
 vf)))))))
 vf))))))
 (sRet (fC (.s (.bl true)))))
noncomputable def F_law (A : Ads) : PL.P Rv := runF [0] 10 (b_law A)
structure Txt (A : Ads) (mg : Str → Option Value) (base : Heap) : Prop where
 f_Wish_init : ∃ f fd, FunD A.K "__init__" "Wish.__init__" (defArgs (clsS 22 0)) (defBody (clsS 22 0)) (defScope (clsS 22 0)) [.non, .non, .bl false, .bl false, .bl false] [] f fd ∧ Mk A.K A.c_Wish f ∧ (∃ ds, Vals ([] : List V) ds ∧ Binds A.K fd ["self", "name", "letter", "kind", "may", "many", "must"] ds) ∧ (∃ ds, Vals ([.non, .non, .bl false, .bl false, .bl false] : List V) ds ∧ Binds A.K fd ["self", "name", "letter", "kind", "may", "many", "must"] ds) ∧ (∃ ds, Vals ([.non, .bl false, .bl false, .bl false] : List V) ds ∧ Binds A.K fd ["self", "name", "letter", "kind", "may", "many", "must"] ds)
 f_Place_init : ∃ f fd, Fun A.K "__init__" "Place.__init__" (clsS 23 0) f fd ∧ Mk A.K A.c_Place f ∧ Binds A.K fd ["self", "name", "kind", "often"] []
 f_are_letters : ∃ f fd, Fun A.K "are_letters" "are_letters" (topS 9) f fd ∧ mg "are_letters" = some (.ref f) ∧ Binds A.K fd ["thing", "least", "most"] []
 f_is_named : ∃ f fd, Fun A.K "is_named" "is_named" (topS 24) f fd ∧ mg "is_named" = some (.ref f) ∧ Binds A.K fd ["thing", "names"] []
 f_is_wish : ∃ f fd, Fun A.K "is_wish" "is_wish" (topS 25) f fd ∧ mg "is_wish" = some (.ref f) ∧ Binds A.K fd ["thing", "ahead"] []
 f_is_place : ∃ f fd, Fun A.K "is_place" "is_place" (topS 26) f fd ∧ mg "is_place" = some (.ref f) ∧ Binds A.K fd ["thing", "names"] []
 f_is_pair : ∃ f fd, Fun A.K "is_pair" "is_pair" (topS 27) f fd ∧ mg "is_pair" = some (.ref f) ∧ Binds A.K fd ["thing", "names"] []
 f_need_part : ∃ f fd, Fun A.K "need_part" "need_part" (topS 28) f fd ∧ mg "need_part" = some (.ref f) ∧ Binds A.K fd ["part", "things", "most", "is_right"] []
 f_Table_init : ∃ f fd, Fun A.K "__init__" "Table.__init__" (clsS 29 0) f fd ∧ FunC A.K "__init__" "Table.__init__" (clsS 29 0) f fd A.cT ∧ Mk A.K A.c_Table f ∧ Binds A.K fd ["self", "wishes", "places", "bars", "needs"] []
 f_AnyWord_told : ∃ f fd, Fun A.K "told" "AnyWord.told" (clsS 13 1) f fd ∧ Meth A.K A.c_AnyWord "told" f ∧ Binds A.K fd ["self"] []
 f_Number_told : ∃ f fd, Fun A.K "told" "Number.told" (clsS 14 2) f fd ∧ Meth A.K A.c_Number "told" f ∧ Binds A.K fd ["self"] []
 f_Among_told : ∃ f fd, Fun A.K "told" "Among.told" (clsS 15 2) f fd ∧ Meth A.K A.c_Among "told" f ∧ Binds A.K fd ["self"] []
 f_Begins_told : ∃ f fd, Fun A.K "told" "Begins.told" (clsS 16 2) f fd ∧ Meth A.K A.c_Begins "told" f ∧ Binds A.K fd ["self"] []
 f_told_kind : ∃ f fd, Fun A.K "told_kind" "told_kind" (topS 21) f fd ∧ mg "told_kind" = some (.ref f) ∧ Binds A.K fd ["kind"] []
 f_Wish_told : ∃ f fd, Fun A.K "told" "Wish.told" (clsS 22 1) f fd ∧ Meth A.K A.c_Wish "told" f ∧ Binds A.K fd ["self"] []
 f_Place_told : ∃ f fd, Fun A.K "told" "Place.told" (clsS 23 1) f fd ∧ Meth A.K A.c_Place "told" f ∧ Binds A.K fd ["self"] []
 f_Table_told : ∃ f fd, Fun A.K "told" "Table.told" (clsS 29 3) f fd ∧ Meth A.K A.c_Table "told" f ∧ Binds A.K fd ["self"] []
 f_l_mixed : ∃ f fd, Fun A.K "_law_mixed" "_law_mixed" (topS 31) f fd ∧ mg "_law_mixed" = some (.ref f) ∧ Binds A.K fd ["_law_cell", "_law_k"] []
 f_l_cell_at : ∃ f fd, Fun A.K "_law_cell_at" "_law_cell_at" (topS 32) f fd ∧ mg "_law_cell_at" = some (.ref f) ∧ Binds A.K fd ["_law_script", "_law_k"] []
 f_l_next : ∃ f fd, Fun A.K "_law_next" "_law_next" (topS 33) f fd ∧ mg "_law_next" = some (.ref f) ∧ Binds A.K fd ["_law_draw", "_law_size"] []
 f_l_pick : ∃ f fd, Fun A.K "_law_pick" "_law_pick" (topS 34) f fd ∧ mg "_law_pick" = some (.ref f) ∧ Binds A.K fd ["_law_draw", "_law_some"] []
 f_l_names : ∃ f fd, Fun A.K "_law_names" "_law_names" (topS 35) f fd ∧ mg "_law_names" = some (.ref f) ∧ Binds A.K fd ["_law_draw", "_law_many"] []
 f_l_bare : ∃ f fd, Fun A.K "_law_bare" "_law_bare" (topS 36) f fd ∧ mg "_law_bare" = some (.ref f) ∧ Binds A.K fd ["_law_draw"] []
 f_l_kind : ∃ f fd, Fun A.K "_law_kind" "_law_kind" (topS 37) f fd ∧ mg "_law_kind" = some (.ref f) ∧ Binds A.K fd ["_law_draw"] []
 f_l_wish : ∃ f fd, Fun A.K "_law_wish" "_law_wish" (topS 38) f fd ∧ mg "_law_wish" = some (.ref f) ∧ Binds A.K fd ["_law_draw", "_law_name", "_law_letters"] []
 f_l_pairs : ∃ f fd, Fun A.K "_law_pairs" "_law_pairs" (topS 39) f fd ∧ mg "_law_pairs" = some (.ref f) ∧ Binds A.K fd ["_law_draw", "_law_names_here", "_law_many"] []
 f_l_table : ∃ f fd, Fun A.K "_law_table" "_law_table" (topS 40) f fd ∧ mg "_law_table" = some (.ref f) ∧ Binds A.K fd ["_law_draw", "_law_wishes", "_law_places"] []
 f_Number_init : ∃ f fd, Fun A.K "__init__" "Number.__init__" (clsS 14 0) f fd ∧ Mk A.K A.c_Number f ∧ Binds A.K fd ["self", "least", "most"] []
 f_Among_init : ∃ f fd, Fun A.K "__init__" "Among.__init__" (clsS 15 0) f fd ∧ Mk A.K A.c_Among f ∧ Binds A.K fd ["self", "words"] []
 f_Begins_init : ∃ f fd, Fun A.K "__init__" "Begins.__init__" (clsS 16 0) f fd ∧ Mk A.K A.c_Begins f ∧ Binds A.K fd ["self", "start"] []
 f_l_kind_made : ∃ f fd, Fun A.K "_law_kind_made" "_law_kind_made" (topS 41) f fd ∧ mg "_law_kind_made" = some (.ref f) ∧ Binds A.K fd ["_law_told"] []
 f_l_table_made : ∃ f fd, Fun A.K "_law_table_made" "_law_table_made" (topS 42) f fd ∧ mg "_law_table_made" = some (.ref f) ∧ Binds A.K fd ["_law_told"] []
 f_Table_wish : ∃ f fd, Fun A.K "wish" "Table.wish" (clsS 29 1) f fd ∧ Meth A.K A.c_Table "wish" f ∧ Binds A.K fd ["self", "name"] []
 f_Table_place : ∃ f fd, Fun A.K "place" "Table.place" (clsS 29 2) f fd ∧ Meth A.K A.c_Table "place" f ∧ Binds A.K fd ["self", "name"] []
 f_l_found : ∃ f fd, Fun A.K "_law_found" "_law_found" (topS 43) f fd ∧ mg "_law_found" = some (.ref f) ∧ Binds A.K fd ["_law_way", "_law_table_here", "_law_name"] []
 f_l_right : ∃ f fd, Fun A.K "_law_right" "_law_right" (topS 44) f fd ∧ mg "_law_right" = some (.ref f) ∧ Binds A.K fd ["_law_table_here", "_law_told"] []
 f_law : ∃ f fd, Fun A.K "law" "law" (topS 45) f fd ∧ mg "law" = some (.ref f) ∧ Binds A.K fd ["_law_script"] []
 k_WordError : mg "WordError" = some (.ref A.c_WordError)
 k_NoKind : mg "NoKind" = some (.ref A.c_NoKind)
 k_NoTable : mg "NoTable" = some (.ref A.c_NoTable)
 k_NoText : mg "NoText" = some (.ref A.c_NoText)
 k_NoName : mg "NoName" = some (.ref A.c_NoName)
 k_NoRow : mg "NoRow" = some (.ref A.c_NoRow)
 k_Kind : mg "Kind" = some (.ref A.c_Kind)
 k_AnyWord : mg "AnyWord" = some (.ref A.c_AnyWord)
 k_Number : mg "Number" = some (.ref A.c_Number)
 k_Among : mg "Among" = some (.ref A.c_Among)
 k_Begins : mg "Begins" = some (.ref A.c_Begins)
 k_Wish : mg "Wish" = some (.ref A.c_Wish)
 k_Place : mg "Place" = some (.ref A.c_Place)
 k_Table : mg "Table" = some (.ref A.c_Table)
 cl_AnyWord : Cls A.K A.c_AnyWord
 b_AnyWord : Bare A.K A.c_AnyWord
 cl_Number : Cls A.K A.c_Number
 cl_Among : Cls A.K A.c_Among
 cl_Begins : Cls A.K A.c_Begins
 cl_Wish : Cls A.K A.c_Wish
 cl_Place : Cls A.K A.c_Place
 cl_Table : Cls A.K A.c_Table
 na_bars : ∀ c, (yac A).contains c = true → Cls A.K c ∧ NoAttr A.K c "bars"
 na_kind : ∀ c, (wg A).contains c = true → Cls A.K c ∧ NoAttr A.K c "kind"
 na_least : ∀ c, (j7 A).contains c = true → Cls A.K c ∧ NoAttr A.K c "least"
 na_letter : ∀ c, (ki A).contains c = true → Cls A.K c ∧ NoAttr A.K c "letter"
 na_listed : ∀ c, (wu A).contains c = true → Cls A.K c ∧ NoAttr A.K c "listed"
 na_many : ∀ c, (q7 A).contains c = true → Cls A.K c ∧ NoAttr A.K c "many"
 na_may : ∀ c, (xaj A).contains c = true → Cls A.K c ∧ NoAttr A.K c "may"
 na_most : ∀ c, (xal A).contains c = true → Cls A.K c ∧ NoAttr A.K c "most"
 na_must : ∀ c, (y6 A).contains c = true → Cls A.K c ∧ NoAttr A.K c "must"
 na_name : ∀ c, (ve A).contains c = true → Cls A.K c ∧ NoAttr A.K c "name"
 na_needs : ∀ c, (jx A).contains c = true → Cls A.K c ∧ NoAttr A.K c "needs"
 na_often : ∀ c, (vp A).contains c = true → Cls A.K c ∧ NoAttr A.K c "often"
 na_places : ∀ c, (qk A).contains c = true → Cls A.K c ∧ NoAttr A.K c "places"
 na_start : ∀ c, (x6 A).contains c = true → Cls A.K c ∧ NoAttr A.K c "start"
 na_wishes : ∀ c, (wj A).contains c = true → Cls A.K c ∧ NoAttr A.K c "wishes"
 nc_cmp : ∀ c, (zas A).contains c = true → NoCmp A.K c
 z_all : mg "all" = none
 z_bool : mg "bool" = none
 z_enumerate : mg "enumerate" = none
 z_int : mg "int" = none
 z_isinstance : mg "isinstance" = none
 z_len : mg "len" = none
 z_list : mg "list" = none
 z_max : mg "max" = none
 z_min : mg "min" = none
 z_range : mg "range" = none
 z_set : mg "set" = none
 z_sorted : mg "sorted" = none
 z_str : mg "str" = none
 z_tuple : mg "tuple" = none
 c_LETTERS : ∃ u, mg "LETTERS" = some u ∧ RelV c_LETTERS u
 c_MOST_OTHERS : ∃ u, mg "MOST_OTHERS" = some u ∧ RelV c_MOST_OTHERS u
 c_MOST_WISHES : ∃ u, mg "MOST_WISHES" = some u ∧ RelV c_MOST_WISHES u
 c_OFTENS : ∃ (v : V) (u : Value), mg "OFTENS" = some u ∧ RelV v u ∧ ∀ C, Is A.K C (.tup (c_OFTENS.map fun y => .s (.str y))) v
 tb : LamX.TabB base mg A.cT A.pT
 tabP : TabP A.K A.pT
 xo_NoName : XOwn A.K A.c_NoName
 xcs : ∀ c, A.xs.contains c = true → ExcC A.K c
 isi : ∀ c, A.cs.contains c = true → IsiCls A.K c
section
variable {A : Ads} {mg : Str → Option Value} {base : Heap}
theorem kaa : FnScope ["self", "name", "letter", "kind", "may", "many", "must"] ["self", "name", "letter", "kind", "may", "many", "must"] (defScope (clsS 22 0)) := ⟨rfl, rfl, rfl, by decide +kernel, rfl, by decide +kernel, by decide +kernel⟩
theorem qbt (T : Txt A mg base) (k : Nat) : qbf A.P A.w A.K mg base (k + 1) "Wish" 6 A.c_Wish [] (wh A) := by
 obtain ⟨f, fd, h1, h2, h3⟩ := T.f_Wish_init
 exact qbq (k := k + 0) (fx := [0, 1, 2, 3, 4, 5, 6]) h1 h2 T.k_Wish h3.1 kaa rfl (by decide) fun _ _ _ _ _ _ B =>
 (va (je B 0 T.na_name (qa B 1))
 (va (je B 0 T.na_letter (qa B 2))
 (va (je B 0 T.na_kind (qa B 3))
 (va (je B 0 T.na_may (qa B 4))
 (va (je B 0 T.na_many (qa B 5))
 (qb (je B 0 T.na_must (qa B 6))))))))
theorem zbt (T : Txt A mg base) (k : Nat) : qbf A.P A.w A.K mg base (k + 1) "Wish" 6 A.c_Wish [.non, .non, .bl false, .bl false, .bl false] (wh A) := by
 obtain ⟨f, fd, h1, h2, h3⟩ := T.f_Wish_init
 exact qbq (k := k + 0) (fx := [0, 1, 2, 3, 4, 5, 6]) h1 h2 T.k_Wish h3.2.1 kaa rfl (by decide) fun _ _ _ _ _ _ B =>
 (va (je B 0 T.na_name (qa B 1))
 (va (je B 0 T.na_letter (qa B 2))
 (va (je B 0 T.na_kind (qa B 3))
 (va (je B 0 T.na_may (qa B 4))
 (va (je B 0 T.na_many (qa B 5))
 (qb (je B 0 T.na_must (qa B 6))))))))
theorem jbt (T : Txt A mg base) (k : Nat) : qbf A.P A.w A.K mg base (k + 1) "Wish" 6 A.c_Wish [.non, .bl false, .bl false, .bl false] (wh A) := by
 obtain ⟨f, fd, h1, h2, h3⟩ := T.f_Wish_init
 exact qbq (k := k + 0) (fx := [0, 1, 2, 3, 4, 5, 6]) h1 h2 T.k_Wish h3.2.2 kaa rfl (by decide) fun _ _ _ _ _ _ B =>
 (va (je B 0 T.na_name (qa B 1))
 (va (je B 0 T.na_letter (qa B 2))
 (va (je B 0 T.na_kind (qa B 3))
 (va (je B 0 T.na_may (qa B 4))
 (va (je B 0 T.na_many (qa B 5))
 (qb (je B 0 T.na_must (qa B 6))))))))
theorem wbn : FnScope ["self", "name", "kind", "often"] ["self", "name", "kind", "often"] (defScope (clsS 23 0)) := ⟨rfl, rfl, rfl, by decide +kernel, rfl, by decide +kernel, by decide +kernel⟩
theorem waz (T : Txt A mg base) (k : Nat) : qa1 A.P A.w A.K mg base (k + 1) "Place" 3 A.c_Place (xq A) := by
 obtain ⟨f, fd, h1, h2, h3⟩ := T.f_Place_init
 exact jbq (k := k + 0) (fx := [0, 1, 2, 3]) h1 h2 T.k_Place h3 wbn rfl (by decide) fun _ _ _ _ _ _ B =>
 (va (je B 0 T.na_name (qa B 1))
 (va (je B 0 T.na_kind (qa B 2))
 (qb (je B 0 T.na_often (qa B 3)))))
theorem zbf : FnScope ["thing", "least", "most"] ["thing", "least", "most"] (defScope (topS 9)) := ⟨rfl, rfl, rfl, by decide +kernel, rfl, by decide +kernel, by decide +kernel⟩
theorem jas (T : Txt A mg base) (k : Nat) : xv A.P A.w A.K mg base (k + 1) "are_letters" 3 (zp A) := by
 obtain ⟨f, fd, h1, h2, h3⟩ := T.f_are_letters
 exact jn (k := k + 0) (fx := [0, 1, 2]) h1 h2 h3 zbf rfl (by decide) fun _ _ _ _ _ _ B =>
 (qb (xc (vx (vh B (wat T.isi B T.z_isinstance) (yb (qa B 0) (yb (yad B T.z_str (by decide +kernel)) zd))) (vx (be_chain (c_le B) (c_le B) (qa B 1) (vh B (jbe B T.z_len) (yb (qa B 0) zd)) (qa B 2)) (wad (yo (c_eq B) (be_m1 (m_strip B) (qa B 0) (xat B T.c_LETTERS)) jb))))))
theorem xb5 : FnScope ["thing", "names"] ["thing", "names"] (defScope (topS 24)) := ⟨rfl, rfl, rfl, by decide +kernel, rfl, by decide +kernel, by decide +kernel⟩
theorem jbj (T : Txt A mg base) (k : Nat) : xv A.P A.w A.K mg base (k + 2) "is_named" 2 (j5 A) := by
 obtain ⟨f, fd, h1, h2, h3⟩ := T.f_is_named
 exact jn (k := k + 1) (fx := [0, 1]) h1 h2 h3 xb5 rfl (by decide) fun _ _ _ _ _ _ B =>
 (qb (xc (vx (qc B (jas T (k + 0)) (aa_d (jc B T.na_name (qa B 0)) (aa_d wa (aa_d wa zc)))) (wad (yo (xb8 B) (jc B T.na_name (qa B 0)) (qa B 1))))))
theorem sc_is_wish : FnScope ["thing", "ahead", "wish", "truth"] ["thing", "ahead"] (defScope (topS 25)) := ⟨rfl, rfl, rfl, by decide +kernel, rfl, by decide +kernel, by decide +kernel⟩
theorem d_is_wish (T : Txt A mg base) (k : Nat) : xv A.P A.w A.K mg base (k + 3) "is_wish" 2 (vae A) := by
 obtain ⟨f, fd, h1, h2, h3⟩ := T.f_is_wish
 exact jn (k := k + 2) (fx := [0, 1]) h1 h2 h3 sc_is_wish rfl (by decide) fun _ _ _ _ _ _ B =>
 (va (zg (bt_w (qax (kx (zx (vh B (wat T.isi B T.z_isinstance) (yb (qa B 0) (yb (kat B T.k_Wish) zd))))) (w3 (kx (zx (qc B (jbj T (k + 0)) (aa_d (qa B 0) (aa_d (ya1 B [("wish", 2)] (bi_X B (qa B 1)) (qd (B.blk _) 2) km (jc (B.blk _) T.na_name (qa (B.blk _) 2))) zc))))))))
 (qb (xc xl))
 kc)
 (va (zg (yc (kad B) (jc B T.na_letter (qa B 0)) xn)
 (qb (zg (bt_w (qax (kx (zx (qc B (jas T (k + 1)) (aa_d (jc B T.na_letter (qa B 0)) (aa_d wa (aa_d wa zc)))))) (w3 (yc (c_in B) (jc B T.na_letter (qa B 0)) (ya1 B [("wish", 2)] (bi_X B (qa B 1)) (qd (B.blk _) 2) km (jc (B.blk _) T.na_letter (qa (B.blk _) 2)))))))
 (qb (xc xl))
 kc))
 kc)
 (va (zg (kx (zx (vh B (b_all B T.z_all) (yb (ya1 B [("truth", 3)] (bi_X B (vc (ja (jc B T.na_may (qa B 0)) (ja (jc B T.na_many (qa B 0)) (ja (jc B T.na_must (qa B 0)) wb))))) (qd (B.blk _) 3) km (vh (B.blk _) (wat T.isi (B.blk _) T.z_isinstance) (yb (qa (B.blk _) 3) (yb (yad (B.blk _) T.z_bool (by decide +kernel)) zd)))) zd))))
 (qb (xc xl))
 kc)
 (qb (xc (be_or (vh B (wat T.isi B T.z_isinstance) (yb (jc B T.na_kind (qa B 0)) (yb (kat B T.k_Kind) zd))) (wad (vx (yo (c_is B) (jc B T.na_kind (qa B 0)) xn) (wad (be_not (jc B T.na_may (qa B 0))))))))))))
theorem zb5 : FnScope ["thing", "names"] ["thing", "names"] (defScope (topS 26)) := ⟨rfl, rfl, rfl, by decide +kernel, rfl, by decide +kernel, by decide +kernel⟩
theorem d_is_place (T : Txt A mg base) (k : Nat) : xv A.P A.w A.K mg base (k + 3) "is_place" 2 (jah A) := by
 obtain ⟨f, fd, h1, h2, h3⟩ := T.f_is_place
 exact jn (k := k + 2) (fx := [0, 1]) h1 h2 h3 zb5 rfl (by decide) fun _ _ _ _ _ _ B =>
 (va (zg (bt_w (qax (kx (zx (vh B (wat T.isi B T.z_isinstance) (yb (qa B 0) (yb (kat B T.k_Place) zd))))) (w3 (kx (zx (qc B (jbj T (k + 0)) (aa_d (qa B 0) (aa_d (qa B 1) zc))))))))
 (qb (xc xl))
 kc)
 (qb (xc (vx (vh B (wat T.isi B T.z_isinstance) (yb (jc B T.na_kind (qa B 0)) (yb (kat B T.k_Kind) zd))) (vx (vh B (wat T.isi B T.z_isinstance) (yb (jc B T.na_often (qa B 0)) (yb (yad B T.z_str (by decide +kernel)) zd))) (wad (yo (c_in B) (jc B T.na_often (qa B 0)) (be_globD B T.c_OFTENS))))))))
theorem sc_is_pair : FnScope ["thing", "names"] ["thing", "names"] (defScope (topS 27)) := ⟨rfl, rfl, rfl, by decide +kernel, rfl, by decide +kernel, by decide +kernel⟩
theorem vb1 (T : Txt A mg base) (k : Nat) : xv A.P A.w A.K mg base (k + 1) "is_pair" 2 (yae A) := by
 obtain ⟨f, fd, h1, h2, h3⟩ := T.f_is_pair
 exact jn (k := k + 0) (fx := [0, 1]) h1 h2 h3 sc_is_pair rfl (by decide) fun _ _ _ _ _ _ B =>
 (va (zg (bt_w (qax (kx (zx (vh B (wat T.isi B T.z_isinstance) (yb (qa B 0) (yb (yad B T.z_tuple (by decide +kernel)) zd))))) (w3 (yc (c_ne B) (vh B (jbe B T.z_len) (yb (qa B 0) zd)) wa))))
 (qb (xc xl))
 kc)
 (qb (xc (vx (yo (c_in B) (qe B (qa B 0) wa) (qa B 1)) (vx (yo (c_in B) (qe B (qa B 0) wa) (qa B 1)) (wad (yo (c_ne B) (qe B (qa B 0) wa) (qe B (qa B 0) wa))))))))
theorem vbx : FnScope ["part", "things", "most", "is_right", "number", "thing"] ["part", "things", "most", "is_right"] (defScope (topS 28)) := ⟨rfl, rfl, rfl, by decide +kernel, rfl, by decide +kernel, by decide +kernel⟩
theorem need_T (T : Txt A mg base) (k : Nat) : NeedT A.P A.w A.K mg base (k + 0) "need_part" (topS 28) ["part", "things", "most", "is_right", "number", "thing"] ["part", "things", "most", "is_right"] [0, 1, 2, 3] (wal A) := by
 obtain ⟨f, fd, h1, h2, h3⟩ := T.f_need_part
 exact ⟨⟨f, fd, h1, h2, h3⟩, vbx, fun _ _ _ _ _ _ _ B act hact =>
 (va (zg (kx (zx (vh B (wat T.isi B T.z_isinstance) (yb (qa B 1) (yb (yad B T.z_tuple (by decide +kernel)) zd)))))
 (qb bs_never)
 kc)
 (qb (waj B (bi_enumX B T.z_enumerate (ja (qa B 1) wb)) (bg_tup B 2 (ql (qd B 4) (ql (qd B 5) kb8)))
 (qb (zg (bt_w (qax (yc (c_eq B) (qa B 4) (qa B 2)) (w3 (kx (zx (hact _ _ _ _ _ (by rfl) (by rfl) (aa_d (qa B 5) (aa_d (zah B (qa B 1) vo (xj (qa B 4))) zc))))))))
 (qb bs_never)
 kc)))))⟩
local macro_rules | `(tactic| walk_at "w") => `(tactic| (try simp only [PL.wp_seq, PL.wp_set, PL.zbk, PL.ybr, PL.wp_op, PL.wp_un, PL.wp_var, PL.wp_c, PL.ka8, PL.va8, PL.za3, PL.ja3, PL.wa2, PL.y9, PL.qa3, PL.ya3, PL.va3, PL.wa3, PL.ka7, PL.za7, PL.xbm, PL.zbm, PL.ya7, PL.va7, PL.za4, PL.kbo, PL.vbo, PL.ka4, PL.jbk, PL.ja2, PL.jbl, PL.wp_brk, PL.ybl, PL.vbl, PL.qa7, PL.yar, PL.yag, PL.vag, PL.wag, PL.kaq, PL.xaq, PL.jap, PL.kap, PL.zap, List.set_cons_zero, List.set_cons_succ, List.length_cons, List.length_nil, PL.addD, PL.subD, PL.va1, PL.mulD, PL.modD, PL.kb0, PL.wp_run, List.cons_append, List.nil_append, List.replicate, List.getElem?_cons_zero, List.getElem?_cons_succ, PL.xbl, PL.yap, PL.qah, PL.qa4, PL.xbr, PL.kbr, PL.isB_bl, PL.wbr, PL.wp_call, PL.qam, PL.qbk, PL.wp_ud, PL.wp_um, PL.van, PL.wan, PL.yan, PL.was, PL.jat, PL.qat, PL.qa8, PL.za8, PL.ja8, PL.wp_cb, PL.wp_nil, PL.wbl, PL.zao, PL.vam, PL.wbj, PL.qa2, PL.wp_tup, PL.wp_lst, PL.xak, PL.wp_and, PL.wp_or, PL.wp_not, PL.jbm, PL.wp_orV, PL.wbm, PL.qbl, PL.wp_ifE, PL.ya2, PL.wp_m1, PL.wp_zno, PL.wp_zat, PL.wp_sl, PL.ybv, PL.jam, PL.wp_ext, PL.zbl, PL.zaf, PL.qaf, PL.wam, PL.jaf, PL.xbk, PL.zw, PL.ja4, PL.ka3, PL.ka6, PL.qbs, PL.kao, PL.xao, PL.vax, PL.xbv, PL.aT_tup, PL.ya8, PL.zbv, PL.xaf, PL.kaf, PL.zan, PL.jan, PL.ya5, PL.wa5, PL.kbq, PL.va5, PL.zbs, PL.xbp, PL.neD_bl, PL.lt_int, PL.lt_str, PL.le_int, PL.gt_int, PL.ge_int, PL.wbp, PL.ybp, PL.ka5, PL.za5, PL.zbq, PL.ybm, PL.vbm, PL.sl_lst, PL.sl_tup, PL.sl_ro, PL.sl_str, PL.neg_int, PL.is_bl, PL.jaq, PL.is_none, PL.w5, PL.qa5, PL.none_int, PL.none_str, PL.jbp, PL.ja5, PL.wa4, PL.kbu, PL.wp_aug, PL.vbu, PL.kan, PL.yaf, PL.wa6, Nat.reduceAdd, Nat.reduceSub, Nat.zero_add, Bool.not_true, Bool.not_false, Bool.false_eq_true, if_true, if_false, PL.qbm, PL.wak, PL.yk, decide_eq_true_eq, PL.qbr, PL.ixw_ro, PL.ybq, PL.wbq, PL.atI_0, PL.atI_1, PL.atI_2, PL.ya6, PL.va6, PL.wap, PL.dv_dic, PL.kbs, PL.xbs, PL.dvQ_dk, PL.dvQ_dt, PL.vbs, PL.dGet_k, PL.dGet_t, PL.va2, PL.za2, PL.vaf, PL.za6, PL.kbk, PL.ja6, PL.wp_app,  PL.putQ_k, PL.putQ_t, PL.xam, PL.zam, PL.kam, PL.xbo, PL.inlQ_l, PL.vbk, List.take_succ_cons, List.take_zero, Option.map_some, Option.map_none, PL.kr, PL.v5, PL.zo, PL.wah]))
local macro_rules | `(tactic| walk_at "fin") => `(tactic| first | trivial | rfl | decide | (simp; done) | omega)
theorem yb2 {F : PL.P Rv} {cs : List Cell} {b : Bool} (h : ybg F cs = some b) : ∃ cs', F cs = some (.ok (rvB b) cs') := by
 unfold ybg at h
 split at h
 ·rename_i b' cs' q
  cases h
  exact ⟨cs', q⟩
 ·cases h
theorem need_go {A : Ads} {part : Str} {things : List D} {most : Int} {fv : D} {act : PL.P (List PL.Arg) → PL.P Rv} (hm : ∀ i, i < things.length → (i : Int) ≠ most)
  (ha : ∀ (i : Nat) (d : D), things[i]? = some d → wp (act (uD (fVar 5) (uD (fSl (fVar 1) zNo (zAt (fVar 4))) uNil))) (fun v r => v = rvB true ∧ r = [.dat (.s (.str part)), .dat (.tup things), .dat (.s (.int most)), .dat fv, .dat (.s (.int i)), .dat d]) EF
   [.dat (.s (.str part)), .dat (.tup things), .dat (.s (.int most)), .dat fv, .dat (.s (.int i)), .dat d]) :
  wp (jk A act) (fun r cs => r = .dat (.s .non) ∧ cs = [.dat (.s (.str part)), .dat (.tup things), .dat (.s (.int most)), .dat fv]) EF [.dat (.s (.str part)), .dat (.tup things), .dat (.s (.int most)), .dat fv] := by
 unfold jk wal
 walk_at "w"
 simp only [PL.kbl, PL.zaq]
 walk_at "w"
 simp only [PL.zaq]
 refine xt (fun i r => ∃ c4 c5, r = [.dat (.s (.str part)), .dat (.tup things), .dat (.s (.int most)), .dat fv, c4, c5]) ⟨_, _, rfl⟩ (fun i d r hd hI => ?_) (fun r hI => ?_)
 ·obtain ⟨c4, c5, rfl⟩ := hI
  obtain ⟨x, hx, rfl⟩ := enum_get hd
  rw [Nat.zero_add]
  have hi := (List.getElem?_eq_some_iff.mp hx).1
  have h0 := hm i hi
  have h1 := ha i x hx
  walk_at "w"
  refine ⟨trivial, by decide, by decide, ?_⟩
  rw [show ((i : Int) == most) = false from beq_eq_false_iff_ne.mpr h0]
  walk_at "w"
  refine wp_mono h1 (fun v r hv => ?_) fun e r z => z.elim
  obtain ⟨rfl, rfl⟩ := hv
  walk_at "w"
  exact ⟨_, _, rfl⟩
 ·obtain ⟨c4, c5, rfl⟩ := hI
  walk_at "w"
  trivial
theorem qbi {G : D → List D → Option Bool} {ds : List D} {r : Option Exn} (h : npOk G ds = some r) : r = none ∧ ∃ (p : Str) (things : List D) (most : Int), ds = [.s (.str p), .tup things, .s (.int most)] ∧ npGo G most things things.length = some true := by
 unfold npOk at h
 split at h
 ·rename_i p things most
  split at h
  ·rename_i q
   cases h
   exact ⟨rfl, _, _, _, rfl, q⟩
  ·cases h
 ·cases h
theorem need_K {A : Ads} {F : PL.P Rv} {g : Addr} {ds : List D} {r : Option Exn} (h : npOk (fun d ahead => ybg F [.dat d, .dat (.tup ahead)]) ds = some r) : ds.length = 3 ∧ jk A (vaw g 2 F 3) ((ds ++ [D.s (.ref g)]).map .dat) = some (qbp ((ds ++ [D.s (.ref g)]).map .dat) r) := by
 obtain ⟨rfl, p, things, most, rfl, hg⟩ := qbi h
 have hs := yby hg
 refine ⟨rfl, ?_⟩
 have := need_go (A := A) (part := p) (things := things) (most := most) (fv := .s (.ref g)) (act := vaw g 2 F 3) (fun i hi => (hs i _ hi (List.getElem?_eq_getElem hi)).1) fun i d hd => by
  obtain ⟨_, hb⟩ := hs i d (List.getElem?_eq_some_iff.mp hd).1 hd
  obtain ⟨cs, hF⟩ := yb2 hb
  rw [PL.wp_actK]
  walk_at "w"
  rw [zbd (Nat.le_of_lt (List.getElem?_eq_some_iff.mp hd).1)]
  exact ⟨trivial, by simp, wp_eq hF ⟨rfl, by match cs with
   | [] => rfl
   | [_] => rfl
   | _ :: _ :: _ => rfl⟩⟩
 obtain ⟨a, r, h1, rfl, rfl⟩ := wbg this
 exact h1
theorem need_L {A : Ads} {F : PL.P Rv} {nm : D} {f : Addr} {φ : Heap → Prop} {z : V} {ds : List D} {r : Option Exn} (h : npOk (fun d ahead => ybg F [.dat d, .dat (.tup ahead), .dat nm]) ds = some r) : ds.length = 3 ∧ jk A (fAct f φ [z] 2 1 F 3) ((ds ++ [D.lam f φ [z] [nm]]).map .dat) = some (qbp ((ds ++ [D.lam f φ [z] [nm]]).map .dat) r) := by
 obtain ⟨rfl, p, things, most, rfl, hg⟩ := qbi h
 have hs := yby hg
 refine ⟨rfl, ?_⟩
 have := need_go (A := A) (part := p) (things := things) (most := most) (fv := .lam f φ [z] [nm]) (act := fAct f φ [z] 2 1 F 3) (fun i hi => (hs i _ hi (List.getElem?_eq_getElem hi)).1) fun i d hd => by
  obtain ⟨_, hb⟩ := hs i d (List.getElem?_eq_some_iff.mp hd).1 hd
  obtain ⟨cs, hF⟩ := yb2 hb
  rw [PL.wp_act (ks := [nm]) (m := 1) rfl rfl]
  simp only [List.map_cons, List.map_nil]
  walk_at "w"
  rw [zbd (Nat.le_of_lt (List.getElem?_eq_some_iff.mp hd).1)]
  refine ⟨trivial, by simp, wp_eq hF ⟨rfl, ?_⟩⟩
  match cs with
  | [] => rfl
  | [_] => rfl
  | [_, _] => rfl
  | _ :: _ :: _ :: _ => rfl
 obtain ⟨a, r, h1, rfl, rfl⟩ := wbg this
 exact h1
theorem vbn : FnScope ["self", "wishes", "places", "bars", "needs", "names", "wish"] ["self", "wishes", "places", "bars", "needs"] (defScope (clsS 29 0)) := ⟨rfl, rfl, rfl, by decide +kernel, rfl, by decide +kernel, by decide +kernel⟩
theorem zb0 {g : Addr} {ds : List D} {r : Option Exn} (h : vt A ds = some r) : ds.length = 3 ∧ jk A (vaw g 2 (vae A) 3) ((ds ++ [D.s (.ref g)]).map .dat) = some (qbp ((ds ++ [D.s (.ref g)]).map .dat) r) := need_K h
theorem xaw {f : Addr} {φ : Heap → Prop} {z : V} {d : D} {ds : List D} {r : Option Exn} (h : xi A d ds = some r) : ds.length = 3 ∧ jk A (fAct f φ [z] 2 1 (jz A) 3) ((ds ++ [D.lam f φ [z] [d]]).map .dat) = some (qbp ((ds ++ [D.lam f φ [z] [d]]).map .dat) r) := need_L h
theorem zaw {f : Addr} {φ : Heap → Prop} {z : V} {d : D} {ds : List D} {r : Option Exn} (h : ji A d ds = some r) : ds.length = 3 ∧ jk A (fAct f φ [z] 2 1 (qz A) 3) ((ds ++ [D.lam f φ [z] [d]]).map .dat) = some (qbp ((ds ++ [D.lam f φ [z] [d]]).map .dat) r) := need_L h
theorem jaw {f : Addr} {φ : Heap → Prop} {z : V} {d : D} {ds : List D} {r : Option Exn} (h : qi A d ds = some r) : ds.length = 3 ∧ jk A (fAct f φ [z] 2 1 (yy A) 3) ((ds ++ [D.lam f φ [z] [d]]).map .dat) = some (qbp ((ds ++ [D.lam f φ [z] [d]]).map .dat) r) := need_L h
theorem qx (T : Txt A mg base) (k : Nat) : qa1 A.P A.w A.K mg base (k + 6) "Table" 4 A.c_Table (xh A) := by
 obtain ⟨f, fd, h1, h0, h2, h3⟩ := T.f_Table_init
 exact make_okC (k := k + 5) (fx := [0, 1, 2, 3, 4]) h0 h2 T.k_Table h3 vbn rfl (by decide) fun _ _ _ _ _ B =>
 (va (vad (be_needK B (need_T T (k + 4)) rfl (by decide) rfl (.inl rfl) (d_is_wish T (k + 1)) (vt A) (fun g ds r h => zb0 h) jb (qa B 1) (xat B T.c_MOST_WISHES)))
 (va (jd B 5 (ya1 B [("wish", 6)] (bi_X B (qa B 1)) (qd (B.blk _) 6) km (jc (B.blk _) T.na_name (qa (B.blk _) 6))))
 (va (vad (jbu B (kl := k + 3) (Nl := ["thing", "ahead", "names", "place"]) (psl := ["thing", "ahead"]) (y0 := "names") (j := 5) rfl vbq (fun _ => rfl) T.tb T.tabP (need_T T (k + 4)) rfl (by decide) rfl (.inl rfl) rfl (by decide) (NdefX.nscope_by (by decide +kernel)) rfl (by decide) (by decide +kernel) (by decide +kernel) rfl (fun _ _ _ _ _ us hl => match us, hl with | [_, _], _ => rfl) rfl (fun _ _ _ _ _ _ _ _ B =>
 (qc B (d_is_place T (k + 0)) (aa_d (qa B 0) (aa_d (qh B (qa B 2) (ya1 B [("place", 3)] (bi_X B (qa B 1)) (qd (B.blk _) 3) km (jc (B.blk _) T.na_name (qa (B.blk _) 3)))) zc)))) (xi A) (fun f φ z d ds r h => xaw h) jb (qa B 2) (xat B T.c_MOST_OTHERS) rfl rfl rfl rfl rfl))
 (va (vad (jbu B (kl := k + 3) (Nl := ["thing", "ahead", "names"]) (psl := ["thing", "ahead"]) (y0 := "names") (j := 5) rfl vbq (fun _ => rfl) T.tb T.tabP (need_T T (k + 4)) rfl (by decide) rfl (.inl rfl) rfl (by decide) (NdefX.nscope_by (by decide +kernel)) rfl (by decide) (by decide +kernel) (by decide +kernel) rfl (fun _ _ _ _ _ us hl => match us, hl with | [_, _], _ => rfl) rfl (fun _ _ _ _ _ _ _ _ B =>
 (vx (qc B (vb1 T (k + 2)) (aa_d (qa B 0) (aa_d (qa B 2) zc))) (vx (yo (zat B) (qa B 0) (qa B 1)) (wad (yo (zat B) (be_revT B (qa B 0)) (qa B 1)))))) (ji A) (fun f φ z d ds r h => zaw h) jb (qa B 3) (xat B T.c_MOST_OTHERS) rfl rfl rfl rfl rfl))
 (va (vad (jbu B (kl := k + 3) (Nl := ["thing", "ahead", "names"]) (psl := ["thing", "ahead"]) (y0 := "names") (j := 5) rfl vbq (fun _ => rfl) T.tb T.tabP (need_T T (k + 4)) rfl (by decide) rfl (.inl rfl) rfl (by decide) (NdefX.nscope_by (by decide +kernel)) rfl (by decide) (by decide +kernel) (by decide +kernel) rfl (fun _ _ _ _ _ us hl => match us, hl with | [_, _], _ => rfl) rfl (fun _ _ _ _ _ _ _ _ B =>
 (vx (qc B (vb1 T (k + 2)) (aa_d (qa B 0) (aa_d (qa B 2) zc))) (wad (yo (zat B) (qa B 0) (qa B 1))))) (qi A) (fun f φ z d ds r h => jaw h) jb (qa B 4) (xat B T.c_MOST_OTHERS) rfl rfl rfl rfl rfl))
 (va (je B 0 T.na_wishes (qa B 1))
 (va (je B 0 T.na_places (qa B 2))
 (va (je B 0 T.na_bars (qa B 3))
 (qb (je B 0 T.na_needs (qa B 4)))))))))))
theorem zba : FnScope ["self"] ["self"] (defScope (clsS 13 1)) := ⟨rfl, rfl, rfl, by decide +kernel, rfl, by decide +kernel, by decide +kernel⟩
theorem kbg (T : Txt A mg base) (k : Nat) : zm A.P A.w A.K mg base (k + 1) "told" 1 (A.c_AnyWord, yi A) := by
 obtain ⟨f, fd, h1, h2, h3⟩ := T.f_AnyWord_told
 exact x5 (k := k + 0) (fx := [0]) T.cl_AnyWord h2 h1 h3 zba rfl (by decide) fun _ _ _ _ _ _ B =>
 (qb (xc (vc (ja jb wb))))
theorem kbf : FnScope ["self"] ["self"] (defScope (clsS 14 2)) := ⟨rfl, rfl, rfl, by decide +kernel, rfl, by decide +kernel, by decide +kernel⟩
theorem kbt (T : Txt A mg base) (k : Nat) : zm A.P A.w A.K mg base (k + 1) "told" 1 (A.c_Number, qm A) := by
 obtain ⟨f, fd, h1, h2, h3⟩ := T.f_Number_told
 exact x5 (k := k + 0) (fx := [0]) T.cl_Number h2 h1 h3 kbf rfl (by decide) fun _ _ _ _ _ _ B =>
 (qb (xc (vc (ja jb (ja (jc B T.na_least (qa B 0)) (ja (jc B T.na_most (qa B 0)) wb))))))
theorem qbo : FnScope ["self"] ["self"] (defScope (clsS 15 2)) := ⟨rfl, rfl, rfl, by decide +kernel, rfl, by decide +kernel, by decide +kernel⟩
theorem jb2 (T : Txt A mg base) (k : Nat) : zm A.P A.w A.K mg base (k + 1) "told" 1 (A.c_Among, qo A) := by
 obtain ⟨f, fd, h1, h2, h3⟩ := T.f_Among_told
 exact x5 (k := k + 0) (fx := [0]) T.cl_Among h2 h1 h3 qbo rfl (by decide) fun _ _ _ _ _ _ B =>
 (qb (xc (vc (ja jb (ja (jc B T.na_listed (qa B 0)) wb)))))
theorem ybf : FnScope ["self"] ["self"] (defScope (clsS 16 2)) := ⟨rfl, rfl, rfl, by decide +kernel, rfl, by decide +kernel, by decide +kernel⟩
theorem ybt (T : Txt A mg base) (k : Nat) : zm A.P A.w A.K mg base (k + 1) "told" 1 (A.c_Begins, jm A) := by
 obtain ⟨f, fd, h1, h2, h3⟩ := T.f_Begins_told
 exact x5 (k := k + 0) (fx := [0]) T.cl_Begins h2 h1 h3 ybf rfl (by decide) fun _ _ _ _ _ _ B =>
 (qb (xc (vc (ja jb (ja (jc B T.na_start (qa B 0)) wb)))))
theorem wbs (T : Txt A mg base) (k : Nat) : ∀ b ∈ ky A, zm A.P A.w A.K mg base (k + 1) "told" 1 b := (List.forall_mem_cons.mpr ⟨kbg T (k + 0), (List.forall_mem_cons.mpr ⟨kbt T (k + 0), (List.forall_mem_cons.mpr ⟨jb2 T (k + 0), (List.forall_mem_cons.mpr ⟨ybt T (k + 0), (fun _ h => nomatch h)⟩)⟩)⟩)⟩)
theorem kbx : FnScope ["kind"] ["kind"] (defScope (topS 21)) := ⟨rfl, rfl, rfl, by decide +kernel, rfl, by decide +kernel, by decide +kernel⟩
theorem yb7 (T : Txt A mg base) (k : Nat) : xv A.P A.w A.K mg base (k + 2) "told_kind" 1 (v7 A) := by
 obtain ⟨f, fd, h1, h2, h3⟩ := T.f_told_kind
 exact jn (k := k + 1) (fx := [0]) h1 h2 h3 kbx rfl (by decide) fun _ _ _ _ _ _ B =>
 (qb (xc (be_if (yc (c_is B) (qa B 0) xn) xn (jl B (wbs T (k + 0)) (qa B 0)))))
theorem wbx : FnScope ["self"] ["self"] (defScope (clsS 22 1)) := ⟨rfl, rfl, rfl, by decide +kernel, rfl, by decide +kernel, by decide +kernel⟩
theorem qb8 (T : Txt A mg base) (k : Nat) : zm A.P A.w A.K mg base (k + 3) "told" 1 (A.c_Wish, wm A) := by
 obtain ⟨f, fd, h1, h2, h3⟩ := T.f_Wish_told
 exact x5 (k := k + 2) (fx := [0]) T.cl_Wish h2 h1 h3 wbx rfl (by decide) fun _ _ _ _ _ _ B =>
 (qb (xc (vc (ja jb (ja (jc B T.na_name (qa B 0)) (ja (jc B T.na_letter (qa B 0)) (ja (qc B (yb7 T (k + 0)) (aa_d (jc B T.na_kind (qa B 0)) zc)) (ja (jc B T.na_may (qa B 0)) (ja (jc B T.na_many (qa B 0)) (ja (jc B T.na_must (qa B 0)) wb))))))))))
theorem yaz (T : Txt A mg base) (k : Nat) : ∀ b ∈ wx A, zm A.P A.w A.K mg base (k + 3) "told" 1 b := (List.forall_mem_cons.mpr ⟨qb8 T (k + 0), (fun _ h => nomatch h)⟩)
theorem ybn : FnScope ["self"] ["self"] (defScope (clsS 23 1)) := ⟨rfl, rfl, rfl, by decide +kernel, rfl, by decide +kernel, by decide +kernel⟩
theorem qb2 (T : Txt A mg base) (k : Nat) : zm A.P A.w A.K mg base (k + 2) "told" 1 (A.c_Place, zk A) := by
 obtain ⟨f, fd, h1, h2, h3⟩ := T.f_Place_told
 exact x5 (k := k + 1) (fx := [0]) T.cl_Place h2 h1 h3 ybn rfl (by decide) fun _ _ _ _ _ _ B =>
 (qb (xc (vc (ja jb (ja (jc B T.na_name (qa B 0)) (ja (jl B (wbs T (k + 0)) (jc B T.na_kind (qa B 0))) (ja (jc B T.na_often (qa B 0)) wb)))))))
theorem war (T : Txt A mg base) (k : Nat) : ∀ b ∈ jt A, zm A.P A.w A.K mg base (k + 2) "told" 1 b := (List.forall_mem_cons.mpr ⟨qb2 T (k + 0), (fun _ h => nomatch h)⟩)
theorem kbn : FnScope ["self", "wishes", "wish", "place"] ["self"] (defScope (clsS 29 3)) := ⟨rfl, rfl, rfl, by decide +kernel, rfl, by decide +kernel, by decide +kernel⟩
theorem wb1 (T : Txt A mg base) (k : Nat) : zm A.P A.w A.K mg base (k + 4) "told" 1 (A.c_Table, jh A) := by
 obtain ⟨f, fd, h1, h2, h3⟩ := T.f_Table_told
 exact x5 (k := k + 3) (fx := [0]) T.cl_Table h2 h1 h3 kbn rfl (by decide) fun _ _ _ _ _ _ B =>
 (va (jd B 1 (vh B (qae B T.z_tuple) (yb (ya1 B [("wish", 2)] (bi_X B (jc B T.na_wishes (qa B 0))) (qd (B.blk _) 2) km (jl (B.blk _) (yaz T (k + 0)) (kg (qa (B.blk _) 2)))) zd)))
 (qb (xc (vc (ja (qa B 1) (ja (vh B (qae B T.z_tuple) (yb (ya1 B [("place", 3)] (bi_X B (jc B T.na_places (qa B 0))) (qd (B.blk _) 3) km (jl (B.blk _) (war T (k + 1)) (kg (qa (B.blk _) 3)))) zd)) (ja (jc B T.na_bars (qa B 0)) (ja (jc B T.na_needs (qa B 0)) wb))))))))
theorem xo (T : Txt A mg base) (k : Nat) : ∀ b ∈ yh A, zm A.P A.w A.K mg base (k + 4) "told" 1 b := (List.forall_mem_cons.mpr ⟨wb1 T (k + 0), (fun _ h => nomatch h)⟩)
theorem sc_l_mixed : FnScope ["_law_cell", "_law_k", "_law_mix"] ["_law_cell", "_law_k"] (defScope (topS 31)) := ⟨rfl, rfl, rfl, by decide +kernel, rfl, by decide +kernel, by decide +kernel⟩
theorem xb1 (T : Txt A mg base) (k : Nat) : xv A.P A.w A.K mg base (k + 1) "_law_mixed" 2 (kae A) := by
 obtain ⟨f, fd, h1, h2, h3⟩ := T.f_l_mixed
 exact jn (k := k + 0) (fx := [0, 1]) h1 h2 h3 sc_l_mixed rfl (by decide) fun _ _ _ _ _ _ B =>
 (va (jd B 2 (qak B (zbj B (qh B (qh B (qa B 0) (zbj B wa (qa B 1))) wa) wa) wa))
 (qb (xc (qak B (qh B (zbj B (qa B 2) (qa B 2)) (zbj B wa (qa B 2))) wa))))
theorem ybx : FnScope ["_law_script", "_law_k", "_law_cell"] ["_law_script", "_law_k"] (defScope (topS 32)) := ⟨rfl, rfl, rfl, by decide +kernel, rfl, by decide +kernel, by decide +kernel⟩
theorem wb7 (T : Txt A mg base) (k : Nat) : xv A.P A.w A.K mg base (k + 2) "_law_cell_at" 2 (w7 A) := by
 obtain ⟨f, fd, h1, h2, h3⟩ := T.f_l_cell_at
 exact jn (k := k + 1) (fx := [0, 1]) h1 h2 h3 ybx rfl (by decide) fun _ _ _ _ _ _ B =>
 (va (jd B 2 wa)
 (va (zg (yc (c_lt B) (qa B 1) (vh B (jbe B T.z_len) (yb (qa B 0) zd)))
 (qb (jd B 2 (qe B (qa B 0) (qa B 1))))
 kc)
 (qb (xc (qc B (xb1 T (k + 0)) (aa_d (qa B 2) (aa_d (qh B wa (qa B 1)) zc)))))))
theorem sc_l_next : FnScope ["_law_draw", "_law_size"] ["_law_draw", "_law_size"] (defScope (topS 33)) := ⟨rfl, rfl, rfl, by decide +kernel, rfl, by decide +kernel, by decide +kernel⟩
theorem kj (T : Txt A mg base) (k : Nat) : xv A.P A.w A.K mg base (k + 2) "_law_next" 2 (yf A) := by
 obtain ⟨f, fd, h1, h2, h3⟩ := T.f_l_next
 exact jn (k := k + 1) (fx := [0, 1]) h1 h2 h3 sc_l_next rfl (by decide) fun _ _ _ _ _ _ B =>
 (va (bs_incL B 0 1 1)
 (qb (xc (qak B (be_fdiv B (qc B (xb1 T (k + 0)) (aa_d (qe B (qa B 0) wa) (aa_d (qe B (qa B 0) wa) zc))) wa) (qa B 1)))))
theorem sc_l_pick : FnScope ["_law_draw", "_law_some"] ["_law_draw", "_law_some"] (defScope (topS 34)) := ⟨rfl, rfl, rfl, by decide +kernel, rfl, by decide +kernel, by decide +kernel⟩
theorem ko (T : Txt A mg base) (k : Nat) : xv A.P A.w A.K mg base (k + 3) "_law_pick" 2 (xf A) := by
 obtain ⟨f, fd, h1, h2, h3⟩ := T.f_l_pick
 exact jn (k := k + 2) (fx := [0, 1]) h1 h2 h3 sc_l_pick rfl (by decide) fun _ _ _ _ _ _ B =>
 (qb (xc (qe B (qa B 1) (qc B (kj T (k + 0)) (aa_m B 0 (aa_d (vh B (jbe B T.z_len) (yb (qa B 1) zd)) zc))))))
theorem sc_l_names : FnScope ["_law_draw", "_law_many", "_law_some", "_law_base", "_law_at", "_law_shift", "_law_way", "_law_names_here", "_law_k", "_law_name", "_law_turn"] ["_law_draw", "_law_many"] (defScope (topS 35)) := ⟨rfl, rfl, rfl, by decide +kernel, rfl, by decide +kernel, by decide +kernel⟩
theorem zb1 (T : Txt A mg base) (k : Nat) : xv A.P A.w A.K mg base (k + 4) "_law_names" 2 (xae A) := by
 obtain ⟨f, fd, h1, h2, h3⟩ := T.f_l_names
 exact jn (k := k + 3) (fx := [0, 1]) h1 h2 h3 sc_l_names rfl (by decide) fun _ _ _ _ _ _ B =>
 (va (jd B 2 jb)
 (va (jd B 3 (be_m1 (m_join B) jb (ya1 B [("_law_k", 8)] (yal B T.z_range (yb (qh B wa (qc B (kj T (k + 1)) (aa_m B 0 (aa_d wa zc)))) zd)) (qd (B.blk _) 8) km (qc (B.blk _) (ko T (k + 0)) (aa_m (B.blk _) 0 (aa_d (qa (B.blk _) 2) zc))))))
 (va (jd B 4 (qc B (kj T (k + 1)) (aa_m B 0 (aa_d (vh B (jbe B T.z_len) (yb (qa B 3) zd)) zc))))
 (va (jd B 5 (qc B (kj T (k + 1)) (aa_m B 0 (aa_d wa zc))))
 (va (jd B 6 (qc B (kj T (k + 1)) (aa_m B 0 (aa_d wa zc))))
 (va (vbd B 7 (qv wb))
 (va (waj B (yal B T.z_range (yb (qa B 1) zd)) (qd B 8)
 (va (jd B 9 (qh B (qh B (zah B (qa B 3) vo (xj (qa B 4))) (qe B (qa B 2) (qak B (qh B (qa B 5) (qa B 8)) wa))) (zah B (qa B 3) (xj (qh B (qa B 4) wa)) vo)))
 (va (zg (bt_w (ja0 (yc (c_eq B) (qa B 6) wa) (jax (yc (c_lt B) (qa B 8) wa))))
 (qb (jd B 9 (qe B (qv (ja jb (ja jb (ja jb (ja jb (ja jb (ja jb wb))))))) (qak B (qh B (qa B 5) (qa B 8)) wa))))
 kc)
 (va (zg (bt_w (ja0 (yc (c_eq B) (qa B 6) wa) (ja0 (yc (c_lt B) (qa B 8) wa) (jax (yc (c_lt B) (qh B (vh B (jbe B T.z_len) (yb (qa B 3) zd)) (qa B 8)) wa)))))
 (qb (jd B 9 (qh B (qa B 3) (zah B jb vo (xj (qa B 8))))))
 kc)
 (va (zg (yc (c_eq B) (qa B 6) wa)
 (qb (jd B 9 (qh B (qe B (qa B 2) (qak B (qh B (qa B 5) (zbj B wa (qa B 8))) wa)) (zah B (qa B 3) (xj wa) (xj (qh B wa (qak B (qa B 8) wa)))))))
 kc)
 (va (jd B 10 wa)
 (va (bs_while B qan (bt_w (qax (yc (c_in B) (qa B 9) (qa B 7)) (w3 (yc (c_lt B) (vh B (jbe B T.z_len) (yb (qa B 9) zd)) wa)))) (va (bs_augAdd B 10 wa)
 (qb (jd B 9 (qh B (qh B (qe B (qa B 2) (qak B (qa B 10) wa)) (qe B (qa B 2) (qak B (qh B (qa B 10) (qa B 8)) wa))) (qe B (qa B 2) (qak B (qa B 8) wa)))))))
 (qb (vad (vat B 7 (qa B 9)))))))))))
 (qb (xc (qa B 7))))))))))
theorem sc_l_bare : FnScope ["_law_draw", "_law_some"] ["_law_draw"] (defScope (topS 36)) := ⟨rfl, rfl, rfl, by decide +kernel, rfl, by decide +kernel, by decide +kernel⟩
theorem d_l_bare (T : Txt A mg base) (k : Nat) : xv A.P A.w A.K mg base (k + 4) "_law_bare" 1 (wa8 A) := by
 obtain ⟨f, fd, h1, h2, h3⟩ := T.f_l_bare
 exact jn (k := k + 3) (fx := [0]) h1 h2 h3 sc_l_bare rfl (by decide) fun _ _ _ _ _ _ B =>
 (va (jd B 1 (qv (ja jb (ja jb (ja jb (ja jb (ja jb (ja jb (ja jb (ja jb (ja jb (ja jb (ja jb (ja jb (ja jb (ja jb (ja jb (ja jb (ja jb wb)))))))))))))))))))
 (qb (xc (qc B (ko T (k + 0)) (aa_m B 0 (aa_d (qh B (qa B 1) (qv (ja jb (ja jb (ja jb wb))))) zc))))))
theorem sc_l_kind : FnScope ["_law_draw", "_law_way", "_law_least", "_law_words", "_law_k"] ["_law_draw"] (defScope (topS 37)) := ⟨rfl, rfl, rfl, by decide +kernel, rfl, by decide +kernel, by decide +kernel⟩
theorem d_l_kind (T : Txt A mg base) (k : Nat) : xv A.P A.w A.K mg base (k + 5) "_law_kind" 1 (yau A) := by
 obtain ⟨f, fd, h1, h2, h3⟩ := T.f_l_kind
 exact jn (k := k + 4) (fx := [0]) h1 h2 h3 sc_l_kind rfl (by decide) fun _ _ _ _ _ _ B =>
 (va (jd B 1 (qc B (kj T (k + 2)) (aa_m B 0 (aa_d wa zc))))
 (va (zg (yc (c_lt B) (qa B 1) wa)
 (qb (xc (vc (ja jb wb))))
 kc)
 (va (zg (yc (c_lt B) (qa B 1) wa)
 (va (jd B 2 (qc B (ko T (k + 1)) (aa_m B 0 (aa_d (qv (ja wa (ja wa (ja wa (ja wa (ja wa (ja wa (ja wa wb)))))))) zc))))
 (qb (xc (vc (ja jb (ja (qa B 2) (ja (qh B (qa B 2) (qc B (ko T (k + 1)) (aa_m B 0 (aa_d (qv (ja wa (ja wa (ja wa (ja wa (ja wa wb)))))) zc)))) wb)))))))
 kc)
 (va (zg (yc (c_lt B) (qa B 1) wa)
 (va (bs_lc B 3 [("_law_k", 4)] (yal B T.z_range (yb (qh B wa (qc B (kj T (k + 2)) (aa_m B 0 (aa_d wa zc)))) zd)) (qd (B.blk _) 4) km (qc (B.blk _) (d_l_bare T (k + 0)) (aa_m (B.blk _) 0 zc)))
 (qb (xc (vc (ja jb (ja (vh B (qae B T.z_tuple) (yb (be_sortSet B T.z_sorted T.z_set (qa B 3)) zd)) wb))))))
 kc)
 (qb (xc (vc (ja jb (ja (qc B (ko T (k + 1)) (aa_m B 0 (aa_d (qv (ja jb (ja jb (ja jb (ja jb (ja jb (ja jb wb))))))) zc))) wb)))))))))
theorem sc_l_wish : FnScope ["_law_draw", "_law_name", "_law_letters", "_law_letter", "_law_kind_here", "_law_may"] ["_law_draw", "_law_name", "_law_letters"] (defScope (topS 38)) := ⟨rfl, rfl, rfl, by decide +kernel, rfl, by decide +kernel, by decide +kernel⟩
theorem d_l_wish (T : Txt A mg base) (k : Nat) : xv A.P A.w A.K mg base (k + 6) "_law_wish" 3 (y7 A) := by
 obtain ⟨f, fd, h1, h2, h3⟩ := T.f_l_wish
 exact jn (k := k + 5) (fx := [0, 1, 2]) h1 h2 h3 sc_l_wish rfl (by decide) fun _ _ _ _ _ _ B =>
 (va (jd B 3 (qc B (ko T (k + 2)) (aa_m B 0 (aa_d (qv (ja jb (ja jb (ja jb (ja jb (ja jb (ja jb (ja xn (ja xn wb))))))))) zc))))
 (va (zg (yc (c_in B) (qa B 3) (qa B 2))
 (qb (jd B 3 xn))
 kc)
 (va (vad (vat B 2 (qa B 3)))
 (va (jd B 4 xn)
 (va (zg (yc (c_gt B) (qc B (kj T (k + 3)) (aa_m B 0 (aa_d wa zc))) wa)
 (qb (jd B 4 (qc B (d_l_kind T (k + 0)) (aa_m B 0 zc))))
 kc)
 (va (jd B 5 (vx (yo (kad B) (qa B 4) xn) (wad (yo (c_eq B) (qc B (kj T (k + 3)) (aa_m B 0 (aa_d wa zc))) wa))))
 (qb (xc (vc (ja jb (ja (qa B 1) (ja (qa B 3) (ja (qa B 4) (ja (qa B 5) (ja (yo (c_eq B) (qc B (kj T (k + 3)) (aa_m B 0 (aa_d wa zc))) wa) (ja (yo (c_eq B) (qc B (kj T (k + 3)) (aa_m B 0 (aa_d wa zc))) wa) wb))))))))))))))))
theorem sc_l_pairs : FnScope ["_law_draw", "_law_names_here", "_law_many", "_law_found_here", "_law_k", "_law_one", "_law_other"] ["_law_draw", "_law_names_here", "_law_many"] (defScope (topS 39)) := ⟨rfl, rfl, rfl, by decide +kernel, rfl, by decide +kernel, by decide +kernel⟩
theorem jb1 (T : Txt A mg base) (k : Nat) : xv A.P A.w A.K mg base (k + 4) "_law_pairs" 3 (jv A) := by
 obtain ⟨f, fd, h1, h2, h3⟩ := T.f_l_pairs
 exact jn (k := k + 3) (fx := [0, 1, 2]) h1 h2 h3 sc_l_pairs rfl (by decide) fun _ _ _ _ _ _ B =>
 (va (vbd B 3 (qv wb))
 (va (waj B (yal B T.z_range (yb (zbj B (qa B 2) (vh B (b_int B T.z_int) (yb (yo (c_gt B) (vh B (jbe B T.z_len) (yb (qa B 1) zd)) wa) zd))) zd)) (qd B 4)
 (va (jd B 5 (qc B (ko T (k + 0)) (aa_m B 0 (aa_d (qa B 1) zc))))
 (va (jd B 6 (qc B (ko T (k + 0)) (aa_m B 0 (aa_d (qa B 1) zc))))
 (qb (zg (bt_w (ja0 (yc (c_ne B) (qa B 5) (qa B 6)) (ja0 (yc (zat B) (vc (ja (qa B 5) (ja (qa B 6) wb))) (qa B 3)) (jax (yc (zat B) (vc (ja (qa B 6) (ja (qa B 5) wb))) (qa B 3))))))
 (qb (vad (vat B 3 (vc (ja (qa B 5) (ja (qa B 6) wb))))))
 kc)))))
 (qb (xc (vh B (qae B T.z_tuple) (yb (qa B 3) zd))))))
theorem sc_l_table : FnScope ["_law_draw", "_law_wishes", "_law_places", "_law_many", "_law_names_here", "_law_letters", "_law_one", "_law_often", "_law_other", "_law_bars", "_law_needs", "_law_name"] ["_law_draw", "_law_wishes", "_law_places"] (defScope (topS 40)) := ⟨rfl, rfl, rfl, by decide +kernel, rfl, by decide +kernel, by decide +kernel⟩
theorem d_l_table (T : Txt A mg base) (k : Nat) : xv A.P A.w A.K mg base (k + 7) "_law_table" 3 (vau A) := by
 obtain ⟨f, fd, h1, h2, h3⟩ := T.f_l_table
 exact jn (k := k + 6) (fx := [0, 1, 2]) h1 h2 h3 sc_l_table rfl (by decide) fun _ _ _ _ _ _ B =>
 (va (jd B 3 (qc B (kj T (k + 4)) (aa_m B 0 (aa_d (qh B (qa B 1) wa) zc))))
 (va (jd B 4 (qc B (zb1 T (k + 2)) (aa_m B 0 (aa_d (qh B (qa B 3) (qc B (kj T (k + 4)) (aa_m B 0 (aa_d (qh B (qa B 2) wa) zc)))) zc))))
 (va (vbd B 5 (qv wb))
 (va (jd B 6 (vh B (qae B T.z_tuple) (yb (ya1 B [("_law_name", 11)] (bi_X B (zah B (qa B 4) vo (xj (qa B 3)))) (qd (B.blk _) 11) km (qc (B.blk _) (d_l_wish T (k + 0)) (aa_m (B.blk _) 0 (aa_d (qa (B.blk _) 11) (aa_m (B.blk _) 5 zc))))) zd)))
 (va (jd B 7 (qv (ja jb (ja jb (ja jb (ja jb (ja jb wb)))))))
 (va (jd B 8 (vh B (qae B T.z_tuple) (yb (ya1 B [("_law_name", 11)] (bi_X B (zah B (qa B 4) (xj (qa B 3)) vo)) (qd (B.blk _) 11) km (vc (ja jb (ja (qa (B.blk _) 11) (ja (qc (B.blk _) (d_l_kind T (k + 1)) (aa_m (B.blk _) 0 zc)) (ja (qc (B.blk _) (ko T (k + 3)) (aa_m (B.blk _) 0 (aa_d (qa (B.blk _) 7) zc))) wb)))))) zd)))
 (va (jd B 9 (qc B (jb1 T (k + 2)) (aa_m B 0 (aa_d (zah B (qa B 4) vo (xj (qa B 3))) (aa_d (qc B (ko T (k + 3)) (aa_m B 0 (aa_d (qv (ja wa (ja wa (ja wa (ja wa (ja wa (ja wa wb))))))) zc))) zc)))))
 (va (jd B 10 (qc B (jb1 T (k + 2)) (aa_m B 0 (aa_d (zah B (qa B 4) vo (xj (qa B 3))) (aa_d (qc B (ko T (k + 3)) (aa_m B 0 (aa_d (qv (ja wa (ja wa (ja wa (ja wa (ja wa wb)))))) zc))) zc)))))
 (qb (xc (vc (ja (qa B 6) (ja (qa B 8) (ja (qa B 9) (ja (qa B 10) wb)))))))))))))))
theorem vbf : FnScope ["self", "least", "most"] ["self", "least", "most"] (defScope (clsS 14 0)) := ⟨rfl, rfl, rfl, by decide +kernel, rfl, by decide +kernel, by decide +kernel⟩
theorem vbt (T : Txt A mg base) (k : Nat) : qa1 A.P A.w A.K mg base (k + 1) "Number" 2 A.c_Number (q8 A) := by
 obtain ⟨f, fd, h1, h2, h3⟩ := T.f_Number_init
 exact jbq (k := k + 0) (fx := [0, 1, 2]) h1 h2 T.k_Number h3 vbf rfl (by decide) fun _ _ _ _ _ _ B =>
 (va (je B 0 T.na_least (qa B 1))
 (qb (je B 0 T.na_most (qa B 2))))
theorem jbo : FnScope ["self", "words"] ["self", "words"] (defScope (clsS 15 0)) := ⟨rfl, rfl, rfl, by decide +kernel, rfl, by decide +kernel, by decide +kernel⟩
theorem zb2 (T : Txt A mg base) (k : Nat) : qa1 A.P A.w A.K mg base (k + 1) "Among" 1 A.c_Among (wae A) := by
 obtain ⟨f, fd, h1, h2, h3⟩ := T.f_Among_init
 exact jbq (k := k + 0) (fx := [0, 1]) h1 h2 T.k_Among h3 jbo rfl (by decide) fun _ _ _ _ _ _ B =>
 (qb (je B 0 T.na_listed (qa B 1)))
theorem wbf : FnScope ["self", "start"] ["self", "start"] (defScope (clsS 16 0)) := ⟨rfl, rfl, rfl, by decide +kernel, rfl, by decide +kernel, by decide +kernel⟩
theorem wbt (T : Txt A mg base) (k : Nat) : qa1 A.P A.w A.K mg base (k + 1) "Begins" 1 A.c_Begins (j8 A) := by
 obtain ⟨f, fd, h1, h2, h3⟩ := T.f_Begins_init
 exact jbq (k := k + 0) (fx := [0, 1]) h1 h2 T.k_Begins h3 wbf rfl (by decide) fun _ _ _ _ _ _ B =>
 (qb (je B 0 T.na_start (qa B 1)))
theorem jbf : FnScope ["_law_told"] ["_law_told"] (defScope (topS 41)) := ⟨rfl, rfl, rfl, by decide +kernel, rfl, by decide +kernel, by decide +kernel⟩
theorem qas (T : Txt A mg base) (k : Nat) : xv A.P A.w A.K mg base (k + 3) "_law_kind_made" 1 (qp A) := by
 obtain ⟨f, fd, h1, h2, h3⟩ := T.f_l_kind_made
 exact jn (k := k + 2) (fx := [0]) h1 h2 h3 jbf rfl (by decide) fun _ _ _ _ _ _ B =>
 (va (zg (yc (c_eq B) (qe B (qa B 0) wa) jb)
 (qb (xc (be_bare B T.b_AnyWord T.k_AnyWord)))
 kc)
 (va (zg (yc (c_eq B) (qe B (qa B 0) wa) jb)
 (qb (xc (z7 B (vbt T (k + 0)) (ja (qe B (qa B 0) wa) (ja (qe B (qa B 0) wa) wb)))))
 kc)
 (va (zg (yc (c_eq B) (qe B (qa B 0) wa) jb)
 (qb (xc (z7 B (zb2 T (k + 0)) (ja (qe B (qa B 0) wa) wb))))
 kc)
 (qb (xc (z7 B (wbt T (k + 0)) (ja (qe B (qa B 0) wa) wb)))))))
theorem jba : FnScope ["_law_told", "_law_wishes", "_law_word", "_law_name", "_law_letter", "_law_kind_here", "_law_may", "_law_many", "_law_must", "_law_made", "_law_places", "_law_often"] ["_law_told"] (defScope (topS 42)) := ⟨rfl, rfl, rfl, by decide +kernel, rfl, by decide +kernel, by decide +kernel⟩
theorem xbg (T : Txt A mg base) (k : Nat) : xv A.P A.w A.K mg base (k + 8) "_law_table_made" 1 (jq A) := by
 obtain ⟨f, fd, h1, h2, h3⟩ := T.f_l_table_made
 exact jn (k := k + 7) (fx := [0]) h1 h2 h3 jba rfl (by decide) fun _ _ _ _ _ _ B =>
 (va (vbd B 1 (qv wb))
 (va (waj B (bi_X B (qe B (qa B 0) wa)) (bg_tup B 7 (ql (qd B 2) (ql (qd B 3) (ql (qd B 4) (ql (qd B 5) (ql (qd B 6) (ql (qd B 7) (ql (qd B 8) kb8))))))))
 (va (jd B 9 xn)
 (va (zg (yc (kad B) (qa B 5) xn)
 (qb (jd B 9 (qc B (qas T (k + 4)) (aa_d (qa B 5) zc))))
 kc)
 (qb (vad (vat B 1 (zbu B (qbt T (k + 5)) (ja (qa B 3) (ja (qa B 4) (ja (qa B 9) (ja (qa B 6) (ja (qa B 7) (ja (qa B 8) wb)))))))))))))
 (va (bs_lc B 10 [("_law_word", 2), ("_law_name", 3), ("_law_kind_here", 5), ("_law_often", 11)] (bi_X B (qe B (qa B 0) wa)) (bg_tup (B.blk _) 4 (ql (qd (B.blk _) 2) (ql (qd (B.blk _) 3) (ql (qd (B.blk _) 5) (ql (qd (B.blk _) 11) kb8))))) km (z7 (B.blk _) (waz T (k + 5)) (ja (qa (B.blk _) 3) (ja (qc (B.blk _) (qas T (k + 4)) (aa_d (qa (B.blk _) 5) zc)) (ja (qa (B.blk _) 11) wb)))))
 (qb (xc (z7 B (qx T (k + 0)) (ja (vh B (qae B T.z_tuple) (yb (qa B 1) zd)) (ja (vh B (qae B T.z_tuple) (yb (qa B 10) zd)) (ja (qe B (qa B 0) wa) (ja (qe B (qa B 0) wa) wb))))))))))
theorem xbn : FnScope ["self", "name", "wish"] ["self", "name"] (defScope (clsS 29 1)) := ⟨rfl, rfl, rfl, by decide +kernel, rfl, by decide +kernel, by decide +kernel⟩
theorem yb1 (T : Txt A mg base) (k : Nat) : zm A.P A.w A.K mg base (k + 1) "wish" 2 (A.c_Table, yn A) := by
 obtain ⟨f, fd, h1, h2, h3⟩ := T.f_Table_wish
 exact x5 (k := k + 0) (fx := [0, 1]) T.cl_Table h2 h1 h3 xbn rfl (by decide) fun _ _ _ _ _ _ B =>
 (va (waj B (bi_X B (jc B T.na_wishes (qa B 0))) (qd B 2)
 (qb (zg (yc (c_eq B) (jc B T.na_name (kg (qa B 2))) (qa B 1))
 (qb (xc (qa B 2)))
 kc)))
 (qb (bs_raise B T.xo_NoName T.k_NoName)))
theorem ybs (T : Txt A mg base) (k : Nat) : ∀ b ∈ k7 A, zm A.P A.w A.K mg base (k + 1) "wish" 2 b := (List.forall_mem_cons.mpr ⟨yb1 T (k + 0), (fun _ h => nomatch h)⟩)
theorem xbf : FnScope ["self", "name", "place"] ["self", "name"] (defScope (clsS 29 2)) := ⟨rfl, rfl, rfl, by decide +kernel, rfl, by decide +kernel, by decide +kernel⟩
theorem xbt (T : Txt A mg base) (k : Nat) : zm A.P A.w A.K mg base (k + 1) "place" 2 (A.c_Table, yl A) := by
 obtain ⟨f, fd, h1, h2, h3⟩ := T.f_Table_place
 exact x5 (k := k + 0) (fx := [0, 1]) T.cl_Table h2 h1 h3 xbf rfl (by decide) fun _ _ _ _ _ _ B =>
 (va (waj B (bi_X B (jc B T.na_places (qa B 0))) (qd B 2)
 (qb (zg (yc (c_eq B) (jc B T.na_name (kg (qa B 2))) (qa B 1))
 (qb (xc (qa B 2)))
 kc)))
 (qb (bs_raise B T.xo_NoName T.k_NoName)))
theorem zbg (T : Txt A mg base) (k : Nat) : ∀ b ∈ vy A, zm A.P A.w A.K mg base (k + 1) "place" 2 b := (List.forall_mem_cons.mpr ⟨xbt T (k + 0), (fun _ h => nomatch h)⟩)
theorem sc_l_found : FnScope ["_law_way", "_law_table_here", "_law_name", "_law_error", "_law_found_here", "e"] ["_law_way", "_law_table_here", "_law_name"] (defScope (topS 43)) := ⟨rfl, rfl, rfl, by decide +kernel, rfl, by decide +kernel, by decide +kernel⟩
theorem zq (T : Txt A mg base) (k : Nat) : xv A.P A.w A.K mg base (k + 2) "_law_found" 3 (zf A) := by
 obtain ⟨f, fd, h1, h2, h3⟩ := T.f_l_found
 exact jn (k := k + 1) (fx := [0, 1, 2]) h1 h2 h3 sc_l_found rfl (by decide) fun _ _ _ _ _ _ B =>
 (va (jd B 3 xn)
 (va (jd B 4 xn)
 (va (bs_try B T.xcs T.k_WordError 5 3 (fun W1 => (qb (zg (yc (c_eq (B.tr W1)) (qa (B.tr W1) 0) jb)
 (qb (jd (B.tr W1) 4 (be_meth (B.tr W1) (ybs T (k + 0)) (qa (B.tr W1) 1) (aa_d (qa (B.tr W1) 2) zc))))
 (qb (jd (B.tr W1) 4 (be_meth (B.tr W1) (zbg T (k + 0)) (qa (B.tr W1) 1) (aa_d (qa (B.tr W1) 2) zc))))))))
 (va (zg (yc (c_is B) (qa B 3) xn)
 (qb (xc (qa B 4)))
 kc)
 (qb (xc (vx (vh B (wat T.isi B T.z_isinstance) (yb (qa B 3) (yb (kat B T.k_NoName) zd))) (wad (be_not (vh B (wat T.isi B T.z_isinstance) (yb (qa B 3) (yb (vc (ja (kat B T.k_NoKind) (ja (kat B T.k_NoRow) (ja (kat B T.k_NoTable) (ja (kat B T.k_NoText) wb))))) zd))))))))))))
theorem sc_l_right : FnScope ["_law_table_here", "_law_told", "_law_k", "_law_wish_here", "_law_place", "_law_own", "_law_others", "_law_name", "_law_one"] ["_law_table_here", "_law_told"] (defScope (topS 44)) := ⟨rfl, rfl, rfl, by decide +kernel, rfl, by decide +kernel, by decide +kernel⟩
theorem qb1 (T : Txt A mg base) (k : Nat) : xv A.P A.w A.K mg base (k + 5) "_law_right" 2 (zae A) := by
 obtain ⟨f, fd, h1, h2, h3⟩ := T.f_l_right
 exact jn (k := k + 4) (fx := [0, 1]) h1 h2 h3 sc_l_right rfl (by decide) fun _ _ _ _ _ _ B =>
 (bss_labA labs_7
 (va (zg (bt_w (qax (yc (c_ne B) (jl B (xo T (k + 0)) (qa B 0)) (qa B 1)) (w3 (kx (zx (vh B (wat T.isi B T.z_isinstance) (yb (jl B (xo T (k + 0)) (qa B 0)) (yb (yad B T.z_tuple (by decide +kernel)) zd))))))))
 (qb (xc xl))
 kc)
 (va (zg (bt_w (qax (kx (zx (vh B (wat T.isi B T.z_isinstance) (yb (jc B T.na_wishes (qa B 0)) (yb (yad B T.z_tuple (by decide +kernel)) zd))))) (w3 (kx (zx (vh B (wat T.isi B T.z_isinstance) (yb (jc B T.na_places (qa B 0)) (yb (yad B T.z_tuple (by decide +kernel)) zd))))))))
 (qb (xc xl))
 kc)
 (va (zg (bt_w (qax (yc (c_ne B) (vc (ja (jc B T.na_bars (qa B 0)) (ja (jc B T.na_needs (qa B 0)) wb))) (zah B (qa B 1) (xj wa) vo)) (w3 (yc (c_ne B) (ya1 B [("_law_wish_here", 3)] (bi_X B (jc B T.na_wishes (qa B 0))) (qd (B.blk _) 3) km (jl (B.blk _) (yaz T (k + 1)) (kg (qa (B.blk _) 3)))) (vh B (b_list B T.z_list) (yb (qe B (qa B 1) wa) zd))))))
 (qb (xc xl))
 kc)
 (va (zg (yc (c_ne B) (ya1 B [("_law_place", 4)] (bi_X B (jc B T.na_places (qa B 0))) (qd (B.blk _) 4) km (jl (B.blk _) (war T (k + 2)) (kg (qa (B.blk _) 4)))) (vh B (b_list B T.z_list) (yb (qe B (qa B 1) wa) zd)))
 (qb (xc xl))
 kc)
 (va (waj B (yal B T.z_range (yb (vh B (jbe B T.z_len) (yb (qe B (qa B 1) wa) zd)) zd)) (qd B 2)
 (va (jd B 3 (qe B (jc B T.na_wishes (qa B 0)) (qa B 2)))
 (va (zg (yc (c_ne B) (vc (ja (jc B T.na_name (kg (qa B 3))) (ja (jc B T.na_letter (kg (qa B 3))) (ja (jc B T.na_may (kg (qa B 3))) (ja (jc B T.na_many (kg (qa B 3))) (ja (jc B T.na_must (kg (qa B 3))) wb)))))) (qh B (zah B (qe B (qe B (qa B 1) wa) (qa B 2)) (xj wa) (xj wa)) (zah B (qe B (qe B (qa B 1) wa) (qa B 2)) (xj wa) vo)))
 (qb (xc xl))
 kc)
 (va (zg (yc (c_ne B) (yo (c_is B) (jc B T.na_kind (kg (qa B 3))) xn) (yo (c_is B) (qe B (qe B (qe B (qa B 1) wa) (qa B 2)) wa) xn))
 (qb (xc xl))
 kc)
 (va (zg (bt_w (ja0 (yc (kad B) (jc B T.na_kind (kg (qa B 3))) xn) (jax (yc (c_ne B) (jl B (wbs T (k + 3)) (jc B T.na_kind (kg (qa B 3)))) (qe B (qe B (qe B (qa B 1) wa) (qa B 2)) wa)))))
 (qb (xc xl))
 kc)
 (va (zg (yc (c_neOb T.nc_cmp B) (qc B (zq T (k + 2)) (aa_d jb (aa_d (qa B 0) (aa_d (jc B T.na_name (kg (qa B 3))) zc)))) (qa B 3))
 (qb (xc xl))
 kc)
 (qb (zg (yc (kad B) (qc B (zq T (k + 2)) (aa_d jb (aa_d (qa B 0) (aa_d (jc B T.na_name (kg (qa B 3))) zc)))) xl)
 (qb (xc xl))
 kc))))))))
 (va (waj B (yal B T.z_range (yb (vh B (jbe B T.z_len) (yb (qe B (qa B 1) wa) zd)) zd)) (qd B 2)
 (va (jd B 4 (qe B (jc B T.na_places (qa B 0)) (qa B 2)))
 (va (zg (bt_w (qax (yc (c_ne B) (vc (ja (jc B T.na_name (kg (qa B 4))) (ja (jc B T.na_often (kg (qa B 4))) wb))) (vc (ja (qe B (qe B (qe B (qa B 1) wa) (qa B 2)) wa) (ja (qe B (qe B (qe B (qa B 1) wa) (qa B 2)) wa) wb)))) (w3 (yc (c_ne B) (jl B (wbs T (k + 3)) (jc B T.na_kind (kg (qa B 4)))) (qe B (qe B (qe B (qa B 1) wa) (qa B 2)) wa)))))
 (qb (xc xl))
 kc)
 (qb (zg (bt_w (qax (yc (c_neOb T.nc_cmp B) (qc B (zq T (k + 2)) (aa_d jb (aa_d (qa B 0) (aa_d (jc B T.na_name (kg (qa B 4))) zc)))) (qa B 4)) (w3 (yc (kad B) (qc B (zq T (k + 2)) (aa_d jb (aa_d (qa B 0) (aa_d (jc B T.na_name (kg (qa B 4))) zc)))) xl))))
 (qb (xc xl))
 kc)))))
 (va (bs_lc B 5 [("_law_one", 8)] (bi_X B (qe B (qa B 1) wa)) (qd (B.blk _) 8) km (qe (B.blk _) (qa (B.blk _) 8) wa))
 (va (bs_lc B 6 [("_law_one", 8)] (bi_X B (qe B (qa B 1) wa)) (qd (B.blk _) 8) km (qe (B.blk _) (qa (B.blk _) 8) wa))
 (va (waj B (bi_X B (qh B (qa B 5) (qa B 6))) (qd B 7)
 (va (zg (bt_w (ja0 (yc (xb8 B) (zah B (qa B 7) vo (xj (be_neg wa))) (qa B 5)) (jax (yc (kad B) (qc B (zq T (k + 2)) (aa_d jb (aa_d (qa B 0) (aa_d (zah B (qa B 7) vo (xj (be_neg wa))) zc)))) xl))))
 (qb (xc xl))
 kc)
 (qb (zg (bt_w (ja0 (yc (xb8 B) (zah B (qa B 7) vo (xj (be_neg wa))) (qa B 6)) (jax (yc (kad B) (qc B (zq T (k + 2)) (aa_d jb (aa_d (qa B 0) (aa_d (zah B (qa B 7) vo (xj (be_neg wa))) zc)))) xl))))
 (qb (xc xl))
 kc))))
 (qb (xc (vx (yo (c_is B) (qc B (zq T (k + 2)) (aa_d jb (aa_d (qa B 0) (aa_d jb zc)))) xl) (wad (yo (c_is B) (qc B (zq T (k + 2)) (aa_d jb (aa_d (qa B 0) (aa_d jb zc)))) xl)))))))))))))))
theorem sc_law : FnScope ["_law_script", "_law_k", "_law_draw", "_law_told", "_law_table_here", "_law_names_here", "_law_bare_here", "_law_one", "_law_other", "_law_made"] ["_law_script"] (defScope (topS 45)) := ⟨rfl, rfl, rfl, by decide +kernel, rfl, by decide +kernel, by decide +kernel⟩
theorem fn_law (T : Txt A mg base) (k : Nat) {f : Addr} {fd : FuncData} (h1 : Fun A.K "law" "law" (topS 45) f fd) : FnOk A.P A.w A.K mg base (L2.CX A.P A.w) (k + 9) f fd ["_law_script"] (spF A.K 1 (F_law A)) :=
 def_fn (k := k + 8) (fx := [0]) h1 sc_law rfl (by decide) fun _ _ _ _ _ _ B =>
 (va (waj B (yal B T.z_range (yb (vh B (b_max B T.z_max) (yb wa (yb (vh B (b_min B T.z_min) (yb wa (yb (vh B (jbe B T.z_len) (yb (qa B 0) zd)) zd))) zd))) zd)) (qd B 1)
 (va (vbd B 2 (qv (ja (qc B (wb7 T (k + 6)) (aa_d (qa B 0) (aa_d (qa B 1) zc))) (ja wa wb))))
 (va (jd B 3 (qc B (d_l_table T (k + 1)) (aa_m B 2 (aa_d wa (aa_d wa zc)))))
 (va (jd B 4 (qc B (xbg T (k + 0)) (aa_d (qa B 3) zc)))
 (va (zg (bt_w (qax (kx (zx (qc B (qb1 T (k + 3)) (aa_d (qa B 4) (aa_d (qa B 3) zc))))) (w3 (kx (zx (qc B (qb1 T (k + 3)) (aa_d (qa B 4) (aa_d (qa B 3) zc))))))))
 (qb (xc xl))
 kc)
 (qb (zg (yc (c_eq B) (qc B (kj T (k + 6)) (aa_m B 2 (aa_d wa zc))) wa)
 (va (jd B 5 (qc B (zb1 T (k + 4)) (aa_m B 2 (aa_d wa zc))))
 (va (jd B 6 (z7 B (qx T (k + 1)) (ja (vc (ja (zbu B (zbt T (k + 6)) (ja (qe B (qa B 5) wa) wb)) (ja (zbu B (jbt T (k + 6)) (ja (qe B (qa B 5) wa) (ja jb wb))) wb))) (ja (vc wb) (ja (vc wb) (ja (vc wb) wb))))))
 (va (jd B 7 (vc (ja jb (ja (qe B (qa B 5) wa) (ja xn (ja xn (ja xl (ja xl (ja xl wb)))))))))
 (va (jd B 8 (vc (ja jb (ja (qe B (qa B 5) wa) (ja jb (ja xn (ja xl (ja xl (ja xl wb)))))))))
 (va (zg (bt_w (qax (yc (c_ne B) (jl B (xo T (k + 4)) (qa B 6)) (vc (ja (vc (ja (qa B 7) (ja (qa B 8) wb))) (ja (vc wb) (ja (vc wb) (ja (vc wb) wb)))))) (w3 (yc (c_ne B) (jl B (xo T (k + 4)) (z7 B (qx T (k + 1)) (ja (vc wb) (ja (vc wb) (ja (vc wb) (ja (vc wb) wb)))))) (vc (ja (vc wb) (ja (vc wb) (ja (vc wb) (ja (vc wb) wb)))))))))
 (qb (xc xl))
 kc)
 (va (jd B 9 (z7 B (qx T (k + 1)) (ja (vc wb) (ja (vc (ja (z7 B (waz T (k + 6)) (ja (qe B (qa B 5) wa) (ja (be_bare B T.b_AnyWord T.k_AnyWord) (ja jb wb)))) wb)) (ja (vc wb) (ja (vc wb) wb))))))
 (qb (zg (yc (c_ne B) (jl B (xo T (k + 4)) (qa B 9)) (vc (ja (vc wb) (ja (vc (ja (vc (ja jb (ja (qe B (qa B 5) wa) (ja (vc (ja jb wb)) (ja jb wb))))) wb)) (ja (vc wb) (ja (vc wb) wb))))))
 (qb (xc xl))
 kc))))))))
 kc)))))))
 (qb (xc xl)))
end
section
variable {A : Ads} {Q : Rv → Prop} {QR : Rv → En → Prop} {E : Exn → En → Prop} {r : En} {ga : PL.P (List PL.Arg)} {fs : List (Str × D)} {d : D}
theorem yav : (A.c_AnyWord == A.c_Number) = false := zag (i := 7) (j := 8) A.nd rfl rfl (by decide)
theorem ka1 : (A.c_AnyWord == A.c_Among) = false := zag (i := 7) (j := 9) A.nd rfl rfl (by decide)
theorem wav : (A.c_AnyWord == A.c_Begins) = false := zag (i := 7) (j := 10) A.nd rfl rfl (by decide)
theorem xbb : (A.c_Number == A.c_Among) = false := zag (i := 8) (j := 9) A.nd rfl rfl (by decide)
theorem za1 : (A.c_Number == A.c_Begins) = false := zag (i := 8) (j := 10) A.nd rfl rfl (by decide)
theorem kbb : (A.c_Among == A.c_Begins) = false := zag (i := 9) (j := 10) A.nd rfl rfl (by decide)
theorem vaq {x_wishes : D} {x_places : D} {x_bars : D} {x_needs : D} : wpO (fldD (yac A) "bars" (qg A x_wishes x_places x_bars x_needs)) Q ↔ Q (.dat x_bars) := yj (by simp [yac]) rfl
theorem kaj : (yac A).contains A.c_Table = true := by simp [yac]
theorem vay {x_name : D} {x_letter : D} {x_kind : D} {x_may : D} {x_many : D} {x_must : D} : wpO (fldD (wg A) "kind" (xw A x_name x_letter x_kind x_may x_many x_must)) Q ↔ Q (.dat x_kind) := yj (by simp [wg]) rfl
theorem yas : (wg A).contains A.c_Wish = true := by simp [wg]
theorem waq {x_name : D} {x_kind : D} {x_often : D} : wpO (fldD (wg A) "kind" (zy A x_name x_kind x_often)) Q ↔ Q (.dat x_kind) := yj (by simp [wg]) rfl
theorem yaj : (wg A).contains A.c_Place = true := by simp [wg]
theorem wab {x_least : D} {x_most : D} : wpO (fldD (j7 A) "least" (yao A x_least x_most)) Q ↔ Q (.dat x_least) := yj (by simp [j7]) rfl
theorem v8 : (j7 A).contains A.c_Number = true := by simp [j7]
theorem qai {x_name : D} {x_letter : D} {x_kind : D} {x_may : D} {x_many : D} {x_must : D} : wpO (fldD (ki A) "letter" (xw A x_name x_letter x_kind x_may x_many x_must)) Q ↔ Q (.dat x_letter) := yj (by simp [ki]) rfl
theorem wac : (ki A).contains A.c_Wish = true := by simp [ki]
theorem jac {x_listed : D} : wpO (fldD (wu A) "listed" (ybo A x_listed)) Q ↔ Q (.dat x_listed) := yj (by simp [wu]) rfl
theorem w8 : (wu A).contains A.c_Among = true := by simp [wu]
theorem kay {x_name : D} {x_letter : D} {x_kind : D} {x_may : D} {x_many : D} {x_must : D} : wpO (fldD (q7 A) "many" (xw A x_name x_letter x_kind x_may x_many x_must)) Q ↔ Q (.dat x_many) := yj (by simp [q7]) rfl
theorem vas : (q7 A).contains A.c_Wish = true := by simp [q7]
theorem qbc {x_name : D} {x_letter : D} {x_kind : D} {x_may : D} {x_many : D} {x_must : D} : wpO (fldD (xaj A) "may" (xw A x_name x_letter x_kind x_may x_many x_must)) Q ↔ Q (.dat x_may) := yj (by simp [xaj]) rfl
theorem qa0 : (xaj A).contains A.c_Wish = true := by simp [xaj]
theorem xai {x_least : D} {x_most : D} : wpO (fldD (xal A) "most" (yao A x_least x_most)) Q ↔ Q (.dat x_most) := yj (by simp [xal]) rfl
theorem zad : (xal A).contains A.c_Number = true := by simp [xal]
theorem xay {x_name : D} {x_letter : D} {x_kind : D} {x_may : D} {x_many : D} {x_must : D} : wpO (fldD (y6 A) "must" (xw A x_name x_letter x_kind x_may x_many x_must)) Q ↔ Q (.dat x_must) := yj (by simp [y6]) rfl
theorem kas : (y6 A).contains A.c_Wish = true := by simp [y6]
theorem zay {x_name : D} {x_letter : D} {x_kind : D} {x_may : D} {x_many : D} {x_must : D} : wpO (fldD (ve A) "name" (xw A x_name x_letter x_kind x_may x_many x_must)) Q ↔ Q (.dat x_name) := yj (by simp [ve]) rfl
theorem xas : (ve A).contains A.c_Wish = true := by simp [ve]
theorem yaq {x_name : D} {x_kind : D} {x_often : D} : wpO (fldD (ve A) "name" (zy A x_name x_kind x_often)) Q ↔ Q (.dat x_name) := yj (by simp [ve]) rfl
theorem vaj : (ve A).contains A.c_Place = true := by simp [ve]
theorem jai {x_wishes : D} {x_places : D} {x_bars : D} {x_needs : D} : wpO (fldD (jx A) "needs" (qg A x_wishes x_places x_bars x_needs)) Q ↔ Q (.dat x_needs) := yj (by simp [jx]) rfl
theorem qad : (jx A).contains A.c_Table = true := by simp [jx]
theorem zai {x_name : D} {x_kind : D} {x_often : D} : wpO (fldD (vp A) "often" (zy A x_name x_kind x_often)) Q ↔ Q (.dat x_often) := yj (by simp [vp]) rfl
theorem jad : (vp A).contains A.c_Place = true := by simp [vp]
theorem yab {x_wishes : D} {x_places : D} {x_bars : D} {x_needs : D} : wpO (fldD (qk A) "places" (qg A x_wishes x_places x_bars x_needs)) Q ↔ Q (.dat x_places) := yj (by simp [qk]) rfl
theorem k8 : (qk A).contains A.c_Table = true := by simp [qk]
theorem qac {x_start : D} : wpO (fldD (x6 A) "start" (va4 A x_start)) Q ↔ Q (.dat x_start) := yj (by simp [x6]) rfl
theorem y8 : (x6 A).contains A.c_Begins = true := by simp [x6]
theorem vab {x_wishes : D} {x_places : D} {x_bars : D} {x_needs : D} : wpO (fldD (wj A) "wishes" (qg A x_wishes x_places x_bars x_needs)) Q ↔ Q (.dat x_wishes) := yj (by simp [wj]) rfl
theorem x8 : (wj A).contains A.c_Table = true := by simp [wj]
theorem jb8 : A.cs.contains A.c_AnyWord = true := by simp [Ads.cs]
theorem con_Number : A.cs.contains A.c_Number = true := by simp [Ads.cs]
theorem con_Among : A.cs.contains A.c_Among = true := by simp [Ads.cs]
theorem con_Begins : A.cs.contains A.c_Begins = true := by simp [Ads.cs]
theorem con_Wish : A.cs.contains A.c_Wish = true := by simp [Ads.cs]
theorem con_Place : A.cs.contains A.c_Place = true := by simp [Ads.cs]
theorem kq : isiD A.K A.cs [.obj A.c_AnyWord fs, .s (.ref A.c_Kind)] = some (rvB true) := qaw jb8 A.kit_AnyWord_Kind
theorem zu : isiD A.K A.cs [.obj A.c_Number fs, .s (.ref A.c_Kind)] = some (rvB true) := qaw con_Number A.kit_Number_Kind
theorem xy : isiD A.K A.cs [.obj A.c_Among fs, .s (.ref A.c_Kind)] = some (rvB true) := qaw con_Among A.kit_Among_Kind
theorem xu : isiD A.K A.cs [.obj A.c_Begins fs, .s (.ref A.c_Kind)] = some (rvB true) := qaw con_Begins A.kit_Begins_Kind
theorem wz : isiD A.K A.cs [.s .non, .s (.ref A.c_Kind)] = some (rvB false) := isi_other rfl rfl A.kit_NoneType_Kind
theorem qaq : isiD A.K A.cs [.obj A.c_Wish fs, .s (.ref A.c_Wish)] = some (rvB true) := qaw con_Wish A.kit_Wish_Wish
theorem zab : isiD A.K A.cs [.obj A.c_Place fs, .s (.ref A.c_Place)] = some (rvB true) := qaw con_Place A.kit_Place_Place
theorem j0 {t : Bool} : isiD A.K A.cs [.exc A.c_NoName t fs, .s (.ref A.c_NoName)] = some (rvB true) := isi_exc A.kit_NoName_NoName
theorem jr {i j : Nat} {QF : Fl → En → Prop} {fz : Option (List (Str × D))} : tryQ A.K A.c_WordError A.xs i j QF E ⟨A.c_NoName, fz⟩ r ↔ (i < r.length ∧ j < r.length) ∧ QF .next (((r.set i (.dat (.exc A.c_NoName fz.isSome (fz.getD [])))).set j (.dat (.exc A.c_NoName fz.isSome (fz.getD [])))).set i .no) := tryQ_hit A.exm_NoName_WordError (by simp [Ads.xs])
theorem ye {t : Bool} : isiD A.K A.cs [.exc A.c_NoName t fs, .tup [.s (.ref A.c_NoKind), .s (.ref A.c_NoRow), .s (.ref A.c_NoTable), .s (.ref A.c_NoText)]] = some (rvB false) := isi_excL rfl (by simp [PySem.W.kitAny, A.kit_NoName_NoKind, A.kit_NoName_NoRow, A.kit_NoName_NoTable, A.kit_NoName_NoText])
theorem zr {x_wishes : D} {x_places : D} {x_bars : D} {x_needs : D} : qap "place" 2 (vy A) ga QR E (qg A x_wishes x_places x_bars x_needs) r ↔ wp ga (fun as r2 => wp (wq 2 (yl A) (.inl (qg A x_wishes x_places x_bars x_needs) :: as)) QR E r2) E r := jo rfl qt
theorem jab  : qap "told" 1 (ky A) ga QR E (wba A ) r ↔ wp ga (fun as r2 => wp (wq 1 (yi A) (.inl (wba A ) :: as)) QR E r2) E r := jo rfl qt
theorem vah {x_least : D} {x_most : D} : qap "told" 1 (ky A) ga QR E (yao A x_least x_most) r ↔ wp ga (fun as r2 => wp (wq 1 (qm A) (.inl (yao A x_least x_most) :: as)) QR E r2) E r := jo rfl ((j4 yav).trans qt)
theorem wao {x_listed : D} : qap "told" 1 (ky A) ga QR E (ybo A x_listed) r ↔ wp ga (fun as r2 => wp (wq 1 (qo A) (.inl (ybo A x_listed) :: as)) QR E r2) E r := jo rfl ((j4 ka1).trans ((j4 xbb).trans qt))
theorem yah {x_start : D} : qap "told" 1 (ky A) ga QR E (va4 A x_start) r ↔ wp ga (fun as r2 => wp (wq 1 (jm A) (.inl (va4 A x_start) :: as)) QR E r2) E r := jo rfl ((j4 wav).trans ((j4 za1).trans ((j4 kbb).trans qt)))
theorem ju {x_name : D} {x_kind : D} {x_often : D} : qap "told" 1 (jt A) ga QR E (zy A x_name x_kind x_often) r ↔ wp ga (fun as r2 => wp (wq 1 (zk A) (.inl (zy A x_name x_kind x_often) :: as)) QR E r2) E r := jo rfl qt
theorem qu {x_wishes : D} {x_places : D} {x_bars : D} {x_needs : D} : qap "told" 1 (yh A) ga QR E (qg A x_wishes x_places x_bars x_needs) r ↔ wp ga (fun as r2 => wp (wq 1 (jh A) (.inl (qg A x_wishes x_places x_bars x_needs) :: as)) QR E r2) E r := jo rfl qt
theorem vz {x_name : D} {x_letter : D} {x_kind : D} {x_may : D} {x_many : D} {x_must : D} : qap "told" 1 (wx A) ga QR E (xw A x_name x_letter x_kind x_may x_many x_must) r ↔ wp ga (fun as r2 => wp (wq 1 (wm A) (.inl (xw A x_name x_letter x_kind x_may x_many x_must) :: as)) QR E r2) E r := jo rfl qt
theorem yt {x_wishes : D} {x_places : D} {x_bars : D} {x_needs : D} : qap "wish" 2 (k7 A) ga QR E (qg A x_wishes x_places x_bars x_needs) r ↔ wp ga (fun as r2 => wp (wq 2 (yn A) (.inl (qg A x_wishes x_places x_bars x_needs) :: as)) QR E r2) E r := jo rfl qt
end
theorem kar : (("bars" : Str) = "needs") = False := eq_false (by decide +kernel)
theorem kaz : (("kind" : Str) = "many") = False := eq_false (by decide +kernel)
theorem kbc : (("kind" : Str) = "may") = False := eq_false (by decide +kernel)
theorem xaz : (("kind" : Str) = "must") = False := eq_false (by decide +kernel)
theorem xar : (("kind" : Str) = "often") = False := eq_false (by decide +kernel)
theorem zar : (("least" : Str) = "most") = False := eq_false (by decide +kernel)
theorem jaj : (("letter" : Str) = "kind") = False := eq_false (by decide +kernel)
theorem qaj : (("letter" : Str) = "many") = False := eq_false (by decide +kernel)
theorem jar : (("letter" : Str) = "may") = False := eq_false (by decide +kernel)
theorem wai : (("letter" : Str) = "must") = False := eq_false (by decide +kernel)
theorem zaz : (("many" : Str) = "must") = False := eq_false (by decide +kernel)
theorem xbc : (("may" : Str) = "many") = False := eq_false (by decide +kernel)
theorem zbc : (("may" : Str) = "must") = False := eq_false (by decide +kernel)
theorem jaz : (("name" : Str) = "kind") = False := eq_false (by decide +kernel)
theorem yai : (("name" : Str) = "letter") = False := eq_false (by decide +kernel)
theorem qaz : (("name" : Str) = "many") = False := eq_false (by decide +kernel)
theorem jbc : (("name" : Str) = "may") = False := eq_false (by decide +kernel)
theorem yay : (("name" : Str) = "must") = False := eq_false (by decide +kernel)
theorem qar : (("name" : Str) = "often") = False := eq_false (by decide +kernel)
theorem vai : (("places" : Str) = "bars") = False := eq_false (by decide +kernel)
theorem xac : (("places" : Str) = "needs") = False := eq_false (by decide +kernel)
theorem kai : (("wishes" : Str) = "bars") = False := eq_false (by decide +kernel)
theorem zac : (("wishes" : Str) = "needs") = False := eq_false (by decide +kernel)
theorem z8 : (("wishes" : Str) = "places") = False := eq_false (by decide +kernel)
theorem okl_5 : okS "any" := by decide +kernel
theorem okl_6 : okS "number" := by decide +kernel
theorem okl_7 : okS "among" := by decide +kernel
theorem okl_8 : okS "begins" := by decide +kernel
theorem nel_0_1 : (("any" : Str) == "number") = false := by decide +kernel
theorem nel_0_2 : (("any" : Str) == "among") = false := by decide +kernel
theorem nel_1_0 : (("number" : Str) == "any") = false := by decide +kernel
theorem nel_1_2 : (("number" : Str) == "among") = false := by decide +kernel
theorem nel_2_0 : (("among" : Str) == "any") = false := by decide +kernel
theorem nel_2_1 : (("among" : Str) == "number") = false := by decide +kernel
end LW
namespace LW
open PySem PySem.Spec PyProof.Rows L2 PL
abbrev LawTrue : Prop := ∀ {A : Ads} {ns : List Int} (hn : ns.length ≤ 63), wp (F_law A) (fun r _ => r = rvB true) EF [.dat (.ro (ns.map fun i => D.s (.int i)))]
theorem all_mk (law_true : LawTrue) {l : W.OpenLaw} {w : World} {K : W.Frag} {h : Heap} {mg : Str → Option Value} {fa cWordError cNoKind cNoTable cNoText cNoName cNoRow cKind cAnyWord cNumber cAmong cBegins cWish cPlace cTable f0 f1 f2 f3 f4 f5 f6 f7 f8 cT pT f9 f10 f11 f12 f13 f14 f15 f16 f17 f18 f19 f20 f21 f22 f23 f24 f25 f26 f27 f28 f29 f30 f31 f32 f33 f34 f35 f36 tOFTENS : Addr} (X : K.In h) (G : h.Ns mainGlobals mg) (hfa : mg "law" = some (.ref fa)) {uLETTERS uMOST_OTHERS uMOST_WISHES : Value}
  (gkWordError : W.nsIn K mainGlobals "WordError" = some (some (.ref cWordError)))
  (gkNoKind : W.nsIn K mainGlobals "NoKind" = some (some (.ref cNoKind)))
  (gkNoTable : W.nsIn K mainGlobals "NoTable" = some (some (.ref cNoTable)))
  (gkNoText : W.nsIn K mainGlobals "NoText" = some (some (.ref cNoText)))
  (gkNoName : W.nsIn K mainGlobals "NoName" = some (some (.ref cNoName)))
  (gkNoRow : W.nsIn K mainGlobals "NoRow" = some (some (.ref cNoRow)))
  (gkKind : W.nsIn K mainGlobals "Kind" = some (some (.ref cKind)))
  (gkAnyWord : W.nsIn K mainGlobals "AnyWord" = some (some (.ref cAnyWord)))
  (gkNumber : W.nsIn K mainGlobals "Number" = some (some (.ref cNumber)))
  (gkAmong : W.nsIn K mainGlobals "Among" = some (some (.ref cAmong)))
  (gkBegins : W.nsIn K mainGlobals "Begins" = some (some (.ref cBegins)))
  (gkWish : W.nsIn K mainGlobals "Wish" = some (some (.ref cWish)))
  (gkPlace : W.nsIn K mainGlobals "Place" = some (some (.ref cPlace)))
  (gkTable : W.nsIn K mainGlobals "Table" = some (some (.ref cTable)))
  (nd : [cWordError, cNoKind, cNoTable, cNoText, cNoName, cNoRow, cKind, cAnyWord, cNumber, cAmong, cBegins, cWish, cPlace, cTable].Nodup)
  (kit_AnyWord_Kind : W.kitOne K (.ref cAnyWord) (.ref cKind) = some true)
  (kit_Number_Kind : W.kitOne K (.ref cNumber) (.ref cKind) = some true)
  (kit_Among_Kind : W.kitOne K (.ref cAmong) (.ref cKind) = some true)
  (kit_Begins_Kind : W.kitOne K (.ref cBegins) (.ref cKind) = some true)
  (kit_Wish_Kind : W.kitOne K (.ref cWish) (.ref cKind) = some false)
  (kit_Place_Kind : W.kitOne K (.ref cPlace) (.ref cKind) = some false)
  (kit_Table_Kind : W.kitOne K (.ref cTable) (.ref cKind) = some false)
  (kit_NoneType_Kind : W.kitOne K (.type "NoneType") (.ref cKind) = some false)
  (kit_bool_Kind : W.kitOne K (.type "bool") (.ref cKind) = some false)
  (kit_int_Kind : W.kitOne K (.type "int") (.ref cKind) = some false)
  (kit_str_Kind : W.kitOne K (.type "str") (.ref cKind) = some false)
  (kit_tuple_Kind : W.kitOne K (.type "tuple") (.ref cKind) = some false)
  (kit_list_Kind : W.kitOne K (.type "list") (.ref cKind) = some false)
  (kit_AnyWord_Wish : W.kitOne K (.ref cAnyWord) (.ref cWish) = some false)
  (kit_Number_Wish : W.kitOne K (.ref cNumber) (.ref cWish) = some false)
  (kit_Among_Wish : W.kitOne K (.ref cAmong) (.ref cWish) = some false)
  (kit_Begins_Wish : W.kitOne K (.ref cBegins) (.ref cWish) = some false)
  (kit_Wish_Wish : W.kitOne K (.ref cWish) (.ref cWish) = some true)
  (kit_Place_Wish : W.kitOne K (.ref cPlace) (.ref cWish) = some false)
  (kit_Table_Wish : W.kitOne K (.ref cTable) (.ref cWish) = some false)
  (kit_NoneType_Wish : W.kitOne K (.type "NoneType") (.ref cWish) = some false)
  (kit_bool_Wish : W.kitOne K (.type "bool") (.ref cWish) = some false)
  (kit_int_Wish : W.kitOne K (.type "int") (.ref cWish) = some false)
  (kit_str_Wish : W.kitOne K (.type "str") (.ref cWish) = some false)
  (kit_tuple_Wish : W.kitOne K (.type "tuple") (.ref cWish) = some false)
  (kit_list_Wish : W.kitOne K (.type "list") (.ref cWish) = some false)
  (kit_AnyWord_Place : W.kitOne K (.ref cAnyWord) (.ref cPlace) = some false)
  (kit_Number_Place : W.kitOne K (.ref cNumber) (.ref cPlace) = some false)
  (kit_Among_Place : W.kitOne K (.ref cAmong) (.ref cPlace) = some false)
  (kit_Begins_Place : W.kitOne K (.ref cBegins) (.ref cPlace) = some false)
  (kit_Wish_Place : W.kitOne K (.ref cWish) (.ref cPlace) = some false)
  (kit_Place_Place : W.kitOne K (.ref cPlace) (.ref cPlace) = some true)
  (kit_Table_Place : W.kitOne K (.ref cTable) (.ref cPlace) = some false)
  (kit_NoneType_Place : W.kitOne K (.type "NoneType") (.ref cPlace) = some false)
  (kit_bool_Place : W.kitOne K (.type "bool") (.ref cPlace) = some false)
  (kit_int_Place : W.kitOne K (.type "int") (.ref cPlace) = some false)
  (kit_str_Place : W.kitOne K (.type "str") (.ref cPlace) = some false)
  (kit_tuple_Place : W.kitOne K (.type "tuple") (.ref cPlace) = some false)
  (kit_list_Place : W.kitOne K (.type "list") (.ref cPlace) = some false)
  (kit_AnyWord_bool : W.kitOne K (.ref cAnyWord) (.type "bool") = some false)
  (kit_AnyWord_str : W.kitOne K (.ref cAnyWord) (.type "str") = some false)
  (kit_AnyWord_tuple : W.kitOne K (.ref cAnyWord) (.type "tuple") = some false)
  (kit_Number_bool : W.kitOne K (.ref cNumber) (.type "bool") = some false)
  (kit_Number_str : W.kitOne K (.ref cNumber) (.type "str") = some false)
  (kit_Number_tuple : W.kitOne K (.ref cNumber) (.type "tuple") = some false)
  (kit_Among_bool : W.kitOne K (.ref cAmong) (.type "bool") = some false)
  (kit_Among_str : W.kitOne K (.ref cAmong) (.type "str") = some false)
  (kit_Among_tuple : W.kitOne K (.ref cAmong) (.type "tuple") = some false)
  (kit_Begins_bool : W.kitOne K (.ref cBegins) (.type "bool") = some false)
  (kit_Begins_str : W.kitOne K (.ref cBegins) (.type "str") = some false)
  (kit_Begins_tuple : W.kitOne K (.ref cBegins) (.type "tuple") = some false)
  (kit_Wish_bool : W.kitOne K (.ref cWish) (.type "bool") = some false)
  (kit_Wish_str : W.kitOne K (.ref cWish) (.type "str") = some false)
  (kit_Wish_tuple : W.kitOne K (.ref cWish) (.type "tuple") = some false)
  (kit_Place_bool : W.kitOne K (.ref cPlace) (.type "bool") = some false)
  (kit_Place_str : W.kitOne K (.ref cPlace) (.type "str") = some false)
  (kit_Place_tuple : W.kitOne K (.ref cPlace) (.type "tuple") = some false)
  (kit_Table_bool : W.kitOne K (.ref cTable) (.type "bool") = some false)
  (kit_Table_str : W.kitOne K (.ref cTable) (.type "str") = some false)
  (kit_Table_tuple : W.kitOne K (.ref cTable) (.type "tuple") = some false)
  (kit_NoName_NoKind : W.kitOne K (.ref cNoName) (.ref cNoKind) = some false)
  (kit_NoName_NoTable : W.kitOne K (.ref cNoName) (.ref cNoTable) = some false)
  (kit_NoName_NoText : W.kitOne K (.ref cNoName) (.ref cNoText) = some false)
  (kit_NoName_NoName : W.kitOne K (.ref cNoName) (.ref cNoName) = some true)
  (kit_NoName_NoRow : W.kitOne K (.ref cNoName) (.ref cNoRow) = some false)
  (exm_NoName_WordError : W.exmOne K (.ref cNoName) (.ref cWordError) = some true)
  (xoNoName : XOwn K cNoName)
  (xcNoName : ExcC K cNoName)
  (clAnyWord : Cls K cAnyWord)
  (icAnyWord : (W.findIn K (.ref cAnyWord) "__class__" = some (some (.builtin "object.__class__")) ∧ W.mroIn K cAnyWord (.type "object") = some true))
  (baAnyWord : Bare K cAnyWord)
  (clNumber : Cls K cNumber)
  (icNumber : (W.findIn K (.ref cNumber) "__class__" = some (some (.builtin "object.__class__")) ∧ W.mroIn K cNumber (.type "object") = some true))
  (naNumber_least : NoAttr K cNumber "least")
  (naNumber_most : NoAttr K cNumber "most")
  (clAmong : Cls K cAmong)
  (icAmong : (W.findIn K (.ref cAmong) "__class__" = some (some (.builtin "object.__class__")) ∧ W.mroIn K cAmong (.type "object") = some true))
  (naAmong_listed : NoAttr K cAmong "listed")
  (clBegins : Cls K cBegins)
  (icBegins : (W.findIn K (.ref cBegins) "__class__" = some (some (.builtin "object.__class__")) ∧ W.mroIn K cBegins (.type "object") = some true))
  (naBegins_start : NoAttr K cBegins "start")
  (clWish : Cls K cWish)
  (icWish : (W.findIn K (.ref cWish) "__class__" = some (some (.builtin "object.__class__")) ∧ W.mroIn K cWish (.type "object") = some true))
  (naWish_name : NoAttr K cWish "name")
  (naWish_letter : NoAttr K cWish "letter")
  (naWish_kind : NoAttr K cWish "kind")
  (naWish_may : NoAttr K cWish "may")
  (naWish_many : NoAttr K cWish "many")
  (naWish_must : NoAttr K cWish "must")
  (clPlace : Cls K cPlace)
  (icPlace : (W.findIn K (.ref cPlace) "__class__" = some (some (.builtin "object.__class__")) ∧ W.mroIn K cPlace (.type "object") = some true))
  (naPlace_name : NoAttr K cPlace "name")
  (naPlace_kind : NoAttr K cPlace "kind")
  (naPlace_often : NoAttr K cPlace "often")
  (clTable : Cls K cTable)
  (icTable : (W.findIn K (.ref cTable) "__class__" = some (some (.builtin "object.__class__")) ∧ W.mroIn K cTable (.type "object") = some true))
  (naTable_wishes : NoAttr K cTable "wishes")
  (naTable_places : NoAttr K cTable "places")
  (naTable_bars : NoAttr K cTable "bars")
  (naTable_needs : NoAttr K cTable "needs")
  (ncWish : PL.NoCmp K cWish)
  (ncPlace : PL.NoCmp K cPlace)
  (hn : (W.specialIn K (.builtin "object.__class__") "__get__" = some (some (.builtin "getset_descriptor.__get__")) ∧ W.takesIn K (.builtin "object.__class__") = some true))
  (a0 : MethAtF K cWish "__init__" "Wish.__init__" (clsS 22 0) f0 [.non, .non, .bl false, .bl false, .bl false])
  (mk0 : (W.makesIn K cWish = true ∧ W.keepIn K (.ref cWish) = true))
  (a1 : MethAt K cPlace "__init__" "Place.__init__" (clsS 23 0) f1)
  (mk1 : (W.makesIn K cPlace = true ∧ W.keepIn K (.ref cPlace) = true))
  (a2 : DefAt K "are_letters" (topS 9) f2)
  (a3 : DefAt K "is_named" (topS 24) f3)
  (a4 : DefAt K "is_wish" (topS 25) f4)
  (a5 : DefAt K "is_place" (topS 26) f5)
  (a6 : DefAt K "is_pair" (topS 27) f6)
  (a7 : DefAt K "need_part" (topS 28) f7)
  (a8 : MethAtC K cTable "__init__" "Table.__init__" (clsS 29 0) f8 cT)
  (mk8 : (W.makesIn K cTable = true ∧ W.keepIn K (.ref cTable) = true))
  (a9 : MethAt K cAnyWord "told" "AnyWord.told" (clsS 13 1) f9)
  (a10 : MethAt K cNumber "told" "Number.told" (clsS 14 2) f10)
  (a11 : MethAt K cAmong "told" "Among.told" (clsS 15 2) f11)
  (a12 : MethAt K cBegins "told" "Begins.told" (clsS 16 2) f12)
  (a13 : DefAt K "told_kind" (topS 21) f13)
  (a14 : MethAt K cWish "told" "Wish.told" (clsS 22 1) f14)
  (a15 : MethAt K cPlace "told" "Place.told" (clsS 23 1) f15)
  (a16 : MethAt K cTable "told" "Table.told" (clsS 29 3) f16)
  (a17 : DefAt K "_law_mixed" (topS 31) f17)
  (a18 : DefAt K "_law_cell_at" (topS 32) f18)
  (a19 : DefAt K "_law_next" (topS 33) f19)
  (a20 : DefAt K "_law_pick" (topS 34) f20)
  (a21 : DefAt K "_law_names" (topS 35) f21)
  (a22 : DefAt K "_law_bare" (topS 36) f22)
  (a23 : DefAt K "_law_kind" (topS 37) f23)
  (a24 : DefAt K "_law_wish" (topS 38) f24)
  (a25 : DefAt K "_law_pairs" (topS 39) f25)
  (a26 : DefAt K "_law_table" (topS 40) f26)
  (a27 : MethAt K cNumber "__init__" "Number.__init__" (clsS 14 0) f27)
  (mk27 : (W.makesIn K cNumber = true ∧ W.keepIn K (.ref cNumber) = true))
  (a28 : MethAt K cAmong "__init__" "Among.__init__" (clsS 15 0) f28)
  (mk28 : (W.makesIn K cAmong = true ∧ W.keepIn K (.ref cAmong) = true))
  (a29 : MethAt K cBegins "__init__" "Begins.__init__" (clsS 16 0) f29)
  (mk29 : (W.makesIn K cBegins = true ∧ W.keepIn K (.ref cBegins) = true))
  (a30 : DefAt K "_law_kind_made" (topS 41) f30)
  (a31 : DefAt K "_law_table_made" (topS 42) f31)
  (a32 : MethAt K cTable "wish" "Table.wish" (clsS 29 1) f32)
  (a33 : MethAt K cTable "place" "Table.place" (clsS 29 2) f33)
  (a34 : DefAt K "_law_found" (topS 43) f34)
  (a35 : DefAt K "_law_right" (topS 44) f35)
  (a36 : DefAt K "law" (topS 45) f36)
  (hT : h.get? pT = some { cls := .none, data := .fields #[] })
  (hcd : W.codeHdIn K cT pT = true)
  (nT : K.lookup pT = none)
  (zall : W.nsIn K mainGlobals "all" = some none)
  (zbool : W.nsIn K mainGlobals "bool" = some none)
  (zenumerate : W.nsIn K mainGlobals "enumerate" = some none)
  (zint : W.nsIn K mainGlobals "int" = some none)
  (zisinstance : W.nsIn K mainGlobals "isinstance" = some none)
  (zlen : W.nsIn K mainGlobals "len" = some none)
  (zlist : W.nsIn K mainGlobals "list" = some none)
  (zmax : W.nsIn K mainGlobals "max" = some none)
  (zmin : W.nsIn K mainGlobals "min" = some none)
  (zrange : W.nsIn K mainGlobals "range" = some none)
  (zset : W.nsIn K mainGlobals "set" = some none)
  (zsorted : W.nsIn K mainGlobals "sorted" = some none)
  (zstr : W.nsIn K mainGlobals "str" = some none)
  (ztuple : W.nsIn K mainGlobals "tuple" = some none)
  (qOFTENS : W.nsIn K mainGlobals "OFTENS" = some (some (.ref tOFTENS)))
  (vOFTENS : ∃ (o : Obj) (its : Array Value) (n : Nat), K.lookup tOFTENS = some o ∧ o.cls = .type "tuple" ∧ o.dict = none ∧ o.data = .seq its n ∧ its.size ≤ sizeLine ∧ L2.Vals (c_OFTENS.map L2.V.str) its.toList)
  (qLETTERS : W.nsIn K mainGlobals "LETTERS" = some (some uLETTERS))
  (rLETTERS : L2.RelV c_LETTERS uLETTERS)
  (qMOST_OTHERS : W.nsIn K mainGlobals "MOST_OTHERS" = some (some uMOST_OTHERS))
  (rMOST_OTHERS : L2.RelV c_MOST_OTHERS uMOST_OTHERS)
  (qMOST_WISHES : W.nsIn K mainGlobals "MOST_WISHES" = some (some uMOST_WISHES))
  (rMOST_WISHES : L2.RelV c_MOST_WISHES uMOST_WISHES) :
  LamX.LawAtS l w K (L2.CX l.prog w) 9 63 "_law_script" mg fa h := by
 have e := hfa.symm.trans (W.mg_of X G a36.at_)
 cases e
 have hPT : TabP K pT := a8.tabP gkTable hcd
 have T : ∀ base : Heap, LamX.TabB base mg cT pT → Txt ⟨l.prog, w, K, cWordError, cNoKind, cNoTable, cNoText, cNoName, cNoRow, cKind, cAnyWord, cNumber, cAmong, cBegins, cWish, cPlace, cTable, cT, pT, nd, kit_AnyWord_Kind, kit_Number_Kind, kit_Among_Kind, kit_Begins_Kind, kit_Wish_Kind, kit_Place_Kind, kit_Table_Kind, kit_NoneType_Kind, kit_bool_Kind, kit_int_Kind, kit_str_Kind, kit_tuple_Kind, kit_list_Kind, kit_AnyWord_Wish, kit_Number_Wish, kit_Among_Wish, kit_Begins_Wish, kit_Wish_Wish, kit_Place_Wish, kit_Table_Wish, kit_NoneType_Wish, kit_bool_Wish, kit_int_Wish, kit_str_Wish, kit_tuple_Wish, kit_list_Wish, kit_AnyWord_Place, kit_Number_Place, kit_Among_Place, kit_Begins_Place, kit_Wish_Place, kit_Place_Place, kit_Table_Place, kit_NoneType_Place, kit_bool_Place, kit_int_Place, kit_str_Place, kit_tuple_Place, kit_list_Place, kit_AnyWord_bool, kit_AnyWord_str, kit_AnyWord_tuple, kit_Number_bool, kit_Number_str, kit_Number_tuple, kit_Among_bool, kit_Among_str, kit_Among_tuple, kit_Begins_bool, kit_Begins_str, kit_Begins_tuple, kit_Wish_bool, kit_Wish_str, kit_Wish_tuple, kit_Place_bool, kit_Place_str, kit_Place_tuple, kit_Table_bool, kit_Table_str, kit_Table_tuple, kit_NoName_NoKind, kit_NoName_NoTable, kit_NoName_NoText, kit_NoName_NoName, kit_NoName_NoRow, exm_NoName_WordError⟩ mg base := fun base hTB => {
  f_Wish_init := by
   obtain ⟨fd, z⟩ := a0.fn
   exact ⟨_, fd, z, a0.mkOk mk0.1 mk0.2, z.binds1 (ps := ["self", "name", "letter", "kind", "may", "many", "must"]) 7 5 (by decide) rfl fun _ _ _ _ _ _ _ us its hl hi => match us, hl, its, hi with | [_, _, _, _, _, _, _], _, [_, _, _, _, _], _ => ⟨_, rfl, rfl⟩, z.binds1 (ps := ["self", "name", "letter", "kind", "may", "many", "must"]) 2 0 (by decide) rfl fun _ _ _ _ _ _ _ us its hl hi => match us, hl, its, hi with | [_, _], _, [_, _, _, _, _], _ => ⟨_, rfl, rfl⟩, z.binds1 (ps := ["self", "name", "letter", "kind", "may", "many", "must"]) 3 1 (by decide) rfl fun _ _ _ _ _ _ _ us its hl hi => match us, hl, its, hi with | [_, _, _], _, [_, _, _, _, _], _ => ⟨_, rfl, rfl⟩⟩
  f_Place_init := ⟨_, _, a1.fn, a1.mkOk mk1.1 mk1.2, a1.fn.binds (ps := ["self", "name", "kind", "often"]) fun _ _ _ _ _ _ us hl => match us, hl with | [_, _, _, _], _ => rfl⟩
  f_are_letters := ⟨_, _, a2.fn, W.mg_of X G a2.at_, a2.fn.binds (ps := ["thing", "least", "most"]) fun _ _ _ _ _ _ us hl => match us, hl with | [_, _, _], _ => rfl⟩
  f_is_named := ⟨_, _, a3.fn, W.mg_of X G a3.at_, a3.fn.binds (ps := ["thing", "names"]) fun _ _ _ _ _ _ us hl => match us, hl with | [_, _], _ => rfl⟩
  f_is_wish := ⟨_, _, a4.fn, W.mg_of X G a4.at_, a4.fn.binds (ps := ["thing", "ahead"]) fun _ _ _ _ _ _ us hl => match us, hl with | [_, _], _ => rfl⟩
  f_is_place := ⟨_, _, a5.fn, W.mg_of X G a5.at_, a5.fn.binds (ps := ["thing", "names"]) fun _ _ _ _ _ _ us hl => match us, hl with | [_, _], _ => rfl⟩
  f_is_pair := ⟨_, _, a6.fn, W.mg_of X G a6.at_, a6.fn.binds (ps := ["thing", "names"]) fun _ _ _ _ _ _ us hl => match us, hl with | [_, _], _ => rfl⟩
  f_need_part := ⟨_, _, a7.fn, W.mg_of X G a7.at_, a7.fn.binds (ps := ["part", "things", "most", "is_right"]) fun _ _ _ _ _ _ us hl => match us, hl with | [_, _, _, _], _ => rfl⟩
  f_Table_init := by
   obtain ⟨fd, z1, z2⟩ := a8.fnC
   exact ⟨_, fd, z2, z1, a8.mkOk mk8.1 mk8.2, z2.binds (ps := ["self", "wishes", "places", "bars", "needs"]) fun _ _ _ _ _ _ us hl => match us, hl with | [_, _, _, _, _], _ => rfl⟩
  f_AnyWord_told := ⟨_, _, a9.fn, a9.meth, a9.fn.binds (ps := ["self"]) fun _ _ _ _ _ _ us hl => match us, hl with | [_], _ => rfl⟩
  f_Number_told := ⟨_, _, a10.fn, a10.meth, a10.fn.binds (ps := ["self"]) fun _ _ _ _ _ _ us hl => match us, hl with | [_], _ => rfl⟩
  f_Among_told := ⟨_, _, a11.fn, a11.meth, a11.fn.binds (ps := ["self"]) fun _ _ _ _ _ _ us hl => match us, hl with | [_], _ => rfl⟩
  f_Begins_told := ⟨_, _, a12.fn, a12.meth, a12.fn.binds (ps := ["self"]) fun _ _ _ _ _ _ us hl => match us, hl with | [_], _ => rfl⟩
  f_told_kind := ⟨_, _, a13.fn, W.mg_of X G a13.at_, a13.fn.binds (ps := ["kind"]) fun _ _ _ _ _ _ us hl => match us, hl with | [_], _ => rfl⟩
  f_Wish_told := ⟨_, _, a14.fn, a14.meth, a14.fn.binds (ps := ["self"]) fun _ _ _ _ _ _ us hl => match us, hl with | [_], _ => rfl⟩
  f_Place_told := ⟨_, _, a15.fn, a15.meth, a15.fn.binds (ps := ["self"]) fun _ _ _ _ _ _ us hl => match us, hl with | [_], _ => rfl⟩
  f_Table_told := ⟨_, _, a16.fn, a16.meth, a16.fn.binds (ps := ["self"]) fun _ _ _ _ _ _ us hl => match us, hl with | [_], _ => rfl⟩
  f_l_mixed := ⟨_, _, a17.fn, W.mg_of X G a17.at_, a17.fn.binds (ps := ["_law_cell", "_law_k"]) fun _ _ _ _ _ _ us hl => match us, hl with | [_, _], _ => rfl⟩
  f_l_cell_at := ⟨_, _, a18.fn, W.mg_of X G a18.at_, a18.fn.binds (ps := ["_law_script", "_law_k"]) fun _ _ _ _ _ _ us hl => match us, hl with | [_, _], _ => rfl⟩
  f_l_next := ⟨_, _, a19.fn, W.mg_of X G a19.at_, a19.fn.binds (ps := ["_law_draw", "_law_size"]) fun _ _ _ _ _ _ us hl => match us, hl with | [_, _], _ => rfl⟩
  f_l_pick := ⟨_, _, a20.fn, W.mg_of X G a20.at_, a20.fn.binds (ps := ["_law_draw", "_law_some"]) fun _ _ _ _ _ _ us hl => match us, hl with | [_, _], _ => rfl⟩
  f_l_names := ⟨_, _, a21.fn, W.mg_of X G a21.at_, a21.fn.binds (ps := ["_law_draw", "_law_many"]) fun _ _ _ _ _ _ us hl => match us, hl with | [_, _], _ => rfl⟩
  f_l_bare := ⟨_, _, a22.fn, W.mg_of X G a22.at_, a22.fn.binds (ps := ["_law_draw"]) fun _ _ _ _ _ _ us hl => match us, hl with | [_], _ => rfl⟩
  f_l_kind := ⟨_, _, a23.fn, W.mg_of X G a23.at_, a23.fn.binds (ps := ["_law_draw"]) fun _ _ _ _ _ _ us hl => match us, hl with | [_], _ => rfl⟩
  f_l_wish := ⟨_, _, a24.fn, W.mg_of X G a24.at_, a24.fn.binds (ps := ["_law_draw", "_law_name", "_law_letters"]) fun _ _ _ _ _ _ us hl => match us, hl with | [_, _, _], _ => rfl⟩
  f_l_pairs := ⟨_, _, a25.fn, W.mg_of X G a25.at_, a25.fn.binds (ps := ["_law_draw", "_law_names_here", "_law_many"]) fun _ _ _ _ _ _ us hl => match us, hl with | [_, _, _], _ => rfl⟩
  f_l_table := ⟨_, _, a26.fn, W.mg_of X G a26.at_, a26.fn.binds (ps := ["_law_draw", "_law_wishes", "_law_places"]) fun _ _ _ _ _ _ us hl => match us, hl with | [_, _, _], _ => rfl⟩
  f_Number_init := ⟨_, _, a27.fn, a27.mkOk mk27.1 mk27.2, a27.fn.binds (ps := ["self", "least", "most"]) fun _ _ _ _ _ _ us hl => match us, hl with | [_, _, _], _ => rfl⟩
  f_Among_init := ⟨_, _, a28.fn, a28.mkOk mk28.1 mk28.2, a28.fn.binds (ps := ["self", "words"]) fun _ _ _ _ _ _ us hl => match us, hl with | [_, _], _ => rfl⟩
  f_Begins_init := ⟨_, _, a29.fn, a29.mkOk mk29.1 mk29.2, a29.fn.binds (ps := ["self", "start"]) fun _ _ _ _ _ _ us hl => match us, hl with | [_, _], _ => rfl⟩
  f_l_kind_made := ⟨_, _, a30.fn, W.mg_of X G a30.at_, a30.fn.binds (ps := ["_law_told"]) fun _ _ _ _ _ _ us hl => match us, hl with | [_], _ => rfl⟩
  f_l_table_made := ⟨_, _, a31.fn, W.mg_of X G a31.at_, a31.fn.binds (ps := ["_law_told"]) fun _ _ _ _ _ _ us hl => match us, hl with | [_], _ => rfl⟩
  f_Table_wish := ⟨_, _, a32.fn, a32.meth, a32.fn.binds (ps := ["self", "name"]) fun _ _ _ _ _ _ us hl => match us, hl with | [_, _], _ => rfl⟩
  f_Table_place := ⟨_, _, a33.fn, a33.meth, a33.fn.binds (ps := ["self", "name"]) fun _ _ _ _ _ _ us hl => match us, hl with | [_, _], _ => rfl⟩
  f_l_found := ⟨_, _, a34.fn, W.mg_of X G a34.at_, a34.fn.binds (ps := ["_law_way", "_law_table_here", "_law_name"]) fun _ _ _ _ _ _ us hl => match us, hl with | [_, _, _], _ => rfl⟩
  f_l_right := ⟨_, _, a35.fn, W.mg_of X G a35.at_, a35.fn.binds (ps := ["_law_table_here", "_law_told"]) fun _ _ _ _ _ _ us hl => match us, hl with | [_, _], _ => rfl⟩
  f_law := ⟨_, _, a36.fn, W.mg_of X G a36.at_, a36.fn.binds (ps := ["_law_script"]) fun _ _ _ _ _ _ us hl => match us, hl with | [_], _ => rfl⟩
  k_WordError := W.mg_of X G gkWordError
  k_NoKind := W.mg_of X G gkNoKind
  k_NoTable := W.mg_of X G gkNoTable
  k_NoText := W.mg_of X G gkNoText
  k_NoName := W.mg_of X G gkNoName
  k_NoRow := W.mg_of X G gkNoRow
  k_Kind := W.mg_of X G gkKind
  k_AnyWord := W.mg_of X G gkAnyWord
  k_Number := W.mg_of X G gkNumber
  k_Among := W.mg_of X G gkAmong
  k_Begins := W.mg_of X G gkBegins
  k_Wish := W.mg_of X G gkWish
  k_Place := W.mg_of X G gkPlace
  k_Table := W.mg_of X G gkTable
  cl_AnyWord := clAnyWord
  b_AnyWord := baAnyWord
  cl_Number := clNumber
  cl_Among := clAmong
  cl_Begins := clBegins
  cl_Wish := clWish
  cl_Place := clPlace
  cl_Table := clTable
  na_bars := (con1 ⟨clTable, naTable_bars⟩ con0)
  na_kind := (con1 ⟨clWish, naWish_kind⟩ (con1 ⟨clPlace, naPlace_kind⟩ con0))
  na_least := (con1 ⟨clNumber, naNumber_least⟩ con0)
  na_letter := (con1 ⟨clWish, naWish_letter⟩ con0)
  na_listed := (con1 ⟨clAmong, naAmong_listed⟩ con0)
  na_many := (con1 ⟨clWish, naWish_many⟩ con0)
  na_may := (con1 ⟨clWish, naWish_may⟩ con0)
  na_most := (con1 ⟨clNumber, naNumber_most⟩ con0)
  na_must := (con1 ⟨clWish, naWish_must⟩ con0)
  na_name := (con1 ⟨clWish, naWish_name⟩ (con1 ⟨clPlace, naPlace_name⟩ con0))
  na_needs := (con1 ⟨clTable, naTable_needs⟩ con0)
  na_often := (con1 ⟨clPlace, naPlace_often⟩ con0)
  na_places := (con1 ⟨clTable, naTable_places⟩ con0)
  na_start := (con1 ⟨clBegins, naBegins_start⟩ con0)
  na_wishes := (con1 ⟨clTable, naTable_wishes⟩ con0)
  nc_cmp := (con1 ncWish (con1 ncPlace con0))
  z_all := W.mg_none_of X G zall
  z_bool := W.mg_none_of X G zbool
  z_enumerate := W.mg_none_of X G zenumerate
  z_int := W.mg_none_of X G zint
  z_isinstance := W.mg_none_of X G zisinstance
  z_len := W.mg_none_of X G zlen
  z_list := W.mg_none_of X G zlist
  z_max := W.mg_none_of X G zmax
  z_min := W.mg_none_of X G zmin
  z_range := W.mg_none_of X G zrange
  z_set := W.mg_none_of X G zset
  z_sorted := W.mg_none_of X G zsorted
  z_str := W.mg_none_of X G zstr
  z_tuple := W.mg_none_of X G ztuple
  c_OFTENS := ⟨.ref tOFTENS, .ref tOFTENS, W.mg_of X G qOFTENS, (rfl : L2.RelV (.ref tOFTENS) (.ref tOFTENS)), tup_strs vOFTENS⟩
  c_LETTERS := ⟨_, W.mg_of X G qLETTERS, rLETTERS⟩
  c_MOST_OTHERS := ⟨_, W.mg_of X G qMOST_OTHERS, rMOST_OTHERS⟩
  c_MOST_WISHES := ⟨_, W.mg_of X G qMOST_WISHES, rMOST_WISHES⟩
  tb := hTB
  tabP := hPT
  isi := (con1 ⟨clAnyWord, icAnyWord.1, hn.1, hn.2, icAnyWord.2⟩ (con1 ⟨clNumber, icNumber.1, hn.1, hn.2, icNumber.2⟩ (con1 ⟨clAmong, icAmong.1, hn.1, hn.2, icAmong.2⟩ (con1 ⟨clBegins, icBegins.1, hn.1, hn.2, icBegins.2⟩ (con1 ⟨clWish, icWish.1, hn.1, hn.2, icWish.2⟩ (con1 ⟨clPlace, icPlace.1, hn.1, hn.2, icPlace.2⟩ (con1 ⟨clTable, icTable.1, hn.1, hn.2, icTable.2⟩ con0)))))))
  xo_NoName := xoNoName
  xcs := (con1 xcNoName con0) }
 obtain ⟨oc, od, dc, pm, an, cd, ct, sl, kV, l1, c1⟩ := a36.ex
 have key := fun (base : Heap) (hTB : LamX.TabB base mg cT pT) => (fn_law (A := ⟨l.prog, w, K, cWordError, cNoKind, cNoTable, cNoText, cNoName, cNoRow, cKind, cAnyWord, cNumber, cAmong, cBegins, cWish, cPlace, cTable, cT, pT, nd, kit_AnyWord_Kind, kit_Number_Kind, kit_Among_Kind, kit_Begins_Kind, kit_Wish_Kind, kit_Place_Kind, kit_Table_Kind, kit_NoneType_Kind, kit_bool_Kind, kit_int_Kind, kit_str_Kind, kit_tuple_Kind, kit_list_Kind, kit_AnyWord_Wish, kit_Number_Wish, kit_Among_Wish, kit_Begins_Wish, kit_Wish_Wish, kit_Place_Wish, kit_Table_Wish, kit_NoneType_Wish, kit_bool_Wish, kit_int_Wish, kit_str_Wish, kit_tuple_Wish, kit_list_Wish, kit_AnyWord_Place, kit_Number_Place, kit_Among_Place, kit_Begins_Place, kit_Wish_Place, kit_Place_Place, kit_Table_Place, kit_NoneType_Place, kit_bool_Place, kit_int_Place, kit_str_Place, kit_tuple_Place, kit_list_Place, kit_AnyWord_bool, kit_AnyWord_str, kit_AnyWord_tuple, kit_Number_bool, kit_Number_str, kit_Number_tuple, kit_Among_bool, kit_Among_str, kit_Among_tuple, kit_Begins_bool, kit_Begins_str, kit_Begins_tuple, kit_Wish_bool, kit_Wish_str, kit_Wish_tuple, kit_Place_bool, kit_Place_str, kit_Place_tuple, kit_Table_bool, kit_Table_str, kit_Table_tuple, kit_NoName_NoKind, kit_NoName_NoTable, kit_NoName_NoText, kit_NoName_NoName, kit_NoName_NoRow, exm_NoName_WordError⟩) (T base hTB) 0 (fun_mk (st := topS 45) l1 c1 a36.kp)).imp (spF_law fun ns hn => law_true hn)
 exact ⟨_, [(cT, pT)], spLaw K, fun p hp => by rw [List.mem_singleton.mp hp]; exact hT, fun p hp => by rw [List.mem_singleton.mp hp]; exact nT, fun p hp => by rw [List.mem_singleton.mp hp]; exact W.codeHd_of_K X hcd, fun s v => .of_eq rfl, fun H a ns hl _ hH hS => ⟨a, ns, rfl, hS, hl, fun P hP => by rw [a8.tab_only gkTable hcd hP]; exact LamX.TabS.nil (hH (cT, pT) (List.mem_singleton.mpr rfl)), fun _ => rfl⟩, fun base _ _ hTB0 => key base (hTB0 (cT, pT) (List.mem_singleton.mpr rfl))⟩
end LW
section
open PySem PySem.W PyProof.Rows
set_option maxHeartbeats 0 in
theorem fin_ (law_true : LW.LawTrue) : PySem.Challenge.rw_wishwords_k07_tables_told.Holds := by
 w_on; o_law
 refine holds_open (q := HD.view) (loose := HD.loose) (Xt := fun s => xlAt HD.view [] s && recOk PySem.Challenge.rw_wishwords_k07_tables_told.row.records s) (XP := XL HD.view []) (Yf := Hook.obs (kHook (HX.kT HD.h0.heap_1 [375]) HD.asL HD.asE)) (Ya := Hook.val (kHook (HX.kT HD.h0.heap_1 [375]) HD.asL HD.asE)) (YP := Hook.says (kHook (HX.kT HD.h0.heap_1 [375]) HD.asL HD.asE)) (N := 9616) HD.left (Hook.of _) (Hook.keeps _) (fun s e => xl_of s (Bool.and_eq_true_iff.mp e).1) XL.keeps (by rfl) (by rfl) (by rfl) (fun s e => recFacts_of (Bool.and_eq_true_iff.mp e).2) (by rfl) (by first | assumption | decide +kernel) (by decide +kernel) ⟨rfl, rfl, rfl, rfl, rfl, pTW⟩ ?hw ?hc
 (case hw => w_witness2)
 k_fill
 refine LamX.walk_ofTs (l := PySem.Challenge.rw_wishwords_k07_tables_told) (n := 63) (k := 9) (x := "_law_script") (CX := fun w => L2.CX PySem.Challenge.rw_wishwords_k07_tables_told.prog w) rfl (by decide) rfl ⟨rfl, by decide, by decide⟩ (fun w h Y => HX.in_of Y) ?F (fun _ _ _ _ _ h => by obtain ⟨_, _, _, _, _, _, _, _, _, _, _, _, z⟩ := h; exact z.elim)
 case F =>
  intro w mg fa h Y KX G hmg
  refine' LW.all_mk law_true KX G hmg ?gkWordError ?gkNoKind ?gkNoTable ?gkNoText ?gkNoName ?gkNoRow ?gkKind ?gkAnyWord ?gkNumber ?gkAmong ?gkBegins ?gkWish ?gkPlace ?gkTable ?nd ?kit_AnyWord_Kind ?kit_Number_Kind ?kit_Among_Kind ?kit_Begins_Kind ?kit_Wish_Kind ?kit_Place_Kind ?kit_Table_Kind ?kit_NoneType_Kind ?kit_bool_Kind ?kit_int_Kind ?kit_str_Kind ?kit_tuple_Kind ?kit_list_Kind ?kit_AnyWord_Wish ?kit_Number_Wish ?kit_Among_Wish ?kit_Begins_Wish ?kit_Wish_Wish ?kit_Place_Wish ?kit_Table_Wish ?kit_NoneType_Wish ?kit_bool_Wish ?kit_int_Wish ?kit_str_Wish ?kit_tuple_Wish ?kit_list_Wish ?kit_AnyWord_Place ?kit_Number_Place ?kit_Among_Place ?kit_Begins_Place ?kit_Wish_Place ?kit_Place_Place ?kit_Table_Place ?kit_NoneType_Place ?kit_bool_Place ?kit_int_Place ?kit_str_Place ?kit_tuple_Place ?kit_list_Place ?kit_AnyWord_bool ?kit_AnyWord_str ?kit_AnyWord_tuple ?kit_Number_bool ?kit_Number_str ?kit_Number_tuple ?kit_Among_bool ?kit_Among_str ?kit_Among_tuple ?kit_Begins_bool ?kit_Begins_str ?kit_Begins_tuple ?kit_Wish_bool ?kit_Wish_str ?kit_Wish_tuple ?kit_Place_bool ?kit_Place_str ?kit_Place_tuple ?kit_Table_bool ?kit_Table_str ?kit_Table_tuple ?kit_NoName_NoKind ?kit_NoName_NoTable ?kit_NoName_NoText ?kit_NoName_NoName ?kit_NoName_NoRow ?exm_NoName_WordError ?xoNoName ?xcNoName ?clAnyWord ?icAnyWord ?baAnyWord ?clNumber ?icNumber ?naNumber_least ?naNumber_most ?clAmong ?icAmong ?naAmong_listed ?clBegins ?icBegins ?naBegins_start ?clWish ?icWish ?naWish_name ?naWish_letter ?naWish_kind ?naWish_may ?naWish_many ?naWish_must ?clPlace ?icPlace ?naPlace_name ?naPlace_kind ?naPlace_often ?clTable ?icTable ?naTable_wishes ?naTable_places ?naTable_bars ?naTable_needs ?ncWish ?ncPlace ?hn ?a0 ?mk0 ?a1 ?mk1 ?a2 ?a3 ?a4 ?a5 ?a6 ?a7 ?a8 ?mk8 ?a9 ?a10 ?a11 ?a12 ?a13 ?a14 ?a15 ?a16 ?a17 ?a18 ?a19 ?a20 ?a21 ?a22 ?a23 ?a24 ?a25 ?a26 ?a27 ?mk27 ?a28 ?mk28 ?a29 ?mk29 ?a30 ?a31 ?a32 ?a33 ?a34 ?a35 ?a36 ?hT ?hcd ?nT ?zall ?zbool ?zenumerate ?zint ?zisinstance ?zlen ?zlist ?zmax ?zmin ?zrange ?zset ?zsorted ?zstr ?ztuple ?qOFTENS ?vOFTENS ?qLETTERS ?rLETTERS ?qMOST_OTHERS ?rMOST_OTHERS ?qMOST_WISHES ?rMOST_WISHES
  (case gkWordError => first | k_is | rfl | decide +kernel)
  (case gkNoKind => first | k_is | rfl | decide +kernel)
  (case gkNoTable => first | k_is | rfl | decide +kernel)
  (case gkNoText => first | k_is | rfl | decide +kernel)
  (case gkNoName => first | k_is | rfl | decide +kernel)
  (case gkNoRow => first | k_is | rfl | decide +kernel)
  (case gkKind => first | k_is | rfl | decide +kernel)
  (case gkAnyWord => first | k_is | rfl | decide +kernel)
  (case gkNumber => first | k_is | rfl | decide +kernel)
  (case gkAmong => first | k_is | rfl | decide +kernel)
  (case gkBegins => first | k_is | rfl | decide +kernel)
  (case gkWish => first | k_is | rfl | decide +kernel)
  (case gkPlace => first | k_is | rfl | decide +kernel)
  (case gkTable => first | k_is | rfl | decide +kernel)
  (case nd => decide)
  (case kit_AnyWord_Kind => first | k_is | rfl | decide +kernel)
  (case kit_Number_Kind => first | k_is | rfl | decide +kernel)
  (case kit_Among_Kind => first | k_is | rfl | decide +kernel)
  (case kit_Begins_Kind => first | k_is | rfl | decide +kernel)
  (case kit_Wish_Kind => first | k_is | rfl | decide +kernel)
  (case kit_Place_Kind => first | k_is | rfl | decide +kernel)
  (case kit_Table_Kind => first | k_is | rfl | decide +kernel)
  (case kit_NoneType_Kind => first | k_is | rfl | decide +kernel)
  (case kit_bool_Kind => first | k_is | rfl | decide +kernel)
  (case kit_int_Kind => first | k_is | rfl | decide +kernel)
  (case kit_str_Kind => first | k_is | rfl | decide +kernel)
  (case kit_tuple_Kind => first | k_is | rfl | decide +kernel)
  (case kit_list_Kind => first | k_is | rfl | decide +kernel)
  (case kit_AnyWord_Wish => first | k_is | rfl | decide +kernel)
  (case kit_Number_Wish => first | k_is | rfl | decide +kernel)
  (case kit_Among_Wish => first | k_is | rfl | decide +kernel)
  (case kit_Begins_Wish => first | k_is | rfl | decide +kernel)
  (case kit_Wish_Wish => first | k_is | rfl | decide +kernel)
  (case kit_Place_Wish => first | k_is | rfl | decide +kernel)
  (case kit_Table_Wish => first | k_is | rfl | decide +kernel)
  (case kit_NoneType_Wish => first | k_is | rfl | decide +kernel)
  (case kit_bool_Wish => first | k_is | rfl | decide +kernel)
  (case kit_int_Wish => first | k_is | rfl | decide +kernel)
  (case kit_str_Wish => first | k_is | rfl | decide +kernel)
  (case kit_tuple_Wish => first | k_is | rfl | decide +kernel)
  (case kit_list_Wish => first | k_is | rfl | decide +kernel)
  (case kit_AnyWord_Place => first | k_is | rfl | decide +kernel)
  (case kit_Number_Place => first | k_is | rfl | decide +kernel)
  (case kit_Among_Place => first | k_is | rfl | decide +kernel)
  (case kit_Begins_Place => first | k_is | rfl | decide +kernel)
  (case kit_Wish_Place => first | k_is | rfl | decide +kernel)
  (case kit_Place_Place => first | k_is | rfl | decide +kernel)
  (case kit_Table_Place => first | k_is | rfl | decide +kernel)
  (case kit_NoneType_Place => first | k_is | rfl | decide +kernel)
  (case kit_bool_Place => first | k_is | rfl | decide +kernel)
  (case kit_int_Place => first | k_is | rfl | decide +kernel)
  (case kit_str_Place => first | k_is | rfl | decide +kernel)
  (case kit_tuple_Place => first | k_is | rfl | decide +kernel)
  (case kit_list_Place => first | k_is | rfl | decide +kernel)
  (case kit_AnyWord_bool => first | k_is | rfl | decide +kernel)
  (case kit_AnyWord_str => first | k_is | rfl | decide +kernel)
  (case kit_AnyWord_tuple => first | k_is | rfl | decide +kernel)
  (case kit_Number_bool => first | k_is | rfl | decide +kernel)
  (case kit_Number_str => first | k_is | rfl | decide +kernel)
  (case kit_Number_tuple => first | k_is | rfl | decide +kernel)
  (case kit_Among_bool => first | k_is | rfl | decide +kernel)
  (case kit_Among_str => first | k_is | rfl | decide +kernel)
  (case kit_Among_tuple => first | k_is | rfl | decide +kernel)
  (case kit_Begins_bool => first | k_is | rfl | decide +kernel)
  (case kit_Begins_str => first | k_is | rfl | decide +kernel)
  (case kit_Begins_tuple => first | k_is | rfl | decide +kernel)
  (case kit_Wish_bool => first | k_is | rfl | decide +kernel)
  (case kit_Wish_str => first | k_is | rfl | decide +kernel)
  (case kit_Wish_tuple => first | k_is | rfl | decide +kernel)
  (case kit_Place_bool => first | k_is | rfl | decide +kernel)
  (case kit_Place_str => first | k_is | rfl | decide +kernel)
  (case kit_Place_tuple => first | k_is | rfl | decide +kernel)
  (case kit_Table_bool => first | k_is | rfl | decide +kernel)
  (case kit_Table_str => first | k_is | rfl | decide +kernel)
  (case kit_Table_tuple => first | k_is | rfl | decide +kernel)
  (case kit_NoName_NoKind => first | k_is | rfl | decide +kernel)
  (case kit_NoName_NoTable => first | k_is | rfl | decide +kernel)
  (case kit_NoName_NoText => first | k_is | rfl | decide +kernel)
  (case kit_NoName_NoName => first | k_is | rfl | decide +kernel)
  (case kit_NoName_NoRow => first | k_is | rfl | decide +kernel)
  (case exm_NoName_WordError => refine' W.exm_ref ?_ ?_ ?_ ?_ <;> (first | k_is | rfl | decide +kernel))
  (case xoNoName => refine' PL.XOwn.mk ?xoaNoName ?xobNoName ?xocNoName ?xodNoName; (case xoaNoName => k_exc); (case xobNoName => k_is); (case xocNoName => k_is); (case xodNoName => k_is))
  (case xcNoName => constructor <;> (first | k_is | rfl | decide +kernel))
  (case clAnyWord => constructor <;> (first | k_is | rfl | decide +kernel))
  (case icAnyWord => constructor <;> (first | k_is | rfl | decide +kernel))
  (case baAnyWord => constructor <;> (first | k_is | rfl | decide +kernel))
  (case clNumber => constructor <;> (first | k_is | rfl | decide +kernel))
  (case icNumber => constructor <;> (first | k_is | rfl | decide +kernel))
  (case naNumber_least => show W.findIn _ _ _ = _; first | k_is | rfl | decide +kernel)
  (case naNumber_most => show W.findIn _ _ _ = _; first | k_is | rfl | decide +kernel)
  (case clAmong => constructor <;> (first | k_is | rfl | decide +kernel))
  (case icAmong => constructor <;> (first | k_is | rfl | decide +kernel))
  (case naAmong_listed => show W.findIn _ _ _ = _; first | k_is | rfl | decide +kernel)
  (case clBegins => constructor <;> (first | k_is | rfl | decide +kernel))
  (case icBegins => constructor <;> (first | k_is | rfl | decide +kernel))
  (case naBegins_start => show W.findIn _ _ _ = _; first | k_is | rfl | decide +kernel)
  (case clWish => constructor <;> (first | k_is | rfl | decide +kernel))
  (case icWish => constructor <;> (first | k_is | rfl | decide +kernel))
  (case naWish_name => show W.findIn _ _ _ = _; first | k_is | rfl | decide +kernel)
  (case naWish_letter => show W.findIn _ _ _ = _; first | k_is | rfl | decide +kernel)
  (case naWish_kind => show W.findIn _ _ _ = _; first | k_is | rfl | decide +kernel)
  (case naWish_may => show W.findIn _ _ _ = _; first | k_is | rfl | decide +kernel)
  (case naWish_many => show W.findIn _ _ _ = _; first | k_is | rfl | decide +kernel)
  (case naWish_must => show W.findIn _ _ _ = _; first | k_is | rfl | decide +kernel)
  (case clPlace => constructor <;> (first | k_is | rfl | decide +kernel))
  (case icPlace => constructor <;> (first | k_is | rfl | decide +kernel))
  (case naPlace_name => show W.findIn _ _ _ = _; first | k_is | rfl | decide +kernel)
  (case naPlace_kind => show W.findIn _ _ _ = _; first | k_is | rfl | decide +kernel)
  (case naPlace_often => show W.findIn _ _ _ = _; first | k_is | rfl | decide +kernel)
  (case clTable => constructor <;> (first | k_is | rfl | decide +kernel))
  (case icTable => constructor <;> (first | k_is | rfl | decide +kernel))
  (case naTable_wishes => show W.findIn _ _ _ = _; first | k_is | rfl | decide +kernel)
  (case naTable_places => show W.findIn _ _ _ = _; first | k_is | rfl | decide +kernel)
  (case naTable_bars => show W.findIn _ _ _ = _; first | k_is | rfl | decide +kernel)
  (case naTable_needs => show W.findIn _ _ _ = _; first | k_is | rfl | decide +kernel)
  (case ncWish => refine ⟨?_, ?_, ?_⟩ <;> (first | k_is | rfl | decide +kernel))
  (case ncPlace => refine ⟨?_, ?_, ?_⟩ <;> (first | k_is | rfl | decide +kernel))
  (case hn => constructor <;> (first | k_is | rfl | decide +kernel))
  (case a0 => refine' PL.MethAtF.of ?xa0 ?xl0 ?xc0 ?xk0 ?xf0 ?xt0 ?xv0 ?xn0; (case xa0 => k_is); (case xl0 => k_is); (case xc0 => k_is); (case xk0 => k_is); (case xf0 => first | k_is | rfl | decide +kernel); (case xt0 => k_is); (case xv0 => repeat (first | exact .nil | refine .cons rfl ?_)); (case xn0 => decide))
  (case mk0 => constructor <;> (first | k_is | rfl | decide +kernel))
  (case a1 => refine' PL.MethAt.of ?xa1 ?xl1 ?xc1 ?xk1 ?xf1; (case xa1 => k_is); (case xl1 => k_is); (case xc1 => k_is); (case xk1 => k_is); (case xf1 => first | k_is | rfl | decide +kernel))
  (case mk1 => constructor <;> (first | k_is | rfl | decide +kernel))
  (case a2 => refine' PL.DefAt.of ?xa2 ?xl2 ?xc2 ?xk2; (case xa2 => k_is); (case xl2 => k_is); (case xc2 => k_is); (case xk2 => k_is))
  (case a3 => refine' PL.DefAt.of ?xa3 ?xl3 ?xc3 ?xk3; (case xa3 => k_is); (case xl3 => k_is); (case xc3 => k_is); (case xk3 => k_is))
  (case a4 => refine' PL.DefAt.of ?xa4 ?xl4 ?xc4 ?xk4; (case xa4 => k_is); (case xl4 => k_is); (case xc4 => k_is); (case xk4 => k_is))
  (case a5 => refine' PL.DefAt.of ?xa5 ?xl5 ?xc5 ?xk5; (case xa5 => k_is); (case xl5 => k_is); (case xc5 => k_is); (case xk5 => k_is))
  (case a6 => refine' PL.DefAt.of ?xa6 ?xl6 ?xc6 ?xk6; (case xa6 => k_is); (case xl6 => k_is); (case xc6 => k_is); (case xk6 => k_is))
  (case a7 => refine' PL.DefAt.of ?xa7 ?xl7 ?xc7 ?xk7; (case xa7 => k_is); (case xl7 => k_is); (case xc7 => k_is); (case xk7 => k_is))
  (case a8 => refine' PL.MethAtC.of ?xa8 ?xl8 ?xc8 ?xk8 ?xf8; (case xa8 => k_is); (case xl8 => k_is); (case xc8 => k_is); (case xk8 => k_is); (case xf8 => first | k_is | rfl | decide +kernel))
  (case mk8 => constructor <;> (first | k_is | rfl | decide +kernel))
  (case a9 => refine' PL.MethAt.of ?xa9 ?xl9 ?xc9 ?xk9 ?xf9; (case xa9 => k_is); (case xl9 => k_is); (case xc9 => k_is); (case xk9 => k_is); (case xf9 => first | k_is | rfl | decide +kernel))
  (case a10 => refine' PL.MethAt.of ?xa10 ?xl10 ?xc10 ?xk10 ?xf10; (case xa10 => k_is); (case xl10 => k_is); (case xc10 => k_is); (case xk10 => k_is); (case xf10 => first | k_is | rfl | decide +kernel))
  (case a11 => refine' PL.MethAt.of ?xa11 ?xl11 ?xc11 ?xk11 ?xf11; (case xa11 => k_is); (case xl11 => k_is); (case xc11 => k_is); (case xk11 => k_is); (case xf11 => first | k_is | rfl | decide +kernel))
  (case a12 => refine' PL.MethAt.of ?xa12 ?xl12 ?xc12 ?xk12 ?xf12; (case xa12 => k_is); (case xl12 => k_is); (case xc12 => k_is); (case xk12 => k_is); (case xf12 => first | k_is | rfl | decide +kernel))
  (case a13 => refine' PL.DefAt.of ?xa13 ?xl13 ?xc13 ?xk13; (case xa13 => k_is); (case xl13 => k_is); (case xc13 => k_is); (case xk13 => k_is))
  (case a14 => refine' PL.MethAt.of ?xa14 ?xl14 ?xc14 ?xk14 ?xf14; (case xa14 => k_is); (case xl14 => k_is); (case xc14 => k_is); (case xk14 => k_is); (case xf14 => first | k_is | rfl | decide +kernel))
  (case a15 => refine' PL.MethAt.of ?xa15 ?xl15 ?xc15 ?xk15 ?xf15; (case xa15 => k_is); (case xl15 => k_is); (case xc15 => k_is); (case xk15 => k_is); (case xf15 => first | k_is | rfl | decide +kernel))
  (case a16 => refine' PL.MethAt.of ?xa16 ?xl16 ?xc16 ?xk16 ?xf16; (case xa16 => k_is); (case xl16 => k_is); (case xc16 => k_is); (case xk16 => k_is); (case xf16 => first | k_is | rfl | decide +kernel))
  (case a17 => refine' PL.DefAt.of ?xa17 ?xl17 ?xc17 ?xk17; (case xa17 => k_is); (case xl17 => k_is); (case xc17 => k_is); (case xk17 => k_is))
  (case a18 => refine' PL.DefAt.of ?xa18 ?xl18 ?xc18 ?xk18; (case xa18 => k_is); (case xl18 => k_is); (case xc18 => k_is); (case xk18 => k_is))
  (case a19 => refine' PL.DefAt.of ?xa19 ?xl19 ?xc19 ?xk19; (case xa19 => k_is); (case xl19 => k_is); (case xc19 => k_is); (case xk19 => k_is))
  (case a20 => refine' PL.DefAt.of ?xa20 ?xl20 ?xc20 ?xk20; (case xa20 => k_is); (case xl20 => k_is); (case xc20 => k_is); (case xk20 => k_is))
  (case a21 => refine' PL.DefAt.of ?xa21 ?xl21 ?xc21 ?xk21; (case xa21 => k_is); (case xl21 => k_is); (case xc21 => k_is); (case xk21 => k_is))
  (case a22 => refine' PL.DefAt.of ?xa22 ?xl22 ?xc22 ?xk22; (case xa22 => k_is); (case xl22 => k_is); (case xc22 => k_is); (case xk22 => k_is))
  (case a23 => refine' PL.DefAt.of ?xa23 ?xl23 ?xc23 ?xk23; (case xa23 => k_is); (case xl23 => k_is); (case xc23 => k_is); (case xk23 => k_is))
  (case a24 => refine' PL.DefAt.of ?xa24 ?xl24 ?xc24 ?xk24; (case xa24 => k_is); (case xl24 => k_is); (case xc24 => k_is); (case xk24 => k_is))
  (case a25 => refine' PL.DefAt.of ?xa25 ?xl25 ?xc25 ?xk25; (case xa25 => k_is); (case xl25 => k_is); (case xc25 => k_is); (case xk25 => k_is))
  (case a26 => refine' PL.DefAt.of ?xa26 ?xl26 ?xc26 ?xk26; (case xa26 => k_is); (case xl26 => k_is); (case xc26 => k_is); (case xk26 => k_is))
  (case a27 => refine' PL.MethAt.of ?xa27 ?xl27 ?xc27 ?xk27 ?xf27; (case xa27 => k_is); (case xl27 => k_is); (case xc27 => k_is); (case xk27 => k_is); (case xf27 => first | k_is | rfl | decide +kernel))
  (case mk27 => constructor <;> (first | k_is | rfl | decide +kernel))
  (case a28 => refine' PL.MethAt.of ?xa28 ?xl28 ?xc28 ?xk28 ?xf28; (case xa28 => k_is); (case xl28 => k_is); (case xc28 => k_is); (case xk28 => k_is); (case xf28 => first | k_is | rfl | decide +kernel))
  (case mk28 => constructor <;> (first | k_is | rfl | decide +kernel))
  (case a29 => refine' PL.MethAt.of ?xa29 ?xl29 ?xc29 ?xk29 ?xf29; (case xa29 => k_is); (case xl29 => k_is); (case xc29 => k_is); (case xk29 => k_is); (case xf29 => first | k_is | rfl | decide +kernel))
  (case mk29 => constructor <;> (first | k_is | rfl | decide +kernel))
  (case a30 => refine' PL.DefAt.of ?xa30 ?xl30 ?xc30 ?xk30; (case xa30 => k_is); (case xl30 => k_is); (case xc30 => k_is); (case xk30 => k_is))
  (case a31 => refine' PL.DefAt.of ?xa31 ?xl31 ?xc31 ?xk31; (case xa31 => k_is); (case xl31 => k_is); (case xc31 => k_is); (case xk31 => k_is))
  (case a32 => refine' PL.MethAt.of ?xa32 ?xl32 ?xc32 ?xk32 ?xf32; (case xa32 => k_is); (case xl32 => k_is); (case xc32 => k_is); (case xk32 => k_is); (case xf32 => first | k_is | rfl | decide +kernel))
  (case a33 => refine' PL.MethAt.of ?xa33 ?xl33 ?xc33 ?xk33 ?xf33; (case xa33 => k_is); (case xl33 => k_is); (case xc33 => k_is); (case xk33 => k_is); (case xf33 => first | k_is | rfl | decide +kernel))
  (case a34 => refine' PL.DefAt.of ?xa34 ?xl34 ?xc34 ?xk34; (case xa34 => k_is); (case xl34 => k_is); (case xc34 => k_is); (case xk34 => k_is))
  (case a35 => refine' PL.DefAt.of ?xa35 ?xl35 ?xc35 ?xk35; (case xa35 => k_is); (case xl35 => k_is); (case xc35 => k_is); (case xk35 => k_is))
  (case a36 => refine' PL.DefAt.of ?xa36 ?xl36 ?xc36 ?xk36; (case xa36 => k_is); (case xl36 => k_is); (case xc36 => k_is); (case xk36 => k_is))
  (case hT => exact HX.tab_of Y (by first | k_is | rfl | decide +kernel))
  (case hcd => first | k_is | rfl | decide +kernel)
  (case nT => first | k_is | rfl | decide +kernel)
  (case zall => k_is)
  (case zbool => k_is)
  (case zenumerate => k_is)
  (case zint => k_is)
  (case zisinstance => k_is)
  (case zlen => k_is)
  (case zlist => k_is)
  (case zmax => k_is)
  (case zmin => k_is)
  (case zrange => k_is)
  (case zset => k_is)
  (case zsorted => k_is)
  (case zstr => k_is)
  (case ztuple => k_is)
  (case qOFTENS => k_is)
  (case vOFTENS => refine' PL.tupAt0 ?vhOFTENS ?vzOFTENS ?vvOFTENS; (case vhOFTENS => k_is); (case vzOFTENS => decide); (case vvOFTENS => repeat (first | exact .nil | refine .cons ⟨_, rfl⟩ ?_)))
  (case qLETTERS => k_is)
  (case rLETTERS => exact ⟨_, rfl⟩)
  (case qMOST_OTHERS => k_is)
  (case rMOST_OTHERS => exact ⟨_, rfl⟩)
  (case qMOST_WISHES => k_is)
  (case rMOST_WISHES => exact ⟨_, rfl⟩)
end
namespace PL
open PySem
end PL
namespace PL
open PySem L2
end PL
namespace PL
open PySem L2 PySem.Spec PyProof.Rows
end PL
namespace LW
open PySem L2 PL
abbrev zi (c : Int) : D := .s (.int c)
abbrev zs (c : Str) : D := .s (.str c)
abbrev zb (c : Bool) : D := .s (.bl c)
def mixedZ (c k : Int) : Int := (((c + 7919 * k + 11) * 48271 % 2147483647) * ((c + 7919 * k + 11) * 48271 % 2147483647) + 40692 * ((c + 7919 * k + 11) * 48271 % 2147483647)) % 2147483399
def signsS : Str := "-0123456789=abcdefghijklmnopqrstuvwxyz"
def inS (z : Str) (c : Nat) : Bool := z.cps.contains c
def wo (z w : Str) : Bool := w.cps.toList.all (inS z)
def goodW (w : Str) : Bool := (decide (1 ≤ w.length) && decide (w.length ≤ 60)) && wo signsS w
theorem len_list (w : Str) : w.cps.toList.length = w.length := Array.length_toList
theorem str_ext {a b : Str} (h : a.cps.toList = b.cps.toList) : a = b := by
 obtain ⟨⟨a⟩⟩ := a
 obtain ⟨⟨b⟩⟩ := b
 have h : a = b := h
 rw [h]
theorem kah {α : Type} (p : α → Bool) : ∀ (l : List α) (a : α), p a = false → ((l ++ [a]).takeWhile p).length ≤ l.length
 | [], a, h => by simp [h]
 | x :: l, a, h => by
  rw [List.cons_append, List.takeWhile_cons]
  split
  ·rw [List.length_cons, List.length_cons]
   have := kah p l a h
   omega
  ·simp
theorem takeWhile_stop {α : Type} (p : α → Bool) : ∀ (l : List α), (l.takeWhile p).length = l.length ∧ l.all p = true ∨ ∃ a t, l.drop (l.takeWhile p).length = a :: t ∧ p a = false ∧ l.all p = false
 | [] => .inl ⟨rfl, rfl⟩
 | x :: l => by
  rw [List.takeWhile_cons]
  cases q : p x with
  | false => exact .inr ⟨x, l, rfl, q, by simp [q]⟩
  | true =>
   rcases takeWhile_stop p l with ⟨h1, h2⟩ | ⟨a, t, h1, h2, h3⟩
   ·refine .inl ⟨?_, by simp [q, h2]⟩
    simp [h1]
   ·refine .inr ⟨a, t, ?_, h2, by simp [q, h3]⟩
    simpa using h1
theorem strip_none (w y : Str) : (Txt.stripChars w y == "") = wo y w := by
 unfold Txt.stripChars
 rw [PyProof.Rows.stripBy_eq]
 have key : Builtin.Str.strSub w (stripLo y.cps.contains true w) (stripHi y.cps.contains true w (stripLo y.cps.contains true w)) = "" ↔ wo y w = true := by
  have hl := len_list w
  have e1 : stripLo y.cps.contains true w = (w.cps.toList.takeWhile (inS y)).length := rfl
  rw [e1]
  have e2 : stripHi y.cps.contains true w (w.cps.toList.takeWhile (inS y)).length = w.length - ((w.cps.toList.drop (w.cps.toList.takeWhile (inS y)).length).reverse.takeWhile (inS y)).length := rfl
  rw [e2]
  rcases takeWhile_stop (inS y) w.cps.toList with ⟨h1, h2⟩ | ⟨a, t, h1, h2, h3⟩
  ·refine ⟨fun _ => h2, fun _ => str_ext ?_⟩
   unfold Builtin.Str.strSub
   rw [Array.toList_extract, h1, hl]
   show List.take _ (List.drop w.length w.cps.toList) = _
   rw [List.drop_eq_nil_of_le (by omega), List.take_nil]
   rfl
  ·refine ⟨fun z => ?_, fun z => ?_⟩
   ·exfalso
    rw [h1] at z
    have e3 : (w.cps.toList.takeWhile (inS y)).length + (t.length + 1) = w.length := by
     have := congrArg List.length h1
     rw [List.length_drop, List.length_cons, hl] at this
     have h5 : (w.cps.toList.takeWhile (inS y)).length ≤ w.cps.toList.length := (List.takeWhile_sublist _).length_le
     omega
    have e4 : ((a :: t).reverse.takeWhile (inS y)).length ≤ t.length := by
     rw [List.reverse_cons]
     have := kah (inS y) t.reverse a h2
     rwa [List.length_reverse] at this
    have e5 : (Builtin.Str.strSub w (w.cps.toList.takeWhile (inS y)).length (w.length - ((a :: t).reverse.takeWhile (inS y)).length)).cps.size = 0 := by rw [z]; rfl
    unfold Builtin.Str.strSub at e5
    rw [Array.size_extract] at e5
    have : w.cps.size = w.length := rfl
    omega
   ·rw [wo, h3] at z; cases z
 cases q : wo y w with
 | true => exact beq_iff_eq.mpr (key.mpr q)
 | false =>
  refine beq_eq_false_iff_ne.mpr fun z => ?_
  rw [key.mp z] at q
  cases q
theorem join_signs : ∀ cs : List Nat, (Txt.join "" (cs.map fun c => (⟨#[c]⟩ : Str))).cps.toList = cs := by
 intro cs
 show (Builtin.Str.glued "" (cs.map fun c => (⟨#[c]⟩ : Str))).cps.toList = cs
 rw [StrLaws.glued_eq_join]
 induction cs with
 | nil => rfl
 | cons c r ih =>
  cases r with
  | nil => rfl
  | cons d r =>
   show ((⟨#[c]⟩ : Str) ++ ("" : Str) ++ Str.join "" ((d :: r).map fun c => (⟨#[c]⟩ : Str))).cps.toList = c :: d :: r
   show ((#[c] ++ #[]) ++ (Str.join "" ((d :: r).map fun c => (⟨#[c]⟩ : Str))).cps).toList = c :: d :: r
   rw [Array.toList_append, ih]
   rfl
theorem za {n : Nat} (h : n ≤ 1000000) : n ≤ sizeLine := by rw [size_eq]; omega
theorem okS_empty : okS ("" : Str) := by decide +kernel
theorem good_iff {w : Str} : goodW w = true ↔ (1 ≤ w.length ∧ w.length ≤ 60) ∧ wo signsS w = true := by
 unfold goodW
 simp only [Bool.and_eq_true, decide_eq_true_eq]
theorem signs_lt : ∀ c ∈ signsS.cps.toList, c < 128 := by decide +kernel
theorem in_sign {c : Nat} (h : inS signsS c = true) : c ∈ signsS.cps.toList := by
 unfold inS at h
 exact Array.mem_toList_iff.mpr (Array.contains_iff.mp h)
theorem good_okS {w : Str} (h : wo signsS w = true) : okS w := okS_iff.mpr fun c m => by
 have := signs_lt c (in_sign (List.all_eq_true.mp h c m))
 omega
def figsS : Str := "0123456789"
def lettersS : Str := "abcdefghijklmnopqrstuvwxyz"
abbrev val (w : Str) : Nat := NumText.digitsVal w.cps.toList
def hd0 (w : Str) : Str := ⟨#[w.cps.getD 0 0]⟩
def lead (w : Str) : Bool := hd0 w == "0" && !(w == "0")
def numB (a b : Int) (w : Str) : Bool := (wo figsS w && !lead w && decide (w.length ≤ 4)) && (decide (a ≤ (val w : Int)) && decide ((val w : Int) ≤ b))
def inW (w : Str) (ws : List Str) : Bool := inV (.str w) (ws.map V.str)
inductive Kd where
 | any
 | num (a b : Int)
 | amg (ws : List Str)
 | beg (z : Str)
def Kd.told : Kd → D
 | .any => .tup [zs "any"]
 | .num a b => .tup [zs "number", zi a, zi b]
 | .amg ws => .tup [zs "among", .tup (ws.map zs)]
 | .beg z => .tup [zs "begins", zs z]
def Kd.holds : Kd → Str → Bool
 | .any, _ => true
 | .num a b, w => numB a b w
 | .amg ws, w => inW w ws
 | .beg z, w => Txt.startswith w z
def Kd.ok : Kd → Prop
 | .any => True
 | .num a b => 0 ≤ a ∧ a ≤ b ∧ b ≤ 9999
 | .amg ws => (1 ≤ ws.length ∧ ws.length ≤ 6) ∧ ws.Nodup ∧ ∀ w ∈ ws, goodW w = true ∧ Txt.startswith w "-" = false
 | .beg z => (1 ≤ z.length ∧ z.length ≤ 6) ∧ wo lettersS z = true
structure W9 (w : Str) : Prop where
 k : okS w
 l0 : 1 ≤ w.length
 l1 : w.length ≤ 200
theorem sV_zs (ws : List Str) : (ws.map zs).map sV = ws.map V.str := by rw [List.map_map]; rfl
theorem zb7 (ws : List Str) : (ws.map zs).all xb7 = true := List.all_eq_true.mpr fun d m => by
 obtain ⟨w, _, rfl⟩ := List.mem_map.mp m
 rfl
theorem in_tup (w : Str) (ws : List Str) : inD (zs w) (.tup (ws.map zs)) = some (rvB (inW w ws)) := by
 show (match yw (zs w) (ws.map zs) with | some b => some (rvB b) | none => none) = _
 unfold yw
 rw [if_pos (by rw [zb7]; rfl), sV_zs]
 rfl
theorem jbb (w : Str) (ws : List Str) : zbb (zs w) (.lst (ws.map zs)) = some (rvB (!inW w ws)) := by
 show (match yw (zs w) (ws.map zs) with | some b => some (rvB (!b)) | none => none) = _
 unfold yw
 rw [if_pos (by rw [zb7]; rfl), sV_zs]
 rfl
theorem in_mem {z : Str} {c : Nat} (h : inS z c = true) : c ∈ z.cps.toList := Array.mem_toList_iff.mpr (Array.contains_iff.mp h)
theorem letters_lt : ∀ c ∈ lettersS.cps.toList, c < 128 := by decide +kernel
theorem qf {z : Str} (h : wo lettersS z = true) : okS z := okS_iff.mpr fun c m => by
 have := letters_lt c (in_mem (List.all_eq_true.mp h c m))
 omega
theorem in_of {z : Str} {c : Nat} (h : c ∈ z.cps.toList) : inS z c = true := Array.contains_iff.mpr (Array.mem_toList_iff.mp h)
theorem inW_iff {w : Str} {ws : List Str} : inW w ws = true ↔ w ∈ ws := by
 unfold inW inV
 rw [List.any_map, List.any_eq_true]
 constructor
 ·rintro ⟨x, hx, he⟩
  have : x = w := by simpa [eqV] using he
  rw [← this]; exact hx
 ·intro h
  exact ⟨w, h, by simp [eqV]⟩
theorem W9.app {a b : Str} (ha : okS a) (hb : okS b) (h1 : 1 ≤ a.length + b.length) (h2 : a.length + b.length ≤ 200) : W9 (a ++ b) := ⟨kav ha hb, by rw [len_app]; exact h1, by rw [len_app]; exact h2⟩
theorem all_cons {p : Str → Prop} {a : Str} {b : List Str} (ha : p a) (hb : ∀ w ∈ b, p w) : ∀ w ∈ a :: b, p w := fun w m => by
 rcases List.mem_cons.mp m with rfl | m
 ·exact ha
 ·exact hb w m
theorem all_nil {p : Str → Prop} : ∀ w ∈ ([] : List Str), p w := fun w m => by cases m
theorem ke {g h : PL.P Fl} {QF : Fl → En → Prop} {E : Exn → En → Prop} {ρ : En} {Q1 : En → Prop} (hg : wp g (fun fl r => fl = .next ∧ Q1 r) E ρ) (hh : ∀ r, Q1 r → wp h QF E r) : wp (sSeq g h) QF E ρ := by
 rw [wp_seq]
 refine wp_mono hg (fun fl r z => ?_) fun _ _ e => e
 obtain ⟨rfl, z⟩ := z
 exact hh r z
theorem zaa {g h : PL.P Fl} {QF : Fl → En → Prop} {E : Exn → En → Prop} {ρ : En} (Q1 : En → Prop) (hg : wp g (fun fl r => onN fl r Q1 QF) E ρ) (hh : ∀ r, Q1 r → wp h QF E r) : wp (sSeq g h) QF E ρ := by
 rw [wp_seq]
 refine wp_mono hg (fun fl r z => ?_) fun _ _ e => e
 cases fl with
 | next => exact hh r z
 | _ => exact z
end LW
namespace LW
open PySem L2 PL
inductive Of where
 | one
 | maybe
 | some_
 | any_
def Of.s : Of → Str
 | .one => "one"
 | .maybe => "maybe"
 | .some_ => "some"
 | .any_ => "any"
def Of.again : Of → Bool
 | .some_ => true
 | .any_ => true
 | _ => false
def Of.lack : Of → Bool
 | .maybe => true
 | .any_ => true
 | _ => false
structure Pl where
 name : Str
 k : Kd
 o : Of
def scan (w : Str) : List Pl → Nat → List Int
 | [], _ => []
 | p :: r, j => (if p.k.holds w = true then [(j : Int)] else []) ++ (if p.o.lack = true then scan w r (j + 1) else [])
def onHere (ps : List Pl) (last : Int) (w : Str) : List Int := if 0 ≤ last then (match ps[last.toNat]? with
 | some p => if (p.o.again && p.k.holds w) = true then [last] else []
 | none => []) else []
def pfor (ps : List Pl) (last : Int) (w : Str) : List Int := onHere ps last w ++ scan w (ps.drop (last + 1).toNat) (last + 1).toNat
def mclose (ps : List Pl) (last : Int) : Bool := (ps.drop (last + 1).toNat).all fun p => p.o.lack
def lastOf (way : List Int) : Int := way.getLast?.getD (-1)
def wayOn (ps : List Pl) (w : Str) (way : List Int) : List (List Int) := (pfor ps (lastOf way) w).map fun n => way ++ [n]
def wayStep (ps : List Pl) (ways : List (List Int)) (w : Str) : List (List Int) := ways.flatMap (wayOn ps w)
def waysAt (ps : List Pl) (ws : List Str) : List (List Int) := ws.foldl (wayStep ps) [[]]
def laysP (ps : List Pl) (ws : List Str) : List (List Int) := (waysAt ps ws).filter fun way => mclose ps (lastOf way)
theorem qbz {α : Type} [DecidableEq α] : ∀ {l m : List α}, l.Nodup → (∀ x ∈ l, x ∈ m) → l.length ≤ m.length
 | [], m, _, _ => Nat.zero_le _
 | a :: l, m, h, s => by
  rw [List.nodup_cons] at h
  have ha := s a List.mem_cons_self
  have := qbz (l := l) (m := m.erase a) h.2 fun x hx => (List.mem_erase_of_ne (fun e => h.1 (by rw [← e]; exact hx))).mpr (s x (List.mem_cons_of_mem _ hx))
  rw [List.length_erase_of_mem ha] at this
  have hp : 0 < m.length := List.length_pos_of_mem ha
  rw [List.length_cons]
  omega
end LW
namespace LW
open PySem L2 PL
def cv (g h : List Str → Nat) : List Str → Nat
 | [] => g [] * h []
 | w :: ws => g [] * h (w :: ws) + cv (fun t => g (w :: t)) h ws
def Lk (ps : List Pl) (a b : Int) : Prop := ∀ (j : Nat) (q : Pl), a < j → (j : Int) < b → ps[j]? = some q → q.o.lack = true
def Goes (ps : List Pl) (last : Int) (w : Str) (n : Int) : Prop := ∃ k : Nat, n = k ∧ ∃ p, ps[k]? = some p ∧ p.k.holds w = true ∧ ((last = k ∧ p.o.again = true) ∨ (last < k ∧ Lk ps last k))
def OkW (ps : List Pl) : Int → List Str → List Int → Prop
 | last, [], [] => Lk ps last ps.length
 | last, w :: ws, n :: ns => Goes ps last w n ∧ OkW ps n ws ns
 | _, _, _ => False
end LW
namespace PL
open PySem L2
end PL
namespace PL
open PySem L2 PySem.Spec PyProof.Rows
end PL
namespace LW
open PySem L2 PL
structure Wx where
 name : Str
 letter : Option Str
 kind : Option Kd
 may : Bool
 many : Bool
 must : Bool
structure Tb where
 ws : List Wx
 ps : List Pl
 bs : List (Str × Str)
 ds : List (Str × Str)
def zj (ws : List Wx) : List Str := ws.map (·.name)
def nmW (ws : List Wx) (i : Nat) : Str := (zj ws).getD i "a"
def single : List Nat → Option Nat
 | [k] => some k
 | _ => none
def byPre (nms : List Str) (n : Str) : List Nat := (List.range nms.length).filter fun k => Txt.startswith (nms.getD k "a") n
def byName (nms : List Str) (n : Str) : Option Nat := if n ∈ nms then nms.findIdx? (fun z => z == n) else if n = "" then none else single (byPre nms n)
def byLetter (ls : List (Option Str)) (z : Str) : Option Nat := ls.findIdx? (fun o => o == some z)
def finV (ws : List Wx) (i : Nat) (v : Str) : Option (Nat × Str) := if v = "" then some (i, "") else match ws[i]? with
 | some w => (match w.kind with
  | some k => if k.holds v = true then some (i, v) else none
  | none => none)
 | none => none
def tellOf (ws : List Wx) (w : Str) : Option (Nat × Str) :=
 if Txt.startswith w "--" = true then
  (if (Txt.partition (cutS w (some 2) none) "=").2.1 ≠ "" ∧ (Txt.partition (cutS w (some 2) none) "=").2.2 = "" then none
   else match byName (zj ws) (Txt.partition (cutS w (some 2) none) "=").1 with
    | some i => finV ws i (Txt.partition (cutS w (some 2) none) "=").2.2
    | none => none)
 else match byLetter (ws.map (·.letter)) (cutS w (some 1) (some 2)) with
  | some i => finV ws i (cutS w (some 2) none)
  | none => none
abbrev Told := List (Nat × Str)
def bareW (w : Str) : Bool := !Txt.startswith w "-"
def mayV (one : Wx) (v : Str) : Bool := (!(v == "") || one.kind.isNone) || one.may
def nextV (one : Wx) (v : Str) (u : Str) : Bool := (v == "") && (bareW u && (match one.kind with
 | some k => k.holds u
 | none => false))
def parts (ws : List Wx) : List Str → List (Told × List Str)
 | [] => [([], [])]
 | w :: r => if w = "--" then [([], r)] else if bareW w = true then (parts ws r).map fun p => (p.1, w :: p.2)
  else match tellOf ws w with
   | none => []
   | some (i, v) => match ws[i]? with
    | none => []
    | some one => (if mayV one v = true then (parts ws r).map fun p => ((i, v) :: p.1, p.2) else []) ++
     (match r with
      | [] => []
      | u :: r' => if nextV one v u = true then (parts ws r').map fun p => ((i, u) :: p.1, p.2) else [])
def namesT (ws : List Wx) (t : Told) : List Str := t.map fun p => nmW ws p.1
def badN (nms : List Str) (w : Wx) : Bool := (decide (1 < nms.count w.name) && !w.many) || (w.must && !inW w.name nms)
def keptN (tb : Tb) (nms : List Str) : Bool := (!(tb.ws.any (badN nms)) && !(tb.bs.any fun p => inW p.1 nms && inW p.2 nms)) && (tb.ds.all fun p => !inW p.1 nms || inW p.2 nms)
def valsT (t : Told) (k : Nat) : List Str := (t.filter fun p => p.1 == k).map (·.2)
def tldL (ws : List Wx) (t : Told) (n : Nat) : List D := ((List.range n).filter fun k => !(valsT t k).isEmpty).map fun k => .tup [zs (nmW ws k), .tup ((valsT t k).map zs)]
def pick (l : List Str) (way : List Int) (j : Nat) : List Str := ((l.zip way).filter fun p => p.2 == (j : Int)).map (·.1)
def nmP (ps : List Pl) (i : Nat) : Str := (ps.map (·.name)).getD i "a"
def lidL (ps : List Pl) (l : List Str) (way : List Int) (n : Nat) : List D := ((List.range n).filter fun k => !(pick l way k).isEmpty).map fun k => .tup [zs (nmP ps k), .tup ((pick l way k).map zs)]
def reading (tb : Tb) (t : Told) (l : List Str) (way : List Int) : D := .tup [.tup (tldL tb.ws t tb.ws.length), .tup (lidL tb.ps l way tb.ps.length)]
def readsOf (tb : Tb) (p : Told × List Str) : List D := if keptN tb (namesT tb.ws p.1) = true then (laysP tb.ps p.2).map (reading tb p.1 p.2) else []
def readsU (tb : Tb) (row : List Str) : List D := (parts tb.ws row).flatMap (readsOf tb)
def reads (tb : Tb) (row : List Str) : List D := (readsU tb row).mergeSort dle
theorem okS_sub {z : Str} {a b : Nat} (h : okS z) : okS (Builtin.Str.strSub z a b) := okS_iff.mpr fun c m => okS_iff.mp h c (by
 unfold Builtin.Str.strSub at m
 rw [Array.toList_extract] at m
 exact List.mem_of_mem_drop (List.mem_of_mem_take m))
end LW
namespace LW
open PySem L2 PL
def NvD (d : D) : Prop := ∃ (z : Str) (vs : List Str), okS z ∧ (∀ v ∈ vs, okS v) ∧ d = .tup [zs z, .tup (vs.map zs)]
def RdD (d : D) : Prop := ∃ as bs : List D, (∀ a ∈ as, NvD a) ∧ (∀ b ∈ bs, NvD b) ∧ d = .tup [.tup as, .tup bs]
theorem zs_sh {vs : List Str} (h : ∀ v ∈ vs, okS v) : ∀ d ∈ vs.map zs, Sh 0 d := fun d m => by
 obtain ⟨v, hv, rfl⟩ := List.mem_map.mp m
 exact Sh.str (h v hv)
theorem NvD.in_sh {d : D} (h : NvD d) : ∃ xs, d = .tup xs ∧ ∀ x ∈ xs, Sh 1 x := by
 obtain ⟨z, vs, h1, h2, rfl⟩ := h
 refine ⟨_, rfl, fun x m => ?_⟩
 simp only [List.mem_cons, List.not_mem_nil, or_false] at m
 rcases m with rfl | rfl
 ·exact (Sh.str h1).mono (by decide)
 ·exact Sh.tup (zs_sh h2) (by decide)
theorem NvD.sh {d : D} (h : NvD d) : Sh 2 d := by
 obtain ⟨xs, rfl, hx⟩ := h.in_sh
 exact Sh.tup hx (by decide)
theorem RdD.in_sh {d : D} (h : RdD d) : ∃ xs, d = .tup xs ∧ ∀ x ∈ xs, Sh 3 x := by
 obtain ⟨as, bs, h1, h2, rfl⟩ := h
 refine ⟨_, rfl, fun x m => ?_⟩
 simp only [List.mem_cons, List.not_mem_nil, or_false] at m
 rcases m with rfl | rfl
 ·exact Sh.tup (fun a m => (h1 a m).sh) (by decide)
 ·exact Sh.tup (fun a m => (h2 a m).sh) (by decide)
theorem RdD.sh {d : D} (h : RdD d) : Sh 4 d := by
 obtain ⟨xs, rfl, hx⟩ := h.in_sh
 exact Sh.tup hx (by decide)
theorem py_strs {vs : List Str} (h : ∀ v ∈ vs, okS v) : py (.tup (vs.map zs)) = .tuple (vs.map .str) := by
 rw [waa fun d m => (zs_sh h d m).s, List.map_map]
 rfl
theorem NvD.py {z : Str} {vs : List Str} (h1 : okS z) (h2 : ∀ v ∈ vs, okS v) : PL.py (.tup [zs z, .tup (vs.map zs)]) = .tuple [.str z, .tuple (vs.map .str)] := by
 obtain ⟨xs, e, hx⟩ := NvD.in_sh ⟨z, vs, h1, h2, rfl⟩
 rw [waa fun d m => (by cases e; exact (hx d m).s), List.map_cons, List.map_cons, List.map_nil, py_strs h2]
 rfl
theorem RdD.py {as bs : List D} (h1 : ∀ a ∈ as, NvD a) (h2 : ∀ b ∈ bs, NvD b) : PL.py (.tup [.tup as, .tup bs]) = .tuple [.tuple (as.map PL.py), .tuple (bs.map PL.py)] := by
 obtain ⟨xs, e, hx⟩ := RdD.in_sh ⟨as, bs, h1, h2, rfl⟩
 rw [waa fun d m => (by cases e; exact (hx d m).s), List.map_cons, List.map_cons, List.map_nil, waa fun d m => ((h1 d m).sh).s, waa fun d m => ((h2 d m).sh).s]
open PySem.W (alike alikeAll)
theorem xax : ∀ xs ys : List Str, alikeAll (xs.map PyData.str) (ys.map PyData.str) = true
 | [], _ => by simp [alikeAll]
 | _ :: _, [] => by simp [alikeAll]
 | x :: xs, y :: ys => by
  rw [List.map_cons, List.map_cons, alikeAll, xax xs ys]
  simp [alike]
theorem NvD.alike {a b : D} (ha : NvD a) (hb : NvD b) : PySem.W.alike (PL.py a) (PL.py b) = true := by
 obtain ⟨z, vs, h1, h2, rfl⟩ := ha
 obtain ⟨y, us, h3, h4, rfl⟩ := hb
 rw [NvD.py h1 h2, NvD.py h3 h4]
 simp [PySem.W.alike, alikeAll, xax]
theorem qal : ∀ (as bs : List D), (∀ a ∈ as, NvD a) → (∀ b ∈ bs, NvD b) → alikeAll (as.map PL.py) (bs.map PL.py) = true
 | [], _, _, _ => by simp [alikeAll]
 | _ :: _, [], _, _ => by simp [alikeAll]
 | a :: as, b :: bs, h1, h2 => by
  rw [List.map_cons, List.map_cons, alikeAll, qal as bs (fun x m => h1 x (List.mem_cons_of_mem _ m)) (fun x m => h2 x (List.mem_cons_of_mem _ m)), (h1 a List.mem_cons_self).alike (h2 b List.mem_cons_self)]
  rfl
theorem RdD.alike {a b : D} (ha : RdD a) (hb : RdD b) : PySem.W.alike (PL.py a) (PL.py b) = true := by
 obtain ⟨as, bs, h1, h2, rfl⟩ := ha
 obtain ⟨cs, ds, h3, h4, rfl⟩ := hb
 rw [RdD.py h1 h2, RdD.py h3 h4]
 simp [PySem.W.alike, alikeAll, qal _ _ h1 h3, qal _ _ h2 h4]
theorem zal : ∀ xs ys : List Str, PyData.eqvAll (xs.map PyData.str) (ys.map PyData.str) = true → xs = ys
 | [], [], _ => rfl
 | [], _ :: _, h => by simp [PyData.eqvAll] at h
 | _ :: _, [], h => by simp [PyData.eqvAll] at h
 | x :: xs, y :: ys, h => by
  rw [List.map_cons, List.map_cons, PySem.W.eqv_all_cons, Bool.and_eq_true] at h
  rw [zal xs ys h.2, show x = y from by simpa [PyData.eqv] using h.1]
theorem NvD.eqv {a b : D} (ha : NvD a) (hb : NvD b) (h : PyData.eqv (PL.py a) (PL.py b) = true) : a = b := by
 obtain ⟨z, vs, h1, h2, rfl⟩ := ha
 obtain ⟨y, us, h3, h4, rfl⟩ := hb
 rw [NvD.py h1 h2, NvD.py h3 h4, yu, PySem.W.eqv_all_cons, PySem.W.eqv_all_cons, Bool.and_eq_true, Bool.and_eq_true, yu] at h
 rw [zal vs us h.2.1, show z = y from by simpa [PyData.eqv] using h.1]
theorem qbb : ∀ (as bs : List D), (∀ a ∈ as, NvD a) → (∀ b ∈ bs, NvD b) → PyData.eqvAll (as.map PL.py) (bs.map PL.py) = true → as = bs
 | [], [], _, _, _ => rfl
 | [], _ :: _, _, _, h => by simp [PyData.eqvAll] at h
 | _ :: _, [], _, _, h => by simp [PyData.eqvAll] at h
 | a :: as, b :: bs, h1, h2, h => by
  rw [List.map_cons, List.map_cons, PySem.W.eqv_all_cons, Bool.and_eq_true] at h
  rw [qbb as bs (fun x m => h1 x (List.mem_cons_of_mem _ m)) (fun x m => h2 x (List.mem_cons_of_mem _ m)) h.2, (h1 a List.mem_cons_self).eqv (h2 b List.mem_cons_self) h.1]
theorem RdD.eqv {a b : D} (ha : RdD a) (hb : RdD b) (h : PyData.eqv (PL.py a) (PL.py b) = true) : a = b := by
 obtain ⟨as, bs, h1, h2, rfl⟩ := ha
 obtain ⟨cs, ds, h3, h4, rfl⟩ := hb
 rw [RdD.py h1 h2, RdD.py h3 h4, yu, PySem.W.eqv_all_cons, PySem.W.eqv_all_cons, Bool.and_eq_true, Bool.and_eq_true, yu, yu] at h
 rw [qbb _ _ h1 h3 h.1, qbb _ _ h2 h4 h.2.1]
theorem toks_inj {x y : PyData} (ha : PySem.W.alike x y = true) (h : PySem.W.keyToks x = PySem.W.keyToks y) : PyData.eqv x y = true := by
 cases q : PyData.eqv x y with
 | true => rfl
 | false =>
  have h2 := (PySem.W.toks_eqv x y ha).2 q [] [.inl 0]
  rw [h, PySem.W.lex_pre, PyProof.Rows.lex_irrefl] at h2
  exact absurd h2 (by decide)
theorem wb0 (a b : D) : dle a b = !(PyProof.Rows.lexLt PyProof.Rows.itemOrd (PySem.W.keyToks (PL.py b)) (PySem.W.keyToks (PL.py a))) := rfl
theorem dle_tr {a b c : D} (h1 : dle a b = true) (h2 : dle b c = true) : dle a c = true := by
 rw [wb0, Bool.not_eq_true'] at h1 h2 ⊢
 cases q : PyProof.Rows.lexLt PyProof.Rows.itemOrd (PySem.W.keyToks (PL.py c)) (PySem.W.keyToks (PL.py a)) with
 | false => rfl
 | true =>
  rcases PyProof.Rows.lex_negTrans _ (PySem.W.keyToks (PL.py b)) _ q with z | z
  ·rw [h2] at z; cases z
  ·rw [h1] at z; cases z
theorem vb7 (a b : D) : (dle a b || dle b a) = true := by
 rw [wb0, wb0]
 cases q : PyProof.Rows.lexLt PyProof.Rows.itemOrd (PySem.W.keyToks (PL.py b)) (PySem.W.keyToks (PL.py a)) with
 | false => rfl
 | true =>
  cases q2 : PyProof.Rows.lexLt PyProof.Rows.itemOrd (PySem.W.keyToks (PL.py a)) (PySem.W.keyToks (PL.py b)) with
  | false => rfl
  | true =>
   have := PyProof.Rows.lex_trans _ _ _ q q2
   rw [PyProof.Rows.lex_irrefl] at this
   cases this
end LW
namespace LW
open PySem L2 PL
def GoesN (ps : List Pl) (last : Int) (w : Str) (n : Int) : Prop := ∃ k : Nat, n = k ∧ ∃ p, ps[k]? = some p ∧ p.k.holds w = true ∧ ((last = k ∧ p.o.again = true) ∨ last < k)
def StepN (ps : List Pl) : Int → List Str → List Int → Prop
 | _, [], [] => True
 | last, w :: ws, n :: ns => GoesN ps last w n ∧ StepN ps n ws ns
 | _, _, _ => False
theorem step_ge {ps : List Pl} : ∀ {ws : List Str} {ns : List Int} {last : Int}, StepN ps last ws ns → ∀ n ∈ ns, last ≤ n
 | [], [], last, h, n, m => absurd m List.not_mem_nil
 | w :: ws, n0 :: ns, last, h, n, m => by
  obtain ⟨⟨k, rfl, p, h1, h2, h3⟩, h4⟩ := h
  have : last ≤ (k : Int) := by rcases h3 with ⟨c, _⟩ | c <;> omega
  rcases List.mem_cons.mp m with rfl | m
  ·exact this
  ·have := step_ge h4 n m
   omega
 | [], n0 :: ns, last, h, n, m => by cases h
 | w :: ws, [], last, h, n, m => by cases h
def Wants (ps : List Pl) (last : Int) (ns : List Int) : Prop := ∀ (k : Nat) (q : Pl), last < k → ps[k]? = some q → q.o.lack = false → (k : Int) ∈ ns
theorem ok_all {ps : List Pl} : ∀ {ws : List Str} {ns : List Int} {last : Int}, OkW ps last ws ns ↔ StepN ps last ws ns ∧ Wants ps last ns
 | [], [], last => by
  constructor
  ·intro h
   refine ⟨trivial, fun k q k1 k2 k3 => ?_⟩
   have := h k q k1 (by have := (List.getElem?_eq_some_iff.mp k2).1; omega) k2
   rw [this] at k3
   cases k3
  ·rintro ⟨_, h⟩
   intro j q j1 j2 j3
   cases c : q.o.lack with
   | true => rfl
   | false => exact absurd (h j q j1 j3 c) List.not_mem_nil
 | w :: ws, n :: ns, last => by
  rw [OkW, StepN, ok_all (ws := ws)]
  constructor
  ·rintro ⟨⟨k, rfl, p, h1, h2, h3⟩, h4, h5⟩
   refine ⟨⟨⟨k, rfl, p, h1, h2, ?_⟩, h4⟩, fun j q j1 j2 j3 => ?_⟩
   ·rcases h3 with c | c
    ·exact .inl c
    ·exact .inr c.1
   ·rcases Nat.lt_trichotomy j k with c | c | c
    ·rcases h3 with ⟨c1, _⟩ | ⟨_, c2⟩
     ·omega
     ·have := c2 j q j1 (by omega) j2
      rw [this] at j3
      cases j3
    ·rw [c]; exact List.mem_cons_self
    ·exact List.mem_cons_of_mem _ (h5 j q (by omega) j2 j3)
  ·rintro ⟨⟨⟨k, rfl, p, h1, h2, h3⟩, h4⟩, h5⟩
   refine ⟨⟨k, rfl, p, h1, h2, ?_⟩, h4, fun j q j1 j2 j3 => ?_⟩
   ·rcases h3 with c | c
    ·exact .inl c
    ·refine .inr ⟨c, fun j q j1 j2 j3 => ?_⟩
     cases c2 : q.o.lack with
     | true => rfl
     | false =>
      rcases List.mem_cons.mp (h5 j q j1 j3 c2) with e | e
      ·omega
      ·have := step_ge h4 _ e
       omega
   ·have hl : last ≤ (k : Int) := by rcases h3 with ⟨c, _⟩ | c <;> omega
    rcases List.mem_cons.mp (h5 j q (by omega) j2 j3) with e | e
    ·omega
    ·exact e
 | [], n :: ns, last => by simp [OkW, StepN]
 | w :: ws, [], last => by simp [OkW, StepN]
end LW
namespace PL
open PySem L2
end PL
namespace PL
open PySem L2
theorem ja9 {α σ : Type} {vs : List Nat} {a : Tgt} {elt : PL.P Rv} {ds : List D} {ρ : En} {Q : List D × En → Prop} (R : σ → En) (f : α → D) (I : List α → σ → Prop) (s0 : σ) (hρ : ρ = R s0) (h0 : I [] s0) (hl : ds.length ≤ sizeLine)
  (hs : ∀ (xs : List α) (s : σ) (d : D), ds[xs.length]? = some d → I xs s → wpO (a d (R s)) fun r1 => wp elt (fun v r3 => wpG r3 v fun y r4 => ∃ x s', y = f x ∧ I (xs ++ [x]) s' ∧ yk r4 vs = R s') EF r1)
  (h : ∀ (xs : List α) (s : σ), xs.length = ds.length → I xs s → Q (xs.map f, R s)) : wpO (k9 vs a fYes elt ds [] ρ) Q := by
 subst hρ
 obtain ⟨acc, r, h1, xs, s, rfl, rfl, h3, h4⟩ := kbd (vs := vs) (a := a) (tests := fYes) (elt := elt) (ds := ds) (acc0 := []) (ρ := R s0) (fun i acc r => ∃ (xs : List α) (s : σ), acc = xs.map f ∧ r = R s ∧ xs.length = i ∧ I xs s) ⟨[], s0, rfl, rfl, rfl, h0⟩
  (fun i d acc r hd hI => by
   obtain ⟨xs, s, rfl, rfl, h3, h4⟩ := hI
   have hi := (List.getElem?_eq_some_iff.mp hd).1
   have hh := hs xs s d (by rw [h3]; exact hd) h4
   unfold wpO at hh ⊢
   cases q : a d (R s) with
   | none => rw [q] at hh; exact hh
   | some r1 =>
    rw [q] at hh
    show wp (P.ret true) _ EF r1
    rw [xp, if_pos rfl]
    refine wp_mono hh (fun v r3 z => ?_) fun _ _ z => z
    unfold wpG at z ⊢
    cases q3 : grab r3 v with
    | none => rw [q3] at z; exact z
    | some w =>
     rw [q3] at z
     obtain ⟨x, s', z1, z2, z3⟩ := z
     exact ⟨by rw [List.length_map, h3]; omega, xs ++ [x], s', by rw [List.map_append, z1]; rfl, z3, by rw [List.length_append, h3]; rfl, z2⟩)
 rw [h1]
 exact h xs s h3 h4
end PL
namespace PL.TN
open PySem PySem.Calls PyProof.Rows PySem.Spec L2
def IsN (h : Heap) (k : NestedKey) (a : Addr) : Prop := NestedIs h k (.ref a) ∧ k.depth ≤ 8
theorem IsN.keep {h h' : Heap} {k : NestedKey} {a : Addr} (x : IsN h k a) (up : ∀ b o, h.get? b = some o → h'.get? b = some o) : IsN h' k a := ⟨NestedIs.at (fun b o _ _ e _ => up b o e) k _ x.1, x.2⟩
theorem IsN.same {h h' : Heap} {k : NestedKey} {a b : Addr} {o : Obj} {es : Array (Int × Value)} {ep : Nat} {t : SetTable} (x : IsN h k b) (g : h.get? a = some o) (d : o.data = .set es ep t) (sb : Heap.SameBut a h h') : IsN h' k b :=
 ⟨NestedIs.at (fun c u _ _ e z => by
  refine (sb.2 c fun q => ?_).trans e
  subst q
  rw [g] at e
  cases e
  rw [d] at z
  cases z) k _ x.1, x.2⟩
abbrev LK := List (Addr × NestedKey)
def hsN (w : World) (L : LK) : List Int := L.map fun p => p.2.hash w
def rowsN (w : World) (L : LK) : List (Int × Value) := L.map fun p => (p.2.hash w, Value.ref p.1)
theorem hsN_len {w : World} {L : LK} : (hsN w L).length = L.length := by unfold hsN; rw [List.length_map]
structure SetN (w : World) (h : Heap) (a : Addr) (L : LK) (es : Array (Int × Value)) (ep : Nat) (t : SetTable) : Prop where
 ob : ∃ o, h.get? a = some o ∧ o.ExactSet ∧ o.data = .set es ep t
 rw : es.toList = rowsN w L
 tb : TabOk t (hsN w L)
 nd : (L.map (·.2)).Nodup
 is : ∀ p ∈ L, IsN h p.2 p.1
 led : w.params.followText "set-order" = true ∨ t.led = true
 rm : L.length * 5 < t.mask * 3
 fw : L.length < 64
section
variable {P : Program} {w : World} {A : Around} {E : Value → Shared → Prop} {s : Shared} {a : Addr} {L : LK} {es : Array (Int × Value)} {ep : Nat} {t : SetTable}
theorem kbh (e : es.toList = rowsN w L) : es.size = L.length := by
 have q := congrArg List.length e
 unfold rowsN at q
 rwa [Array.length_toList, List.length_map] at q
theorem fitsN (T : TabOk t (hsN w L)) (e : es.size = L.length) (m : L.length ≤ t.mask) : t.fits es.size = true := by
 have q := T.sz
 rw [hsN_len] at q
 unfold SetTable.fits SetTable.fill
 rw [T.dm, Bool.and_eq_true, beq_iff_eq, decide_eq_true_eq]
 refine ⟨by omega, ?_⟩
 show t.place.size + 0 ≤ t.mask
 omega
theorem SetN.fits (R : SetN w s.heap a L es ep t) : t.fits es.size = true := fitsN R.tb (kbh R.rw) (by have := R.rm; omega)
theorem SetN.row (R : SetN w s.heap a L es ep t) {i : Nat} {p : Addr × NestedKey} (e : L[i]? = some p) : es[i]? = some (p.2.hash w, Value.ref p.1) := by
 rw [← Array.getElem?_toList, R.rw]
 unfold rowsN
 rw [List.getElem?_map, e]; rfl
end
end PL.TN
namespace PL.TN
open PySem PySem.Calls PyProof.Rows PySem.Spec L2 PL.SX
structure GotN (ks : LK) (i : Nat) (L : LK) : Prop where
 sub : ∀ p ∈ L, p ∈ ks.take i
 all : ∀ p ∈ ks.take i, p.2 ∈ L.map (·.2)
theorem take_one {α : Type} {l : List α} {i : Nat} {x : α} (e : l[i]? = some x) : l.take (i + 1) = l.take i ++ [x] := by
 rw [List.take_add_one, e]; rfl
theorem GotN.old {ks L : LK} {i : Nat} {x : Addr × NestedKey} (g : GotN ks i L) (e : ks[i]? = some x) (m : x.2 ∈ L.map (·.2)) : GotN ks (i + 1) L := by
 refine ⟨fun p q => ?_, fun p q => ?_⟩
 ·rw [take_one e]; exact List.mem_append_left _ (g.sub p q)
 ·rw [take_one e] at q
  rcases List.mem_append.mp q with z | z
  ·exact g.all p z
  ·rw [List.mem_singleton.mp z]; exact m
theorem GotN.new {ks L L' : LK} {i : Nat} {x : Addr × NestedKey} (g : GotN ks i L) (e : ks[i]? = some x) (pm : L'.Perm (x :: L)) : GotN ks (i + 1) L' := by
 refine ⟨fun p q => ?_, fun p q => ?_⟩
 ·rw [take_one e]
  rcases List.mem_cons.mp (pm.mem_iff.mp q) with z | z
  ·rw [z]; exact List.mem_append_right _ (List.mem_singleton.mpr rfl)
  ·exact List.mem_append_left _ (g.sub p z)
 ·rw [(pm.map (·.2)).mem_iff, List.map_cons]
  rw [take_one e] at q
  rcases List.mem_append.mp q with z | z
  ·exact List.mem_cons_of_mem _ (g.all p z)
  ·rw [List.mem_singleton.mp z]; exact List.mem_cons_self
section
variable {P : Program} {w : World} {A : Around} {E : Value → Shared → Prop} {s : Shared}
theorem SetN.at {h h' : Heap} {a : Addr} {L : LK} {es : Array (Int × Value)} {ep : Nat} {t : SetTable} (R : SetN w h a L es ep t) (up : ∀ o, h.get? a = some o → h'.get? a = some o) (is : ∀ p ∈ L, IsN h' p.2 p.1) : SetN w h' a L es ep t := by
 obtain ⟨o, e, r⟩ := R.ob
 exact ⟨⟨o, up o e, r⟩, R.rw, R.tb, R.nd, is, R.led, R.rm, R.fw⟩
end
mutual
def keyP : PyData → NestedKey
 | .none => .none
 | .bool b => .num (if b = true then 1 else 0)
 | .int i => .num i
 | .str x => .text x
 | .list _ => .none
 | .tuple xs => .tup (keyPs xs)
 | .dict _ => .none
def keyPs : List PyData → List NestedKey
 | [] => []
 | x :: xs => keyP x :: keyPs xs
end
end PL.TN
namespace PL
open PySem PySem.Spec PyProof.Rows L2 LW
open Classical in
noncomputable def nubC {α : Type} : List α → List α
 | [] => []
 | x :: xs => if x ∈ xs then nubC xs else x :: nubC xs
theorem mem_nubC {α : Type} {x : α} : ∀ {xs : List α}, x ∈ nubC xs ↔ x ∈ xs
 | [] => Iff.rfl
 | y :: xs => by
  unfold nubC
  split
  ·rename_i h
   rw [mem_nubC, List.mem_cons]
   exact ⟨.inr, fun z => z.elim (fun e => e ▸ h) id⟩
  ·rw [List.mem_cons, List.mem_cons, mem_nubC]
theorem wbo {α : Type} : ∀ xs : List α, (nubC xs).Nodup
 | [] => List.nodup_nil
 | y :: xs => by
  unfold nubC
  split
  ·exact wbo xs
  ·rename_i h
   exact List.nodup_cons.mpr ⟨fun m => h (mem_nubC.mp m), wbo xs⟩
end PL
namespace PL
open PySem PySem.Spec PyProof.Rows L2
end PL
namespace PL
open PySem PySem.Spec PyProof.Rows L2
end PL
namespace LW
open PySem L2 PL
structure Sta where
 told : List Str
 num : Int
 wait : Str
 stop : Bool
deriving DecidableEq
inductive Part where
 | value
 | place (j : Nat)
 | stop
 | wish (i : Nat) (v : Str)
deriving DecidableEq
def Sta.d (s : Sta) : D := .tup [.tup (s.told.map zs), zi s.num, zs s.wait, zb s.stop]
def sta0 : Sta := ⟨[], -1, "", false⟩
def waitW (tb : Tb) (s : Sta) : Option Wx := if s.wait = "" then none else tb.ws.find? (fun o => o.name == s.wait)
def wants (tb : Tb) (s : Sta) : Bool := match waitW tb s with
 | some o => !o.may
 | none => false
def setsL {α : Type} (xs : List α) : List (List α) := xs.foldl (fun acc x => acc ++ acc.map fun y => y ++ [x]) [[]]
def nmsI (ws : List Wx) (is : List Nat) : List Str := is.map (nmW ws)
def subB (xs ys : List Str) : Bool := xs.all fun z => inW z ys
def okSet (tb : Tb) (s : Sta) (is : List Nat) : Bool := (subB s.told (nmsI tb.ws is) && keptN tb (nmsI tb.ws is)) && (!s.stop || decide (is.length = s.told.length))
def goodB (tb : Tb) (s : Sta) : Bool := (setsL (List.range tb.ws.length)).any (okSet tb s)
def lackAll (ps : List Pl) (a b : Nat) : Bool := ((ps.drop a).take (b - a)).all fun p => p.o.lack
def laidC (ps : List Pl) (num : Int) (w : Str) (j : Nat) : Bool := match ps[j]? with
 | none => false
 | some p => (p.k.holds w && (decide (num < (j : Int)) || (decide (num = (j : Int)) && p.o.again))) && lackAll ps (num + 1).toNat j
def laidN (ps : List Pl) (num : Int) (w : Str) (n : Nat) : List Nat := (List.range n).filter (laidC ps num w)
def laidM (tb : Tb) (s : Sta) (w : Str) : List (Part × Sta) := (laidN tb.ps s.num w tb.ps.length).map fun j => (.place j, ⟨s.told, (j : Int), "", s.stop⟩)
def valueM (tb : Tb) (s : Sta) (w : Str) : List (Part × Sta) := match waitW tb s with
 | some o => (match o.kind with
  | some k => if k.holds w = true then [(.value, ⟨s.told, s.num, "", false⟩)] else []
  | none => [])
 | none => []
def toldS (tb : Tb) (s : Sta) (o : Wx) (v : Str) : Sta := ⟨(zj tb.ws).filter (fun n => inW n s.told || n == o.name), s.num, if o.kind.isSome = true ∧ v = "" then o.name else "", false⟩
def toldM (tb : Tb) (s : Sta) (w : Str) : List (Part × Sta) := match tellOf tb.ws w with
 | none => []
 | some (i, v) => match tb.ws[i]? with
  | none => []
  | some o => if (inW o.name s.told && !o.many) = true then [] else [(.wish i v, toldS tb s o v)]
def qay (tb : Tb) (s : Sta) (w : Str) : List (Part × Sta) :=
 if s.stop = true then laidM tb s w
 else if bareW w = true then valueM tb s w ++ (if wants tb s = true then [] else laidM tb s w)
 else if wants tb s = true then []
 else if w = "--" then [(.stop, ⟨s.told, s.num, "", true⟩)]
 else toldM tb s w
def yz (tb : Tb) (s : Sta) (w : Str) : List (Part × Sta) := (qay tb s w).filter fun m => goodB tb m.2
structure StOk (tb : Tb) (s : Sta) : Prop where
 td : s.told = (zj tb.ws).filter fun n => inW n s.told
 n0 : -1 ≤ s.num
 n1 : s.num < tb.ps.length
 w : s.wait = "" ∨ ∃ o ∈ tb.ws, o.name = s.wait ∧ o.kind.isSome = true ∧ s.wait ∈ s.told
def barB (tb : Tb) (fs : List Str) : Bool := tb.bs.any fun p => inW p.1 fs && inW p.2 fs
theorem StOk.nd {tb : Tb} {s : Sta} (hn : (zj tb.ws).Nodup) (h : StOk tb s) : s.told.Nodup := by
 rw [h.td]; exact List.Nodup.sublist List.filter_sublist hn
theorem xb4 {ns told : List Str} (h : told = ns.filter fun n => inW n told) (p : Str → Bool) : ns.filter (fun n => inW n (ns.filter fun n => inW n told || p n)) = ns.filter fun n => inW n told || p n := by
 refine List.filter_congr fun n m => ?_
 rw [Bool.eq_iff_iff, inW_iff, List.mem_filter]
 exact ⟨fun z => z.2, fun z => ⟨m, z⟩⟩
theorem laidC_lt {ps : List Pl} {num : Int} {w : Str} {j : Nat} (h : laidC ps num w j = true) : j < ps.length ∧ num ≤ j := by
 unfold laidC at h
 split at h
 ·cases h
 ·rename_i p hp
  refine ⟨(List.getElem?_eq_some_iff.mp hp).1, ?_⟩
  rw [Bool.and_eq_true, Bool.and_eq_true, Bool.or_eq_true, Bool.and_eq_true, decide_eq_true_eq, decide_eq_true_eq] at h
  omega
theorem moves_ok {tb : Tb} {s : Sta} {w : Str} (h : StOk tb s) : ∀ m ∈ qay tb s w, StOk tb m.2 := fun m q => by
 have laid : ∀ m ∈ laidM tb s w, StOk tb m.2 := fun m q => by
  obtain ⟨j, hj, rfl⟩ := List.mem_map.mp q
  have := laidC_lt (List.mem_filter.mp hj).2
  exact ⟨h.td, by show (-1 : Int) ≤ (j : Int); omega, by show (j : Int) < _; omega, .inl rfl⟩
 unfold qay at q
 split at q
 ·exact laid m q
 split at q
 ·rcases List.mem_append.mp q with q | q
  ·unfold valueM at q
   split at q
   ·split at q
    ·split at q
     ·rw [List.mem_singleton.mp q]; exact ⟨h.td, h.n0, h.n1, .inl rfl⟩
     ·exact absurd q List.not_mem_nil
    ·exact absurd q List.not_mem_nil
   ·exact absurd q List.not_mem_nil
  ·split at q
   ·exact absurd q List.not_mem_nil
   ·exact laid m q
 split at q
 ·exact absurd q List.not_mem_nil
 split at q
 ·rw [List.mem_singleton.mp q]; exact ⟨h.td, h.n0, h.n1, .inl rfl⟩
 ·unfold toldM at q
  split at q
  ·exact absurd q List.not_mem_nil
  rename_i i v hiv
  split at q
  ·exact absurd q List.not_mem_nil
  rename_i o ho
  split at q
  ·exact absurd q List.not_mem_nil
  rw [List.mem_singleton.mp q]
  have hom := List.mem_of_getElem? ho
  refine ⟨(xb4 h.td _).symm, h.n0, h.n1, ?_⟩
  have hw : (toldS tb s o v).wait = if o.kind.isSome = true ∧ v = "" then o.name else "" := rfl
  by_cases c : o.kind.isSome = true ∧ v = ""
  ·rw [if_pos c] at hw
   right
   refine ⟨o, hom, hw.symm, c.1, ?_⟩
   show (toldS tb s o v).wait ∈ _
   rw [hw]
   exact List.mem_filter.mpr ⟨List.mem_map_of_mem hom, by rw [beq_self_eq_true, Bool.or_true]⟩
  ·rw [if_neg c] at hw
   exact .inl hw
theorem jbz {tb : Tb} {s : Sta} {w : Str} (h : StOk tb s) : ∀ m ∈ yz tb s w, StOk tb m.2 := fun m q => moves_ok h m (List.mem_filter.mp q).1
end LW
namespace LW
open PySem L2 PL
open PySem.W (alike alikeAll)
structure StS (s : Sta) : Prop where
 t : ∀ z ∈ s.told, okS z
 w : okS s.wait
theorem Sta.in_sh {s : Sta} (h : StS s) : ∀ d ∈ [D.tup (s.told.map zs), zi s.num, zs s.wait, zb s.stop], Sh 1 d := fun d m => by
 simp only [List.mem_cons, List.not_mem_nil, or_false] at m
 rcases m with rfl | rfl | rfl | rfl
 ·exact Sh.tup (zs_sh h.t) (by decide)
 ·exact Sh.int.mono (by decide)
 ·exact (Sh.str h.w).mono (by decide)
 ·exact Sh.bl.mono (by decide)
theorem Sta.sh {s : Sta} (h : StS s) : Sh 2 s.d := Sh.tup (Sta.in_sh h) (by decide)
def Sta.pd (s : Sta) : PyData := .tuple [.tuple (s.told.map .str), .int s.num, .str s.wait, .bool s.stop]
theorem Sta.py {s : Sta} (h : StS s) : PL.py s.d = s.pd := by
 unfold Sta.d Sta.pd
 rw [waa fun d m => (Sta.in_sh h d m).s]
 show PyData.tuple [PL.py (.tup (s.told.map zs)), _, _, _] = _
 rw [py_strs h.t]; rfl
theorem ybc : ∀ xs : List Str, NestedKey.depthAll (xs.map NestedKey.text) = 0
 | [] => rfl
 | x :: xs => by rw [List.map_cons, NestedKey.depthAll, ybc xs]; rfl
def Sta.key (s : Sta) : NestedKey := .tup [.tup (s.told.map .text), .num s.num, .text s.wait, .num (if s.stop = true then 1 else 0)]
theorem Sta.al (s t : Sta) : alike s.pd t.pd = true := by
 unfold Sta.pd
 simp only [alike, alikeAll, xax, Bool.and_self, Bool.and_true]
theorem Sta.ev {s t : Sta} (h : PyData.eqv s.pd t.pd = true) : s = t := by
 unfold Sta.pd at h
 rw [yu] at h
 simp only [PyData.eqvAll, PyData.eqv, Bool.and_eq_true, Bool.and_true, beq_iff_eq, decide_eq_true_eq] at h
 obtain ⟨h1, h2, h3, h4⟩ := h
 obtain ⟨t1, n1, w1, b1⟩ := s
 obtain ⟨t2, n2, w2, b2⟩ := t
 have e1 := zal _ _ h1
 dsimp only at e1 h2 h3 h4
 subst e1 h2 h3 h4
 rfl
noncomputable def sortS (ss : List Sta) : List Sta := (nubC ss).mergeSort fun a b => dle a.d b.d
theorem mem_sortS {s : Sta} {ss : List Sta} : s ∈ sortS ss ↔ s ∈ ss := (List.mergeSort_perm _ _).mem_iff.trans mem_nubC
theorem nubC_perm {α : Type} {xs ys : List α} (m : ∀ s, s ∈ xs ↔ s ∈ ys) : (nubC xs).Perm (nubC ys) :=
 (List.perm_ext_iff_of_nodup (wbo xs) (wbo ys)).mpr fun s => (mem_nubC.trans (m s)).trans mem_nubC.symm
theorem dle_anti {s t : Sta} (hs : StS s) (ht : StS t) (h1 : dle s.d t.d = true) (h2 : dle t.d s.d = true) : s = t := by
 rw [wb0, Bool.not_eq_true'] at h1 h2
 have := toks_inj (x := PL.py s.d) (y := PL.py t.d) (by rw [Sta.py hs, Sta.py ht]; exact Sta.al s t) (PyProof.Rows.lex_total _ _ h2 h1)
 rw [Sta.py hs, Sta.py ht] at this
 exact Sta.ev this
theorem wb4 {xs ys : List Sta} (hx : ∀ s ∈ xs, StS s) (m : ∀ s, s ∈ xs ↔ s ∈ ys) : sortS xs = sortS ys := by
 refine List.Perm.eq_of_pairwise (le := fun a b => dle a.d b.d = true) (fun a b m1 m2 => dle_anti (hx a (mem_sortS.mp m1)) (hx b ((m b).mpr (mem_sortS.mp m2)))) ?_ ?_ ((List.mergeSort_perm _ _).trans ((nubC_perm m).trans (List.mergeSort_perm _ _).symm))
 ·exact List.pairwise_mergeSort (le := fun a b : Sta => dle a.d b.d) (fun _ _ _ => dle_tr) (fun a b => vb7 a.d b.d) (nubC xs)
 ·exact List.pairwise_mergeSort (le := fun a b : Sta => dle a.d b.d) (fun _ _ _ => dle_tr) (fun a b => vb7 a.d b.d) (nubC ys)
end LW
namespace LW
open PySem L2 PL
def addT (ws : List Wx) (told : List Str) (z : Str) : List Str := (zj ws).filter fun n => inW n told || n == z
def KeepS (tb : Tb) (told : List Str) : Prop := (∀ w ∈ tb.ws, w.must = true → w.name ∈ told) ∧ barB tb told = false ∧ ∀ p ∈ tb.ds, p.1 ∈ told → p.2 ∈ told
end LW
namespace LW
open PySem L2 PL
def EndF (tb : Tb) : Sta → List Str → Prop
 | s, [] => wants tb s = false ∧ KeepS tb s.told ∧ mclose tb.ps s.num = true
 | s, w :: r => ∃ m ∈ qay tb s w, EndF tb m.2 r
end LW
namespace PL
open PySem L2
end PL
namespace PL
open PySem L2 PySem.Spec PyProof.Rows
structure XSt (K : PySem.W.Frag) (C a : Addr) (Cs Hs : Hp) (fs : List (Str × D)) (C0 H : Hp) (σ : Sl) (ρ : En) : Prop where
 env : EnvOk K C0 H σ ρ
 no : ∀ b, ¬ kf σ ρ b
 step : Step Cs Hs C0 H (fun b => b = a)
 ca : C0 a = none
 st : (H a = some (exo a C none) ∧ fs = []) ∨ ∃ dx gs, H a = some (exo a C (some dx)) ∧ H dx = some (exd dx gs) ∧ dx ≠ a ∧ C0 dx = none ∧ Hs dx = none ∧ Isf K C0 fs gs
section
variable {K : PySem.W.Frag} {C a : Addr} {Cs Hs C0 H C1 H1 : Hp} {fs : List (Str × D)} {σ : Sl} {ρ ρ1 : En}
theorem XSt.ha (x : XSt K C a Cs Hs fs C0 H σ ρ) : ∃ d, H a = some (exo a C d) := by
 rcases x.st with ⟨h, _⟩ | ⟨dx, gs, h, _⟩
 ·exact ⟨_, h⟩
 ·exact ⟨_, h⟩
end
end PL
namespace PL
open PySem L2 PySem.Spec PyProof.Rows
end PL
namespace PL
open PySem L2 PySem.Spec PyProof.Rows
end PL
namespace PL
open PySem L2 PySem.Spec PyProof.Rows
end PL
namespace PL
open PySem L2 PySem.Spec PyProof.Rows
def At2 (σ : Sl) (js : List Nat) (xs : List V) : Prop := xs.length = js.length ∧ ∀ k j : Nat, js[k]? = some j → ∃ x, xs[k]? = some x ∧ σ[j]? = some (some x)
theorem At2.tl {σ : Sl} {j : Nat} {js : List Nat} {x : V} {xs : List V} (h : At2 σ (j :: js) (x :: xs)) : σ[j]? = some (some x) ∧ At2 σ js xs := by
 refine ⟨?_, by have := h.1; simp at this; exact this, fun k i hk => ?_⟩
 ·obtain ⟨y, h1, h2⟩ := h.2 0 j rfl
  simp at h1
  rw [h1]; exact h2
 ·obtain ⟨y, h1, h2⟩ := h.2 (k + 1) i (by simpa using hk)
  exact ⟨y, by simpa using h1, h2⟩
theorem At2.mk {σ : Sl} {j : Nat} {js : List Nat} {x : V} {xs : List V} (h0 : σ[j]? = some (some x)) (h : At2 σ js xs) : At2 σ (j :: js) (x :: xs) := by
 refine ⟨by simp [h.1], fun k i hk => ?_⟩
 cases k with
 | zero => simp at hk; subst hk; exact ⟨x, rfl, h0⟩
 | succ k => obtain ⟨y, h1, h2⟩ := h.2 k i (by simpa using hk); exact ⟨y, by simpa using h1, h2⟩
end PL
namespace PL
open PySem L2 PySem.Spec PyProof.Rows
def ownL1 (ρ : En) (j : Nat) : Bool := match ρ[j]? with
 | some (.own (.lst _)) => true
 | _ => false
def sClr (i : Nat) (js : List Nat) : P Fl := fun ρ => if js.all (ownL1 ρ) = true ∧ i < ρ.length then some (.ok .next (ρ.set i .no)) else none
def gShelf (i : Nat) : List Nat → List Nat → P Fl → P Fl
 | [], js, g => sSeq (sClr i js) g
 | j :: r, js, g => sSeq (xba j (fLst vNil)) (gShelf i r js g)
end PL
namespace PL
open PySem L2 PySem.Spec PyProof.Rows
section
variable {QF : Fl → En → Prop} {QR : Rv → En → Prop} {E : Exn → En → Prop} {ρ : En} {i : Nat} {js : List Nat} {fl fe : PL.P Rv} {g : PL.P Fl}
theorem wbv {j : Nat} {r : List Nat} : wp (gShelf i (j :: r) js g) QF E ρ ↔ wp (sSeq (xba j (fLst vNil)) (gShelf i r js g)) QF E ρ := Iff.rfl
end
end PL
namespace PL
open PySem L2 PySem.Spec PyProof.Rows
end PL
namespace LW
open PySem L2 PL TL
abbrev nS (i : Int) : Str := Str.ofString (toString i)
def Kd.tx : Kd → Str
 | .any => "any"
 | .num a b => (("number" : Str) ++ ("(" : Str) ++ Txt.join "," [nS a, nS b]) ++ (")" : Str)
 | .amg ws => (("among(" : Str) ++ Txt.join "," ws) ++ (")" : Str)
 | .beg z => (("begins" : Str) ++ ("(" : Str) ++ Txt.join "," [z]) ++ (")" : Str)
def ltW : Option Str → List Str
 | none => []
 | some z => [("-" : Str) ++ z]
def kdW (may : Bool) : Option Kd → List Str
 | none => []
 | some k => (if may = true then [("maybe" : Str)] else []) ++ [k.tx]
def Wx.words (w : Wx) : List Str := ((([("wish" : Str), w.name] ++ ltW w.letter) ++ kdW w.may w.kind) ++ (if w.many = true then [("many" : Str)] else [])) ++ (if w.must = true then [("must" : Str)] else [])
def Pl.words (p : Pl) : List Str := ["place", p.name, p.k.tx, p.o.s]
inductive Row where
 | w (w : Wx)
 | p (p : Pl)
 | b (p : Str × Str)
 | n (p : Str × Str)
def Row.words : Row → List Str
 | .w x => x.words
 | .p x => x.words
 | .b q => ["bar", q.1, q.2]
 | .n q => ["need", q.1, q.2]
def Tb.rows (tb : Tb) : List Row := tb.ws.map Row.w ++ tb.ps.map Row.p ++ tb.bs.map Row.b ++ tb.ds.map Row.n
def lineS (r : List Str) : Str := Txt.join " " r ++ ("\n" : Str)
def textS (rs : List (List Str)) : Str := Txt.join "" (rs.map lineS)
def Tb.text (tb : Tb) : Str := textS (tb.rows.map Row.words)
theorem zbz {S : List Nat} {c : Nat} : ∀ {ps : List (List Nat)}, c ∈ joinL S ps → c ∈ S ∨ ∃ p ∈ ps, c ∈ p
 | [], h => by cases h
 | [p], h => .inr ⟨p, List.mem_cons_self, h⟩
 | p :: q :: r, h => by
  rcases List.mem_append.mp h with h | h
  ·exact .inr ⟨p, List.mem_cons_self, h⟩
  ·rcases List.mem_append.mp h with h | h
   ·exact .inl h
   ·rcases zbz h with h | ⟨z, h1, h2⟩
    ·exact .inl h
    ·exact .inr ⟨z, List.mem_cons_of_mem _ h1, h2⟩
end LW
namespace PL
open PySem L2
end PL
namespace PL
open PySem L2
end PL
namespace LW
open PySem L2 PL TL
abbrev Ln := List Str × Option Row
def Ln.ws (l : Ln) : List Str := match l.2 with
 | none => []
 | some x => x.words
end LW
namespace PL
open PySem L2
end PL
namespace LW
open PySem L2 PL
end LW
namespace PL
open PySem PySem.Spec PyProof.Rows L2
end PL
namespace PL
open PySem PySem.Spec PyProof.Rows L2
structure DefAtA (K : PySem.W.Frag) (g x : Str) (st : Stmt) (f : Addr) : Prop where
 at_ : PySem.W.nsIn K mainGlobals g = some (some (.ref f))
 kp : PySem.W.keepIn K (.ref f) = true
 ex : ∃ (oc : Value) (od : Option Addr) (dc pm : Value) (an : Option Addr) (cd ct : Value) (sl : Array (Option Value)) (kV : Value), K.lookup f = some ⟨oc, od, .func (PySem.W.fnOf x x (defArgs st) (defBody st) (defScope st) .none kV dc pm an cd ct), sl⟩ ∧ PySem.W.codeIn K cd x = true
theorem DefAtA.of {K : PySem.W.Frag} {g x : Str} {st : Stmt} {f : Addr} {oc : Value} {od : Option Addr} {dc pm : Value} {an : Option Addr} {cd ct : Value} {sl : Array (Option Value)} {kV : Value} (a : PySem.W.nsIn K mainGlobals g = some (some (.ref f))) (l : K.lookup f = some ⟨oc, od, .func (PySem.W.fnOf x x (defArgs st) (defBody st) (defScope st) .none kV dc pm an cd ct), sl⟩) (c : PySem.W.codeIn K cd x = true) (k : PySem.W.keepIn K (.ref f) = true) : DefAtA K g x st f :=
 ⟨a, k, _, _, _, _, _, _, _, _, _, l, c⟩
noncomputable def DefAtA.fd {K : PySem.W.Frag} {g x : Str} {st : Stmt} {f : Addr} (a : DefAtA K g x st f) : FuncData := Classical.choose (show ∃ fd, Fun K x x st f fd from by
 obtain ⟨oc, od, dc, pm, an, cd, ct, sl, kV, l, c⟩ := a.ex
 exact ⟨_, fun_mk l c a.kp⟩)
theorem DefAtA.fn {K : PySem.W.Frag} {g x : Str} {st : Stmt} {f : Addr} (a : DefAtA K g x st f) : Fun K x x st f a.fd := Classical.choose_spec (show ∃ fd, Fun K x x st f fd from by
 obtain ⟨oc, od, dc, pm, an, cd, ct, sl, kV, l, c⟩ := a.ex
 exact ⟨_, fun_mk l c a.kp⟩)
end PL
namespace PL
open PySem PySem.Spec PyProof.Rows L2
structure Cl where
 u : Value
 i : Option Nat
 ts : TS
end PL
namespace PL
open PySem PySem.Spec PyProof.Rows L2
end PL
namespace PL
open PySem PySem.Spec PyProof.Rows L2
end PL
namespace PL
open PySem L2
end PL
namespace LW
open PySem L2 PL TL
end LW
namespace LW
open PySem L2 PL TL
end LW
namespace PL
open PySem L2 PySem.Spec PyProof.Rows
end PL
namespace PL
open PySem PySem.Spec PyProof.Rows L2
end PL
namespace PL
open PySem L2
end PL
namespace PL
open PySem L2 PySem.Spec PyProof.Rows
section
variable {X : Cx} {pins : List (Addr × Obj)} {σ : L2.St} {H : Hp} {s : Shared}
mutual
theorem nk_is (I : Inv X pins σ H s) : ∀ (d : D) (k : NestedKey) (v : V) (u : Value), nkD d = some k → Is X.K H d v → RelV v u → NestedIs s.heap k u
 | .s x, k, v, u, h, i, r => by
  cases is_s_iff.mp i
  cases x with
  | non => unfold nkD at h; cases h; cases r; exact .none
  | bl b => unfold nkD at h; cases h; cases r; exact .bool rfl
  | int j => unfold nkD at h; cases h; obtain ⟨t, rfl⟩ := r; exact .int j t
  | str z => unfold nkD at h; cases h; obtain ⟨t, rfl⟩ := r; exact .text z t
  | _ => unfold nkD at h; cases h
 | .tup ds, k, v, u, h, i, r => by
  unfold nkD at h
  cases q : nkDs ds with
  | none => rw [q] at h; cases h
  | some ks =>
   rw [q] at h
   cases h
   obtain ⟨a, xs, rfl, hs, hi⟩ := y5 i
   cases r
   obtain ⟨its, rv, ⟨o, ho, hc, n, hd⟩, _⟩ := I.tuple hs
   exact .tup ho hc hd (by simpa using nks_is I ds ks xs its q hi rv)
 | .lst ds, k, v, u, h, i, r => by unfold nkD at h; cases h
 | .obj c fs, k, v, u, h, i, r => by unfold nkD at h; cases h
 | .ro ds, k, v, u, h, i, r => by unfold nkD at h; cases h
 | .lam f φ z ks, k, v, u, h, i, r => by unfold nkD at h; cases h
 | .dic kvs, k, v, u, h, i, r => by unfold nkD at h; cases h
 | .exc c b fs, k, v, u, h, i, r => by unfold nkD at h; cases h
 | .lab _ _, k, v, u, h, i, r => by unfold nkD at h; cases h
theorem nks_is (I : Inv X pins σ H s) : ∀ (ds : List D) (ks : List NestedKey) (vs : List V) (us : List Value), nkDs ds = some ks → Iss X.K H ds vs → Vals vs us → NestedAll s.heap ks us
 | [], ks, vs, us, h, i, r => by
  unfold nkDs at h
  cases h
  cases iss_nil_iff.mp i
  cases r
  exact .nil
 | d :: ds, ks, vs, us, h, i, r => by
  obtain ⟨x, t, rfl, h1, h2⟩ := iss_cons_iff.mp i
  unfold nkDs at h
  cases q1 : nkD d with
  | none => rw [q1] at h; cases h
  | some k =>
   cases q2 : nkDs ds with
   | none => rw [q1, q2] at h; cases h
   | some ks' =>
    rw [q1, q2] at h
    cases h
    cases r with
    | cons r1 r2 => exact .cons (nk_is I d k _ _ q1 h1 r1) (nks_is I ds ks' _ _ q2 h2 r2)
end
end
def NIs (K : PySem.W.Frag) (H : Hp) (k : NestedKey) (b : Addr) : Prop := k.depth ≤ 8 ∧ ∃ d, nkD d = some k ∧ Is K H d (.ref b)
theorem NIs.is {X : Cx} {pins : List (Addr × Obj)} {σ : L2.St} {H : Hp} {s : Shared} {k : NestedKey} {b : Addr} (I : Inv X pins σ H s) (h : NIs X.K H k b) : (nestedKind X.prog X.w).is s.heap k b := by
 obtain ⟨h1, d, h2, h3⟩ := h
 exact ⟨nk_is I d k _ _ h2 h3 rfl, h1⟩
theorem ndat_at {P P2 : Program} {w w2 : World} {H : Hp} {h : Heap} {a b : Addr} {xs : NEnt} (ok : ObjOk P2 w2 H h a (.ext (NDat P w b xs))) : b = a := by
 obtain ⟨p, _, st⟩ := ok
 refine Classical.byContradiction fun hne => ?_
 let fr : Obj := { cls := .none, data := .freed }
 let h2 : Heap := { h with objs := h.objs.setIfInBounds b fr }
 have hb : h2.get? b = none := by
  unfold Heap.get?
  show (match (h.objs.setIfInBounds b fr)[b]? with | some ⟨_, _, .freed, _⟩ => none | o => o) = none
  by_cases c : b < h.objs.size
  ·rw [Array.getElem?_setIfInBounds_self_of_lt c]
  ·rw [Array.getElem?_eq_none (by rw [Array.size_setIfInBounds]; exact Nat.le_of_not_lt c)]
 have ha : ∀ o, h.get? a = some o → h2.get? a = some o := fun o e => by
  unfold Heap.get? at e ⊢
  show (match (h.objs.setIfInBounds b fr)[a]? with | some ⟨_, _, .freed, _⟩ => none | o => o) = some o
  rw [Array.getElem?_setIfInBounds_ne hne]
  exact e
 obtain ⟨o, es, ep, g, _⟩ := st h h2 p ha
 rw [hb] at g
 cases g
def NRd (K : PySem.W.Frag) (H : Hp) (P : Program) (w : World) (a : Addr) (xs : NEnt) : Prop := ∃ b, H a = some (.ext (NDat P w b xs)) ∧ (b == sysModules) = false ∧ (xs.map (·.1)).Nodup ∧ ∀ y ∈ xs, NIs K H y.1 y.2.1
theorem NRd.of {X : Cx} {pins : List (Addr × Obj)} {σ : L2.St} {H : Hp} {s : Shared} {a : Addr} {xs : NEnt} (I : Inv X pins σ H s) (h : NRd X.K H X.prog X.w a xs) : (a == sysModules) = false ∧ s.heap.DictOfH (nestedKind X.prog X.w) a xs ∧ H a = some (.ext (NDat X.prog X.w a xs)) := by
 obtain ⟨b, h1, h2, h3, h4⟩ := h
 have e := ndat_at (I.hok a _ h1)
 subst e
 obtain ⟨⟨o, es, ep, g1, g2, g3, g4⟩, _⟩ := I.hok b _ h1
 exact ⟨h2, ⟨o, es, ep, g1, g2, g3, g4, fun y m => (h4 y m).is I, h3⟩, h1⟩
end PL
namespace PL
open PySem L2 PySem.Spec PyProof.Rows
def nHas (kvs : List (D × D)) (k : NestedKey) : Bool := kvs.any fun kv => decide (nkD kv.1 = some k)
def nSet (kvs : List (D × D)) (kd : D) (k : NestedKey) (v : D) : List (D × D) :=
 if nHas kvs k = true then kvs.map (fun kv => if nkD kv.1 = some k then (kv.1, v) else kv) else kvs ++ [(kd, v)]
section
variable {K : PySem.W.Frag} {C H : Hp}
theorem NKs.length : ∀ {ds : List (D × D)} {xs : NEnt}, NKs K C ds xs → xs.length = ds.length
 | [], xs, h => by cases (show xs = [] from h); rfl
 | (a, b) :: ds, xs, h => by
  obtain ⟨k, ka, u, v, t, rfl, _, _, _, _, _, h7⟩ := h
  rw [List.length_cons, List.length_cons, NKs.length h7]
theorem NKs.has {k : NestedKey} : ∀ {ds : List (D × D)} {xs : NEnt}, NKs K C ds xs → (atKey xs k).isSome = nHas ds k
 | [], xs, h => by cases (show xs = [] from h); rfl
 | (a, b) :: ds, xs, h => by
  obtain ⟨k2, ka, u, v, t, rfl, h2, _, _, _, _, h7⟩ := h
  have ih := NKs.has (k := k) h7
  unfold atKey nHas at ih ⊢
  by_cases e : k2 = k
  ·simp [List.find?_cons, e, h2]
  ·simp only [List.find?_cons, List.any_cons, h2, Option.some.injEq, e, decide_false, Bool.false_or]
   exact ih
theorem NKs.set {k : NestedKey} {kd vd : D} {ka : Addr} {v : V} {u : Value} (hk : nkD kd = some k) (hd : k.depth ≤ 8) (hi : Is K C kd (.ref ka)) (hr : RelV v u) (hv : Is K C vd v) {ds : List (D × D)} {xs : NEnt} (h : NKs K C ds xs) : NKs K C (nSet ds kd k vd) (storedH xs k ka u) := by
 have upd : ∀ {ds : List (D × D)} {xs : NEnt}, NKs K C ds xs → NKs K C (ds.map fun kv => if nkD kv.1 = some k then (kv.1, vd) else kv) (xs.map (putAt k u)) := fun {ds} => by
  induction ds with
  | nil => intro xs h; cases (show xs = [] from h); rfl
  | cons p ds ih =>
   intro xs h
   obtain ⟨a, b⟩ := p
   obtain ⟨k2, ka2, u2, v2, t, rfl, h2, h3, h4, h5, h6, h7⟩ := h
   rw [List.map_cons, List.map_cons]
   by_cases e : k2 = k
   ·have e1 : putAt k u (k2, ka2, u2) = (k2, ka2, u) := by unfold putAt; rw [if_pos e]
    rw [e1, if_pos (by rw [h2, e])]
    exact ⟨k2, ka2, u, v, _, rfl, h2, h3, h4, hr, hv, ih h7⟩
   ·have e1 : putAt k u (k2, ka2, u2) = (k2, ka2, u2) := by unfold putAt; rw [if_neg e]
    rw [e1, if_neg (by rw [h2]; exact fun z => e (Option.some.inj z))]
    exact ⟨k2, ka2, u2, v2, _, rfl, h2, h3, h4, h5, h6, ih h7⟩
 have snoc : ∀ {ds : List (D × D)} {xs : NEnt}, NKs K C ds xs → NKs K C (ds ++ [(kd, vd)]) (xs ++ [(k, ka, u)]) := fun {ds} => by
  induction ds with
  | nil => intro xs h; cases (show xs = [] from h); exact ⟨k, ka, u, v, [], rfl, hk, hd, hi, hr, hv, rfl⟩
  | cons p ds ih =>
   intro xs h
   obtain ⟨a, b⟩ := p
   obtain ⟨k2, ka2, u2, v2, t, rfl, h2, h3, h4, h5, h6, h7⟩ := h
   exact ⟨k2, ka2, u2, v2, _, rfl, h2, h3, h4, h5, h6, ih h7⟩
 unfold nSet storedH
 rw [NKs.has h]
 by_cases q : nHas ds k = true
 ·rw [if_pos q, if_pos q]; exact upd h
 ·rw [if_neg q, if_neg q]; exact snoc h
end
def fNNew (P : Program) (w : World) : PL.P Rv := fun ρ => some (.ok (.new (.dn P w [])) ρ)
def nkOk (d : D) : Option NestedKey := match d with
 | .tup ds => (match nkD (.tup ds) with
  | some k => if k.depth ≤ 8 then some k else none
  | none => none)
 | _ => none
section
variable {K : PySem.W.Frag} {W : WX} {fx : List Nat} {P : Program} {w : World}
theorem nkOk_some {d : D} {k : NestedKey} (h : nkOk d = some k) : nkD d = some k ∧ k.depth ≤ 8 ∧ ∃ ds, d = .tup ds := by
 unfold nkOk at h
 cases d with
 | tup ds =>
  dsimp only at h
  cases q : nkD (.tup ds) with
  | none => rw [q] at h; cases h
  | some k2 =>
   rw [q] at h
   dsimp only at h
   by_cases c : k2.depth ≤ 8
   ·rw [if_pos c] at h; cases h; exact ⟨rfl, c, ds, rfl⟩
   ·rw [if_neg c] at h; cases h
 | _ => cases h
end
end PL
namespace PL
open PySem L2 PySem.Spec PyProof.Rows
section
variable {α : Type} {Q : α → En → Prop} {QR : Rv → En → Prop} {QF : Fl → En → Prop} {E : Exn → En → Prop} {ρ : En} {P : Program} {w : World}
theorem wp_nnew : wp (fNNew P w) QR E ρ ↔ QR (.new (.dn P w [])) ρ := Iff.rfl
end
end PL
namespace PL
open PySem L2 PySem.Spec PyProof.Rows
end PL
namespace PL
open PySem L2 PySem.Spec PyProof.Rows
section
variable {K : PySem.W.Frag} {W : WX} {P : Program} {w : World}
theorem EnvOk.cut {σ : Sl} {C H : Hp} {ρ : En} (e : EnvOk K C H σ ρ) (i : Nat) : EnvOk K C H σ (ρ.set i .no) := by
 have old : ∀ (j : Nat) (c : Cell), (ρ.set i .no)[j]? = some c → c = .no ∨ ρ[j]? = some c := fun j c h => by
  by_cases hj : i = j
  ·subst hj
   have : i < (ρ.set i .no).length := (List.getElem?_eq_some_iff.mp h).1
   rw [List.length_set] at this
   rw [List.getElem?_set_self this] at h
   cases h
   exact .inl rfl
  ·rw [List.getElem?_set_ne hj] at h
   exact .inr h
 refine ⟨by rw [List.length_set]; exact e.len, e.ext, fun j c h => ?_, fun j k m n a h1 h2 => ?_, e.tab⟩
 ·rcases old j c h with rfl | h'
  ·have hl : j < ρ.length := by have := (List.getElem?_eq_some_iff.mp h).1; rwa [List.length_set] at this
   obtain ⟨v, hv, _⟩ := e.cell j _ (List.getElem?_eq_getElem hl)
   exact ⟨v, hv, True.intro⟩
  ·exact e.cell j c h'
 ·rcases old j _ h1 with z | h1'
  ·cases z
  ·rcases old k _ h2 with z | h2'
   ·cases z
   ·exact e.inj j k m n a h1' h2'
theorem NKs.at {C : Hp} : ∀ {ds : List (D × D)} {xs : NEnt} {i : Nat} {d : D × D} {y : NestedKey × Addr × Value}, NKs K C ds xs → ds[i]? = some d → xs[i]? = some y → Is K C d.1 (.ref y.2.1) ∧ ∃ v, RelV v y.2.2 ∧ Is K C d.2 v
 | [], xs, i, d, y, h, h1, h2 => by simp at h1
 | (a, b) :: ds, xs, i, d, y, h, h1, h2 => by
  obtain ⟨k, ka, u, v, t, rfl, _, _, h4, h5, h6, h7⟩ := h
  cases i with
  | zero =>
   simp only [List.getElem?_cons_zero, Option.some.injEq] at h1 h2
   subst h1; subst h2
   exact ⟨h4, v, h5, h6⟩
  | succ j =>
   simp only [List.getElem?_cons_succ] at h1 h2
   exact NKs.at h7 h1 h2
def keysN (kvs : List (D × D)) : List D := kvs.map (·.1)
end
section
variable {QDs : List D → En → Prop} {QN : List (D × D) → En → Prop} {E : Exn → En → Prop} {ρ : En} {P : Program} {w : World}
def pinNQ (P : Program) (w : World) (i : Nat) (Q : List (D × D) → En → Prop) (ρ : En) : Cell → Prop
 | .own (.dn P' w' kvs) => (P' = P ∧ w' = w) ∧ Q kvs (ρ.set i .no)
 | _ => False
def wpPinN (P : Program) (w : World) (ρ : En) (r : Rv) (Q : List (D × D) → En → Prop) : Prop := match r with
 | .new (.dn P' w' kvs) => (P' = P ∧ w' = w) ∧ Q kvs ρ
 | .bor i => atS ρ i (pinNQ P w i Q ρ)
 | _ => False
theorem qbh {i : Nat} : wpPinN P w ρ (.bor i) QN ↔ atS ρ i (pinNQ P w i QN ρ) := Iff.rfl
end
end PL
namespace PL
open PySem PySem.Spec PyProof.Rows L2 LW
end PL
namespace PL
open PySem PySem.Spec PyProof.Rows L2
section
variable {K : PySem.W.Frag} {W : WX} {P : Program} {w : World}
theorem NKs.keys {C : Hp} : ∀ {ds : List (D × D)} {xs : NEnt}, NKs K C ds xs → (keysN ds).map nkD = (xs.map (·.1)).map some
 | [], xs, h => by cases (show xs = [] from h); rfl
 | (a, b) :: ds, xs, h => by
  obtain ⟨k, ka, u, v, t, rfl, h2, _, h4, h5, h6, h7⟩ := h
  show nkD a :: (keysN ds).map nkD = some k :: (t.map (·.1)).map some
  rw [h2, NKs.keys h7]
theorem NKs.nd {C : Hp} {ds : List (D × D)} {xs : NEnt} (h : NKs K C ds xs) (n : (xs.map (·.1)).Nodup) : (keysN ds).Nodup := by
 have h1 : ((keysN ds).map nkD).Nodup := by
  rw [h.keys]
  exact List.Pairwise.map _ (fun a b c z => c (Option.some.inj z)) n
 exact List.Pairwise.of_map nkD (fun x y ne e => ne (by rw [e])) h1
end
end PL
namespace PL.SX
open PySem PySem.Calls PyProof.Rows PySem.Spec L2
end PL.SX
namespace PL
open PySem PySem.Spec PyProof.Rows L2 LW
end PL
namespace PL
open PySem L2 PySem.Spec PyProof.Rows
end PL
namespace PL
open PySem L2 PySem.Spec PyProof.Rows
end PL
namespace SG
open PySem L2 PL LW
local macro_rules | `(tactic| walk_at "w") => `(tactic| (try simp only [PL.wp_seq, PL.wp_set, PL.zbk, PL.ybr, PL.wp_op, PL.wp_un, PL.wp_var, PL.wp_c, PL.ka8, PL.va8, PL.za3, PL.ja3, PL.wa2, PL.y9, PL.qa3, PL.ya3, PL.va3, PL.wa3, PL.ka7, PL.za7, PL.xbm, PL.zbm, PL.ya7, PL.va7, PL.za4, PL.kbo, PL.vbo, PL.ka4, PL.jbk, PL.ja2, PL.jbl, PL.wp_brk, PL.ybl, PL.vbl, PL.qa7, PL.yar, PL.yag, PL.vag, PL.wag, PL.kaq, PL.xaq, PL.jap, PL.kap, PL.zap, List.set_cons_zero, List.set_cons_succ, List.length_cons, List.length_nil, PL.addD, PL.subD, PL.va1, PL.mulD, PL.modD, PL.kb0, PL.wp_run, List.cons_append, List.nil_append, List.replicate, List.getElem?_cons_zero, List.getElem?_cons_succ, PL.xbl, PL.yap, PL.qah, PL.qa4, PL.xbr, PL.kbr, PL.isB_bl, PL.wbr, PL.wp_call, PL.qam, PL.qbk, PL.wp_ud, PL.wp_um, PL.van, PL.wan, PL.yan, PL.was, PL.jat, PL.qat, PL.qa8, PL.za8, PL.ja8, PL.wp_cb, PL.wp_nil, PL.wbl, PL.zao, PL.vam, PL.wbj, PL.qa2, PL.wp_tup, PL.wp_lst, PL.xak, PL.wp_and, PL.wp_or, PL.wp_not, PL.jbm, PL.wp_orV, PL.wbm, PL.qbl, PL.wp_ifE, PL.ya2, PL.wp_m1, PL.wp_zno, PL.wp_zat, PL.wp_sl, PL.ybv, PL.jam, PL.wp_ext, PL.zbl, PL.zaf, PL.qaf, PL.wam, PL.jaf, PL.xbk, PL.zw, PL.ja4, PL.ka3, PL.ka6, PL.qbs, PL.kao, PL.xao, PL.vax, PL.xbv, PL.aT_tup, PL.ya8, PL.zbv, PL.xaf, PL.kaf, PL.zan, PL.jan, PL.ya5, PL.wa5, PL.kbq, PL.va5, PL.zbs, PL.xbp, PL.neD_bl, PL.lt_int, PL.lt_str, PL.le_int, PL.gt_int, PL.ge_int, PL.wbp, PL.ybp, PL.ka5, PL.za5, PL.zbq, PL.ybm, PL.vbm, PL.sl_lst, PL.sl_tup, PL.sl_ro, PL.sl_str, PL.neg_int, PL.is_bl, PL.jaq, PL.is_none, PL.w5, PL.qa5, PL.none_int, PL.none_str, PL.jbp, PL.ja5, PL.wa4, PL.kbu, PL.wp_aug, PL.vbu, PL.kan, PL.yaf, PL.wa6, Nat.reduceAdd, Nat.reduceSub, Nat.zero_add, Bool.not_true, Bool.not_false, Bool.false_eq_true, if_true, if_false, PL.qbm, PL.wak, PL.yk, decide_eq_true_eq, PL.qbr, PL.ixw_ro, PL.ybq, PL.wbq, PL.atI_0, PL.atI_1, PL.atI_2, PL.ya6, PL.va6, PL.wap, PL.dv_dic, PL.kbs, PL.xbs, PL.dvQ_dk, PL.dvQ_dt, PL.vbs, PL.dGet_k, PL.dGet_t, PL.va2, PL.za2, PL.vaf, PL.za6, PL.kbk, PL.ja6, PL.wp_app,  PL.putQ_k, PL.putQ_t, PL.xam, PL.zam, PL.kam, PL.xbo, PL.inlQ_l, PL.vbk, List.take_succ_cons, List.take_zero, Option.map_some, Option.map_none, PL.kr, PL.v5, PL.zo, PL.wah]))
local macro_rules | `(tactic| walk_at "fin") => `(tactic| first | trivial | rfl | decide | (simp; done) | omega)
section
variable {Q : Rv → En → Prop} {QF : Fl → En → Prop} {E : Exn → En → Prop}
def w4 (a b : Str) : Bool := if a.length = b.length then strLt a b else decide (a.length < b.length)
def OkWd (w : Str) : Prop := okS w ∧ w.length ≤ 1000
def pr (w : Str) : D := .tup [zi w.length, zs w]
theorem pr_py {w : Str} (h : okS w) : py (pr w) = .tuple [.int w.length, .str w] := waa (fun d m => by
 simp only [List.mem_cons, List.not_mem_nil, or_false] at m
 rcases m with rfl | rfl
 ·exact zav
 ·exact shp_str.trans h)
def leA (a b : Str) : Bool := !w4 b a
def leS (a b : Str) : Bool := !strLt b a
theorem nt {P : Prop} [Decidable P] {b : Bool} (h : (!decide P) = b) : b = true ↔ ¬ P := by
 rw [← h]; simp
theorem leS_iff {a b : Str} : leS a b = true ↔ ¬ b.cps.toList < a.cps.toList := by unfold leS strLt; simp
theorem leS_trans (a b c : Str) (h1 : leS a b = true) (h2 : leS b c = true) : leS a c = true := by
 rw [leS_iff] at h1 h2 ⊢
 exact List.not_lt.mpr (List.le_trans (List.not_lt.mp h1) (List.not_lt.mp h2))
theorem leS_total (a b : Str) : (leS a b || leS b a) = true := by
 rw [Bool.or_eq_true, leS_iff, leS_iff]
 rcases List.le_total a.cps.toList b.cps.toList with h | h
 ·exact .inl (List.not_lt.mpr h)
 ·exact .inr (List.not_lt.mpr h)
theorem leA_iff {a b : Str} : leA a b = true ↔ a.length < b.length ∨ (a.length = b.length ∧ leS a b = true) := by
 unfold leA w4
 by_cases c : b.length = a.length
 ·rw [if_pos c]
  constructor
  ·intro h; exact .inr ⟨c.symm, h⟩
  ·rintro (h | ⟨_, h⟩)
   ·omega
   ·exact h
 ·rw [if_neg c]
  simp
  constructor
  ·intro h; exact .inl (by omega)
  ·rintro (h | ⟨h, _⟩) <;> omega
theorem leA_trans (a b c : Str) (h1 : leA a b = true) (h2 : leA b c = true) : leA a c = true := by
 rw [leA_iff] at h1 h2 ⊢
 rcases h1 with h1 | ⟨h1, h3⟩
 ·rcases h2 with h2 | ⟨h2, h4⟩
  ·exact .inl (by omega)
  ·exact .inl (by omega)
 ·rcases h2 with h2 | ⟨h2, h4⟩
  ·exact .inl (by omega)
  ·exact .inr ⟨by omega, leS_trans a b c h3 h4⟩
theorem leA_total (a b : Str) : (leA a b || leA b a) = true := by
 rw [Bool.or_eq_true, leA_iff, leA_iff]
 rcases Nat.lt_trichotomy a.length b.length with h | h | h
 ·exact .inl (.inl h)
 ·have := leS_total a b
  rw [Bool.or_eq_true] at this
  rcases this with z | z
  ·exact .inl (.inr ⟨h, z⟩)
  ·exact .inr (.inr ⟨h.symm, z⟩)
 ·exact .inr (.inl h)
end
end SG
namespace SG
open PySem L2 PL LW
abbrev sgn (c : Nat) : Str := ⟨#[c]⟩
end SG
namespace SG
open PySem L2 PL LW
theorem sg_mem {z : Str} {c : Nat} (h : inS z c = true) : c ∈ z.cps.toList := Array.mem_toList_iff.mpr (Array.contains_iff.mp h)
end SG
namespace SG
open PySem L2 PL LW
theorem kaw {w : Str} (h : goodW w = true) : (1 ≤ w.length ∧ w.length ≤ 60) ∧ wo signsS w = true := by
 unfold goodW at h
 rw [Bool.and_eq_true, Bool.and_eq_true, decide_eq_true_iff, decide_eq_true_iff] at h
 exact h
theorem jb5 : ∀ c ∈ signsS.cps.toList, c < 128 := by decide +kernel
theorem sg_okS {w : Str} (h : wo signsS w = true) : okS w := okS_iff.mpr fun c m => by
 have := jb5 c (sg_mem (List.all_eq_true.mp h c m))
 omega
structure Ws (w : Str) : Prop where
 s : wo signsS w = true
 l0 : 1 ≤ w.length
 l1 : w.length ≤ 60
theorem Ws.of {w : Str} (h : goodW w = true) : Ws w := ⟨(kaw h).2, (kaw h).1.1, (kaw h).1.2⟩
theorem Ws.ok {w : Str} (h : Ws w) : OkWd w := ⟨sg_okS h.s, by have := h.l1; omega⟩
end SG
namespace SG
open PySem L2 PL LW
structure KeyW {α : Type} (f : α → D) (k : α → NestedKey) (P : α → Prop) : Prop where
 ok : ∀ a, P a → nkOk (f a) = some (k a)
 inj : ∀ a b, P a → P b → k a = k b → a = b
variable {α : Type} [DecidableEq α] {f : α → D} {k : α → NestedKey} {P : α → Prop}
theorem KeyW.nk (h : KeyW f k P) {a : α} (ha : P a) : nkD (f a) = some (k a) := (nkOk_some (h.ok a ha)).1
theorem KeyW.has (h : KeyW f k P) {β : Type} {g : β → D} {kvs : List (α × β)} (hp : ∀ p ∈ kvs, P p.1) {a : α} (ha : P a) : nHas (kvs.map fun p => (f p.1, g p.2)) (k a) = kvs.any fun p => decide (p.1 = a) := by
 unfold nHas
 induction kvs with
 | nil => rfl
 | cons p kvs ih =>
  rw [List.map_cons, List.any_cons, List.any_cons, ih fun q m => hp q (List.mem_cons_of_mem _ m)]
  congr 1
  show decide (nkD (f p.1) = some (k a)) = decide (p.1 = a)
  rw [h.nk (hp p List.mem_cons_self)]
  by_cases c : p.1 = a
  ·rw [c, decide_eq_true rfl, decide_eq_true rfl]
  ·rw [decide_eq_false c, decide_eq_false fun z => c (h.inj _ _ (hp p List.mem_cons_self) ha (Option.some.inj z))]
def addA (acc : List α) (a : α) : List α := if a ∈ acc then acc else acc ++ [a]
theorem KeyW.set_add (h : KeyW f k P) {d : D} {ks : List α} (hp : ∀ a ∈ ks, P a) {a : α} (ha : P a) : nSet (ks.map fun x => (f x, d)) (f a) (k a) d = (addA ks a).map fun x => (f x, d) := by
 have e : nHas (ks.map fun x => (f x, d)) (k a) = decide (a ∈ ks) := by
  have := h.has (g := fun _ : Unit => d) (kvs := ks.map fun x => (x, ())) (fun p m => by obtain ⟨x, hx, rfl⟩ := List.mem_map.mp m; exact hp x hx) ha
  rw [List.map_map] at this
  rw [show ((fun p : α × Unit => (f p.1, d)) ∘ fun x => (x, ())) = fun x => (f x, d) from rfl] at this
  rw [this, List.any_map, Bool.eq_iff_iff, List.any_eq_true, decide_eq_true_iff]
  exact ⟨fun ⟨x, hx, z⟩ => (of_decide_eq_true z : x = a) ▸ hx, fun m => ⟨a, m, decide_eq_true rfl⟩⟩
 unfold nSet addA
 rw [e]
 by_cases c : a ∈ ks
 ·rw [if_pos (decide_eq_true c), if_pos c, List.map_map]
  refine List.map_congr_left fun x m => ?_
  show (if nkD (f x) = some (k a) then (f x, d) else (f x, d)) = _
  split <;> rfl
 ·rw [if_neg (by rw [decide_eq_false c]; decide), if_neg c, List.map_append]
  rfl
def bK (b : Bool) : NestedKey := .num (if b = true then 1 else 0)
end SG
namespace SG
open PySem L2 PL LW
end SG
namespace SG
open PySem L2 PL LW
theorem vav : ∀ xs : List Str, nkDs (xs.map zs) = some (xs.map NestedKey.text)
 | [] => by unfold nkDs; rfl
 | x :: xs => by
  rw [List.map_cons]
  unfold nkDs
  rw [show nkD (zs x) = some (NestedKey.text x) from by unfold nkD; rfl, vav xs]
  rfl
theorem sta_nk (s : Sta) : nkD s.d = some s.key := by
 show nkD (.tup [.tup (s.told.map zs), zi s.num, zs s.wait, zb s.stop]) = _
 have e : nkDs [.tup (s.told.map zs), zi s.num, zs s.wait, zb s.stop] = some [.tup (s.told.map .text), .num s.num, .text s.wait, .num (if s.stop = true then 1 else 0)] := by
  have h1 : nkD (.tup (s.told.map zs)) = some (.tup (s.told.map .text)) := by unfold nkD; rw [vav]
  simp only [nkDs, vav, nkD]
 unfold nkD
 rw [e]
 rfl
theorem qbx (s : Sta) : s.key.depth ≤ 2 := by
 unfold Sta.key
 simp only [NestedKey.depth, NestedKey.depthAll, ybc]
 decide
end SG
namespace SG
open PySem L2 PL LW
def subs {α : Type} : List α → List (List α)
 | [] => [[]]
 | x :: xs => (subs xs).map (x :: ·) ++ subs xs
theorem subs_len {α : Type} : ∀ xs : List α, (subs xs).length = 2 ^ xs.length
 | [] => rfl
 | x :: xs => by
  unfold subs
  rw [List.length_append, List.length_map, subs_len xs, List.length_cons, Nat.pow_succ]; omega
theorem z6 {α : Type} (p : α → Bool) : ∀ xs : List α, xs.filter p ∈ subs xs
 | [] => List.mem_singleton.mpr rfl
 | x :: xs => by
  unfold subs
  rw [List.filter_cons]
  split
  ·exact List.mem_append_left _ (List.mem_map.mpr ⟨_, z6 p xs, rfl⟩)
  ·exact List.mem_append_right _ (z6 p xs)
def allSt (n : Nat) (t : List Str) (b : Bool) (x : Str) : List Sta := (List.range (n + 1)).flatMap fun (i : Nat) => [⟨t, (i : Int) - 1, "", b⟩, ⟨t, (i : Int) - 1, x, b⟩]
noncomputable def cands (ns : List Str) (n : Nat) : List (List Sta) := (subs ns).flatMap fun t => [false, true].flatMap fun b => (("" : Str) :: ns).flatMap fun x => (subs (allSt n t b x)).map sortS
theorem j6 {α β : Type} {f : α → List β} {k : Nat} (h : ∀ a, (f a).length ≤ k) : ∀ l : List α, (l.flatMap f).length ≤ l.length * k
 | [] => Nat.zero_le _
 | a :: l => by
  have := j6 h l
  have := h a
  rw [List.flatMap_cons, List.length_append, List.length_cons, Nat.succ_mul]; omega
structure Can (ns : List Str) (n : Nat) (ss : List Sta) : Prop where
 so : sortS ss = ss
 st : ∀ s ∈ ss, StS s
 ti : ∃ t b x, t ∈ subs ns ∧ x ∈ (("" : Str) :: ns) ∧ ∀ s ∈ ss, s.told = t ∧ s.stop = b ∧ (s.wait = "" ∨ s.wait = x) ∧ -1 ≤ s.num ∧ s.num < n
theorem Can.mem {ns : List Str} {n : Nat} {ss : List Sta} (h : Can ns n ss) : ss ∈ cands ns n := by
 obtain ⟨t, b, x, ht, hx, hs⟩ := h.ti
 unfold cands
 refine List.mem_flatMap.mpr ⟨t, ht, List.mem_flatMap.mpr ⟨b, by cases b <;> simp, List.mem_flatMap.mpr ⟨x, hx, List.mem_map.mpr ⟨(allSt n t b x).filter fun s => decide (s ∈ ss), z6 _ _, ?_⟩⟩⟩⟩
 refine Eq.trans ?_ h.so
 refine (wb4 h.st fun s => ?_).symm
 rw [List.mem_filter, decide_eq_true_iff]
 refine ⟨fun m => ⟨?_, m⟩, fun m => m.2⟩
 obtain ⟨h1, h2, h3, h4, h5⟩ := hs s m
 unfold allSt
 refine List.mem_flatMap.mpr ⟨(s.num + 1).toNat, List.mem_range.mpr (by omega), ?_⟩
 obtain ⟨st, sn, sw, sb⟩ := s
 have e : (((sn + 1).toNat : Nat) : Int) - 1 = sn := by
  have h4 : -1 ≤ sn := h4
  omega
 simp only [List.mem_cons, List.not_mem_nil, or_false]
 show _ ∨ _
 rw [show ((Sta.mk st sn sw sb).num + 1).toNat = (sn + 1).toNat from rfl, e]
 have h1 : st = t := h1
 have h2 : sb = b := h2
 subst h1
 subst h2
 rcases h3 with h3 | h3
 ·exact .inl (by rw [show sw = "" from h3])
 ·exact .inr (by rw [show sw = x from h3])
end SG
namespace SG
open PySem L2 PL LW
end SG
namespace PL
open PySem L2 PySem.Spec PyProof.Rows
def pairN : D → Option (D × NestedKey × D)
 | .tup [a, b] => (nkOk a).map fun k => (a, k, b)
 | _ => none
def pairsN : List D → Option (List (D × NestedKey × D))
 | [] => some []
 | d :: ds => match pairN d, pairsN ds with
  | some p, some ps => some (p :: ps)
  | _, _ => none
def putsN (kvs : List (D × D)) (ps : List (D × NestedKey × D)) : List (D × D) := ps.foldl (fun acc p => nSet acc p.1 p.2.1 p.2.2) kvs
def dictPD (P : Program) (w : World) : D → Option Rv
 | .lst ds => match pairsN ds with
  | some ps => some (.new (.dn P w (putsN [] ps)))
  | none => none
 | _ => none
end PL
namespace SG
open PySem L2 PL LW
abbrev Prs := Sta × Sta × Bool
def prS (p : Prs) : D := .tup [p.1.d, p.2.1.d, zb p.2.2]
def prK (p : Prs) : NestedKey := .tup [p.1.key, p.2.1.key, bK p.2.2]
theorem prs_nk (p : Prs) : nkD (prS p) = some (prK p) := by
 have h0 : nkDs ([] : List D) = some [] := by unfold nkDs; rfl
 have h1 : nkDs [zb p.2.2] = some [bK p.2.2] := by
  unfold nkDs
  rw [h0, show nkD (zb p.2.2) = some (bK p.2.2) by unfold nkD bK; cases p.2.2 <;> rfl]
 have h2 : nkDs [p.2.1.d, zb p.2.2] = some [p.2.1.key, bK p.2.2] := by
  unfold nkDs
  rw [h1, sta_nk]
 have h3 : nkDs [p.1.d, p.2.1.d, zb p.2.2] = some [p.1.key, p.2.1.key, bK p.2.2] := by
  unfold nkDs
  rw [h2, sta_nk]
 unfold prS prK nkD
 rw [h3]
theorem prs_depth (p : Prs) : (prK p).depth ≤ 8 := by
 have h1 := qbx p.1
 have h2 := qbx p.2.1
 unfold prK bK
 simp only [NestedKey.depth, NestedKey.depthAll]
 omega
theorem prs_ok (p : Prs) : nkOk (prS p) = some (prK p) := by
 have h1 := prs_nk p
 have h2 := prs_depth p
 show nkOk (.tup [p.1.d, p.2.1.d, zb p.2.2]) = _
 unfold nkOk
 dsimp only
 rw [show nkD (.tup [p.1.d, p.2.1.d, zb p.2.2]) = some (prK p) from h1]
 exact if_pos h2
noncomputable def sLt (a b : Sta) : Bool := PySem.W.dataLt a.pd b.pd
noncomputable def kba (a b : Sta) (f : Bool) : Prs := if f = true ∧ sLt b a = true then (b, a, true) else (a, b, f)
abbrev Wd := List (List Str × List Prs)
def yb4 (ns : List Str) (n : Nat) : List Sta := (subs ns).flatMap fun t => [false, true].flatMap fun b => (("" : Str) :: ns).flatMap fun x => (List.range (n + 1)).map fun (i : Nat) => (⟨t, (i : Int) - 1, x, b⟩ : Sta)
theorem stAll_len {ns : List Str} {n : Nat} (h1 : ns.length ≤ 5) (h2 : n ≤ 4) : (yb4 ns n).length ≤ 1920 := by
 have e1 : ∀ (t : List Str) (b : Bool) (x : Str), ((List.range (n + 1)).map fun (i : Nat) => (⟨t, (i : Int) - 1, x, b⟩ : Sta)).length ≤ 5 := fun t b x => by
  rw [List.length_map, List.length_range]; omega
 have e2 : ∀ (t : List Str) (b : Bool), ((("" : Str) :: ns).flatMap fun x => (List.range (n + 1)).map fun (i : Nat) => (⟨t, (i : Int) - 1, x, b⟩ : Sta)).length ≤ 6 * 5 := fun t b => by
  refine Nat.le_trans (j6 (e1 t b) _) (Nat.mul_le_mul_right _ ?_)
  rw [List.length_cons]; omega
 have e3 : ∀ t : List Str, ([false, true].flatMap fun b => (("" : Str) :: ns).flatMap fun x => (List.range (n + 1)).map fun (i : Nat) => (⟨t, (i : Int) - 1, x, b⟩ : Sta)).length ≤ 2 * (6 * 5) := fun t => j6 (e2 t) _
 refine Nat.le_trans (j6 e3 _) ?_
 rw [subs_len]
 have : 2 ^ ns.length ≤ 2 ^ 5 := Nat.pow_le_pow_right (by decide) h1
 have := Nat.mul_le_mul_right (2 * (6 * 5)) this
 omega
theorem jbx {tb : Tb} {s : Sta} (h : StOk tb s) : s ∈ yb4 (zj tb.ws) tb.ps.length := by
 have h1 := h.n0
 have h2 := h.n1
 obtain ⟨st, sn, sw, sb⟩ := s
 have hx : sw ∈ (("" : Str) :: zj tb.ws) := by
  rcases h.w with e | ⟨o, ho, e, _⟩
  ·rw [show sw = "" from e]; exact List.mem_cons_self
  ·exact List.mem_cons_of_mem _ (List.mem_map.mpr ⟨o, ho, e⟩)
 have ht : st ∈ subs (zj tb.ws) := by
  rw [show st = _ from h.td]; exact z6 _ _
 unfold yb4
 refine List.mem_flatMap.mpr ⟨st, ht, List.mem_flatMap.mpr ⟨sb, by cases sb <;> simp, List.mem_flatMap.mpr ⟨sw, hx, List.mem_map.mpr ⟨(sn + 1).toNat, List.mem_range.mpr ?_, ?_⟩⟩⟩⟩
 ·have h1 : -1 ≤ sn := h1
  have h2 : sn < tb.ps.length := h2
  omega
 ·have h1 : -1 ≤ sn := h1
  rw [show (((sn + 1).toNat : Nat) : Int) - 1 = sn by omega]
def PrOk (tb : Tb) (p : Prs) : Prop := StOk tb p.1 ∧ StOk tb p.2.1
theorem prs_len {tb : Tb} (hT : tb.ws.length ≤ 5) (hp : tb.ps.length ≤ 4) {l : List Prs} (nd : l.Nodup) (h : ∀ p ∈ l, PrOk tb p) : l.length ≤ 7372800 := by
 have hs := stAll_len (ns := zj tb.ws) (n := tb.ps.length) (by unfold zj; rw [List.length_map]; exact hT) hp
 have e : l.length ≤ ((yb4 (zj tb.ws) tb.ps.length).flatMap fun a => (yb4 (zj tb.ws) tb.ps.length).flatMap fun b => [(a, b, false), (a, b, true)]).length := by
  refine SX.nodup_len nd fun p m => ?_
  obtain ⟨a, b, f⟩ := p
  have := h _ m
  exact List.mem_flatMap.mpr ⟨a, jbx this.1, List.mem_flatMap.mpr ⟨b, jbx this.2, by cases f <;> simp⟩⟩
 have e1 : ∀ a : Sta, ((yb4 (zj tb.ws) tb.ps.length).flatMap fun b => [(a, b, false), (a, b, true)]).length ≤ 1920 * 2 := fun a => Nat.le_trans (j6 (k := 2) (fun b => by simp) _) (Nat.mul_le_mul_right _ hs)
 have := j6 e1 (yb4 (zj tb.ws) tb.ps.length)
 have := Nat.mul_le_mul_right (1920 * 2) hs
 omega
structure DOk (tb : Tb) (q : Wd × List Prs) : Prop where
 w : ∀ x ∈ q.1, (∀ p ∈ x.2, PrOk tb p ∧ p ∈ q.2) ∧ x.1.length ≤ q.1.length
 nd : q.2.Nodup
 c : ∀ p ∈ q.2, PrOk tb p
 l : q.1.length ≤ q.2.length + 1
theorem DOk.len {tb : Tb} (hT : tb.ws.length ≤ 5) (hp : tb.ps.length ≤ 4) {q : Wd × List Prs} (h : DOk tb q) : q.2.length ≤ 7372800 ∧ q.1.length ≤ 7372801 := by
 have h1 := prs_len hT hp h.nd h.c
 have h2 := h.l
 exact ⟨h1, by omega⟩
end SG
namespace SG
open PySem L2 PL LW
theorem sum_congr {α : Type} {f g : α → Nat} {l : List α} (h : ∀ a ∈ l, f a = g a) : (l.map f).sum = (l.map g).sum := by rw [List.map_congr_left h]
theorem jbn {α : Type} {g : α → Nat} {l : List α} {a : α} (m : a ∈ l) : g a ≤ (l.map g).sum := by
 induction l with
 | nil => cases m
 | cons b l ih =>
  rw [List.map_cons, List.sum_cons]
  rcases List.mem_cons.mp m with e | m2
  ·rw [e]; omega
  ·have := ih m2
   omega
theorem sum_two {α : Type} {g : α → Nat} {l : List α} {a b : α} (ma : a ∈ l) (mb : b ∈ l) (h : a ≠ b) : g a + g b ≤ (l.map g).sum := by
 induction l with
 | nil => cases ma
 | cons c l ih =>
  rw [List.map_cons, List.sum_cons]
  rcases List.mem_cons.mp ma with ea | ma2
  ·rcases List.mem_cons.mp mb with eb | mb2
   ·exact absurd (ea.trans eb.symm) h
   ·have := jbn (g := g) mb2
    rw [ea]; omega
  ·rcases List.mem_cons.mp mb with eb | mb2
   ·have := jbn (g := g) ma2
    rw [eb]; omega
   ·have := ih ma2 mb2
    omega
def cntP (tb : Tb) (φ : Sta → Nat) : Sta → List Str → Nat
 | s, [] => φ s
 | s, w :: r => ((yz tb s w).map fun m => cntP tb φ m.2 r).sum
end SG
namespace SG
open PySem L2 PL LW
def nxt (tb : Tb) (t : List Str) (b : Bool) (w : Str) : List Str × Bool × Str :=
 if b = true then (t, true, "") else if bareW w = true then (t, false, "") else if w = "--" then (t, true, "")
 else match tellOf tb.ws w with
  | none => (t, false, "")
  | some (i, v) => match tb.ws[i]? with
   | none => (t, false, "")
   | some o => (addT tb.ws t o.name, false, if o.kind.isSome = true ∧ v = "" then o.name else "")
theorem mv_nxt {tb : Tb} {s : Sta} {w : Str} {m : Part × Sta} (h : m ∈ qay tb s w) : (m.2.told, m.2.stop, m.2.wait) = nxt tb s.told s.stop w := by
 have laid : m ∈ laidM tb s w → (m.2.told, m.2.stop, m.2.wait) = (s.told, s.stop, ("" : Str)) := fun h => by
  obtain ⟨j, _, rfl⟩ := List.mem_map.mp h
  rfl
 unfold qay at h
 unfold nxt
 cases hs : s.stop with
 | true =>
  rw [hs] at h laid
  rw [if_pos rfl] at h ⊢
  exact laid h
 | false =>
  rw [hs] at h laid
  rw [if_neg (by decide)] at h ⊢
  cases hb : bareW w with
  | true =>
   rw [hb, if_pos rfl] at h
   rw [if_pos rfl]
   rcases List.mem_append.mp h with h | h
   ·unfold valueM at h
    split at h
    ·split at h
     ·split at h
      ·rw [List.mem_singleton.mp h]
      ·cases h
     ·cases h
    ·cases h
   ·split at h
    ·cases h
    ·exact laid h
  | false =>
   rw [hb, if_neg (by decide)] at h
   rw [if_neg (by decide)]
   split at h
   ·cases h
   split at h
   ·rename_i c
    rw [if_pos c, List.mem_singleton.mp h]
   ·rename_i c
    rw [if_neg c]
    unfold toldM at h
    split at h
    ·cases h
    ·rename_i i v e
     try rw [e]
     try dsimp only
     split at h
     ·cases h
     ·rename_i o eo
      try rw [eo]
      try dsimp only
      split at h
      ·cases h
      ·rw [List.mem_singleton.mp h]
       rfl
theorem mv_num {tb : Tb} {s : Sta} {w : Str} {m : Part × Sta} (h : m ∈ qay tb s w) : s.num ≤ m.2.num ∧ m.2.num = (match m.1 with | .place j => (j : Int) | _ => s.num) := by
 have laid : m ∈ laidM tb s w → s.num ≤ m.2.num ∧ m.2.num = (match m.1 with | .place j => (j : Int) | _ => s.num) := fun h => by
  obtain ⟨j, hj, rfl⟩ := List.mem_map.mp h
  exact ⟨(laidC_lt (List.mem_filter.mp hj).2).2, rfl⟩
 unfold qay at h
 split at h
 ·exact laid h
 split at h
 ·rcases List.mem_append.mp h with h | h
  ·unfold valueM at h
   split at h
   ·split at h
    ·split at h
     ·rw [List.mem_singleton.mp h]; exact ⟨Int.le_refl _, rfl⟩
     ·cases h
    ·cases h
   ·cases h
  ·split at h
   ·cases h
   ·exact laid h
 split at h
 ·cases h
 split at h
 ·rw [List.mem_singleton.mp h]; exact ⟨Int.le_refl _, rfl⟩
 ·unfold toldM at h
  split at h
  ·cases h
  ·split at h
   ·cases h
   ·split at h
    ·cases h
    ·rw [List.mem_singleton.mp h]; exact ⟨Int.le_refl _, rfl⟩
theorem va9 {a b : Sta} (h1 : a.told = b.told) (h2 : a.num = b.num) (h3 : a.wait = b.wait) (h4 : a.stop = b.stop) : a = b := by
 cases a; cases b
 simp only at h1 h2 h3 h4
 rw [h1, h2, h3, h4]
theorem slt_dle {a b : Sta} (ha : StS a) (hb : StS b) : sLt b a = !dle a.d b.d := by
 rw [wb0, Sta.py ha, Sta.py hb, Bool.not_not]
 rfl
structure Tw (tb : Tb) (p : Prs) : Prop where
 a : StOk tb p.1
 b : StOk tb p.2.1
 t : p.1.told = p.2.1.told
 s : p.1.stop = p.2.1.stop
 w : p.1.wait = p.2.1.wait
 e : p.2.2 = false → p.1 = p.2.1
 c : p.2.2 = true → dle p.1.d p.2.1.d = true
theorem Tw.put {tb : Tb} (hst : ∀ s, StOk tb s → StS s) {p : Prs} (h : Tw tb p) {w : Str} {m n : Part × Sta} (hm : m ∈ yz tb p.1 w) (hn : n ∈ yz tb p.2.1 w) : Tw tb (kba m.2 n.2 (p.2.2 || decide (m.1 ≠ n.1))) := by
 have hm0 := (List.mem_filter.mp hm).1
 have hn0 := (List.mem_filter.mp hn).1
 have e1 := mv_nxt hm0
 have e2 := mv_nxt hn0
 rw [← h.t, ← h.s, ← e1] at e2
 have e3 : n.2.told = m.2.told := congrArg (fun x : List Str × Bool × Str => x.1) e2
 have e4 : n.2.stop = m.2.stop := congrArg (fun x : List Str × Bool × Str => x.2.1) e2
 have e5 : n.2.wait = m.2.wait := congrArg (fun x : List Str × Bool × Str => x.2.2) e2
 have ka := jbz h.a m hm
 have kb := jbz h.b n hn
 unfold kba
 by_cases c : (p.2.2 || decide (m.1 ≠ n.1)) = true ∧ sLt n.2 m.2 = true
 ·rw [if_pos c]
  refine ⟨kb, ka, e3, e4, e5, (fun z => by cases z), fun _ => ?_⟩
  have h1 := c.2
  rw [slt_dle (hst _ ka) (hst _ kb), Bool.not_eq_true'] at h1
  have h2 := vb7 m.2.d n.2.d
  rw [h1, Bool.false_or] at h2
  exact h2
 ·rw [if_neg c]
  refine ⟨ka, kb, e3.symm, e4.symm, e5.symm, fun z => ?_, fun z => ?_⟩
  ·have z : (p.2.2 || decide (m.1 ≠ n.1)) = false := z
   rw [Bool.or_eq_false_iff, decide_eq_false_iff_not, Decidable.not_not] at z
   have hab := h.e z.1
   have h1 := (mv_num hm0).2
   have h2 := (mv_num hn0).2
   rw [← hab, ← z.2, ← h1] at h2
   exact va9 e3.symm h2.symm e5.symm e4.symm
  ·have z : (p.2.2 || decide (m.1 ≠ n.1)) = true := z
   have h1 : sLt n.2 m.2 = false := by rw [Bool.eq_false_iff]; exact fun q => c ⟨z, q⟩
   rw [slt_dle (hst _ ka) (hst _ kb), Bool.not_eq_false'] at h1
   exact h1
def rho (p : Prs) : Nat := p.1.told.length + (if p.1.stop = true then 1 else 0) + ((p.1.num + 1).toNat + (p.2.1.num + 1).toNat) + (if p.2.2 = true then 1 else 0)
structure SameL (p q : Prs) : Prop where
 t : p.1.told = q.1.told
 s : p.1.stop = q.1.stop
 f : p.2.2 = q.2.2
 n : (p.1.num = q.1.num ∧ p.2.1.num = q.2.1.num) ∨ (p.1.num = q.2.1.num ∧ p.2.1.num = q.1.num)
theorem SameL.trans {p q r : Prs} (h : SameL p q) (k : SameL q r) : SameL p r := ⟨h.t.trans k.t, h.s.trans k.s, h.f.trans k.f, by
 rcases h.n with ⟨h1, h2⟩ | ⟨h1, h2⟩ <;> rcases k.n with ⟨k1, k2⟩ | ⟨k1, k2⟩
 ·exact .inl ⟨h1.trans k1, h2.trans k2⟩
 ·exact .inr ⟨h1.trans k1, h2.trans k2⟩
 ·exact .inr ⟨h1.trans k2, h2.trans k1⟩
 ·exact .inl ⟨h1.trans k2, h2.trans k1⟩⟩
theorem SameL.rho {p q : Prs} (h : SameL p q) : SG.rho p = SG.rho q := by
 unfold SG.rho
 rw [h.t, h.s, h.f]
 rcases h.n with ⟨h1, h2⟩ | ⟨h1, h2⟩
 ·rw [h1, h2]
 ·rw [h1, h2]; omega
def LeL (p q : Prs) : Prop := SameL p q ∨ SG.rho p < SG.rho q
theorem LeL.trans {p q r : Prs} (h : LeL p q) (k : LeL q r) : LeL p r := by
 rcases h with h | h <;> rcases k with k | k
 ·exact .inl (h.trans k)
 ·right; rw [h.rho]; exact k
 ·right; rw [← k.rho]; exact h
 ·right; omega
theorem Tw.inj {tb : Tb} (hst : ∀ s, StOk tb s → StS s) {p q : Prs} (h : Tw tb p) (k : Tw tb q) (l : SameL p q) (w : p.1.wait = q.1.wait) : p = q := by
 obtain ⟨a, b, f⟩ := p
 obtain ⟨c, d, g⟩ := q
 obtain ⟨t1, s1, f1, n1⟩ := l
 have ht := h.t
 have hs := h.s
 have hw := h.w
 have kt := k.t
 have ks := k.s
 have kw := k.w
 dsimp only at *
 subst f1
 rcases n1 with ⟨n1, n2⟩ | ⟨n1, n2⟩
 ·have e1 : a = c := va9 t1 n1 w s1
  have e2 : b = d := va9 (ht.symm.trans (t1.trans kt)) n2 (hw.symm.trans (w.trans kw)) (hs.symm.trans (s1.trans ks))
  rw [e1, e2]
 ·have e1 : a = d := va9 (t1.trans kt) n1 (w.trans kw) (s1.trans ks)
  have e2 : b = c := va9 (ht.symm.trans t1) n2 (hw.symm.trans w) (hs.symm.trans s1)
  cases hf : f with
  | false =>
   have z : a = b := h.e hf
   rw [← e1, ← e2, z]
  | true =>
   have z1 : dle a.d b.d = true := h.c hf
   have z2 : dle c.d d.d = true := k.c hf
   rw [← e1, ← e2] at z2
   have z := dle_anti (hst a h.a) (hst b h.b) z1 z2
   rw [← e1, ← e2, z]
theorem add_len {tb : Tb} {t : List Str} (hn : (zj tb.ws).Nodup) (ht : t = (zj tb.ws).filter fun n => inW n t) {z : Str} (hz : z ∈ zj tb.ws) : addT tb.ws t z = t ∨ t.length < (addT tb.ws t z).length := by
 by_cases c : z ∈ t
 ·left
  have e : addT tb.ws t z = (zj tb.ws).filter fun n => inW n t := List.filter_congr fun n _ => by
   rw [Bool.eq_iff_iff, Bool.or_eq_true, beq_iff_eq]
   exact ⟨fun h => h.elim id fun e => by rw [e]; exact inW_iff.mpr c, .inl⟩
  rw [e]; exact ht.symm
 ·right
  have hd : t.Nodup := by rw [ht]; exact List.Nodup.sublist List.filter_sublist hn
  have : (z :: t).length ≤ (addT tb.ws t z).length := SX.nodup_len (List.nodup_cons.mpr ⟨c, hd⟩) fun x m => by
   refine List.mem_filter.mpr ?_
   rcases List.mem_cons.mp m with rfl | m
   ·exact ⟨hz, by rw [beq_self_eq_true, Bool.or_true]⟩
   ·refine ⟨?_, by rw [inW_iff.mpr m, Bool.true_or]⟩
    rw [ht] at m
    exact (List.mem_filter.mp m).1
  rw [List.length_cons] at this
  omega
theorem nxt_told {tb : Tb} (hn : (zj tb.ws).Nodup) {s : Sta} (hs : StOk tb s) {w : Str} : ((nxt tb s.told s.stop w).1 = s.told ∨ s.told.length < (nxt tb s.told s.stop w).1.length) ∧ (s.stop = true → (nxt tb s.told s.stop w).2.1 = true) := by
 unfold nxt
 split
 ·exact ⟨.inl rfl, fun _ => rfl⟩
 rename_i c
 refine ⟨?_, fun z => absurd z c⟩
 split
 ·exact .inl rfl
 split
 ·exact .inl rfl
 split
 ·exact .inl rfl
 split
 ·exact .inl rfl
 ·rename_i o ho
  exact add_len hn hs.td (List.mem_map.mpr ⟨o, List.mem_of_getElem? ho, rfl⟩)
theorem Tw.le {tb : Tb} (hn : (zj tb.ws).Nodup) {p : Prs} (h : Tw tb p) {w : Str} {m n : Part × Sta} (hm : m ∈ yz tb p.1 w) (hn2 : n ∈ yz tb p.2.1 w) : LeL p (kba m.2 n.2 (p.2.2 || decide (m.1 ≠ n.1))) := by
 have hm0 := (List.mem_filter.mp hm).1
 have hn0 := (List.mem_filter.mp hn2).1
 have e1 := mv_nxt hm0
 have e2 := mv_nxt hn0
 rw [← h.t, ← h.s, ← e1] at e2
 have e3 : n.2.told = m.2.told := congrArg (fun x : List Str × Bool × Str => x.1) e2
 have e4 : n.2.stop = m.2.stop := congrArg (fun x : List Str × Bool × Str => x.2.1) e2
 obtain ⟨t1, t2⟩ := nxt_told hn h.a (w := w)
 rw [← e1] at t1 t2
 have t1 : m.2.told = p.1.told ∨ p.1.told.length < m.2.told.length := t1
 have t2 : p.1.stop = true → m.2.stop = true := t2
 have n1 := (mv_num hm0).1
 have n2 := (mv_num hn0).1
 have a0 := h.a.n0
 have b0 := h.b.n0
 have key : LeL p (m.2, n.2, (p.2.2 || decide (m.1 ≠ n.1))) := by
  by_cases c : m.2.told = p.1.told ∧ m.2.stop = p.1.stop ∧ m.2.num = p.1.num ∧ n.2.num = p.2.1.num ∧ (p.2.2 || decide (m.1 ≠ n.1)) = p.2.2
  ·exact .inl ⟨c.1.symm, c.2.1.symm, c.2.2.2.2.symm, .inl ⟨c.2.2.1.symm, c.2.2.2.1.symm⟩⟩
  ·right
   unfold SG.rho
   dsimp only
   have hs : (if p.1.stop = true then 1 else 0) ≤ (if m.2.stop = true then 1 else 0) ∧ (m.2.stop ≠ p.1.stop → (if p.1.stop = true then 1 else 0) < (if m.2.stop = true then 1 else 0)) := by
    cases q : p.1.stop with
    | true => rw [t2 q]; exact ⟨Nat.le_refl _, fun z => absurd rfl z⟩
    | false => cases m.2.stop <;> simp
   have hf : (if p.2.2 = true then 1 else 0) ≤ (if (p.2.2 || decide (m.1 ≠ n.1)) = true then 1 else 0) ∧ ((p.2.2 || decide (m.1 ≠ n.1)) ≠ p.2.2 → (if p.2.2 = true then 1 else 0) < (if (p.2.2 || decide (m.1 ≠ n.1)) = true then 1 else 0)) := by
    cases p.2.2 <;> cases decide (m.1 ≠ n.1) <;> simp
   have ht : p.1.told.length ≤ m.2.told.length ∧ (m.2.told ≠ p.1.told → p.1.told.length < m.2.told.length) := by
    rcases t1 with z | z
    ·rw [z]; exact ⟨Nat.le_refl _, fun q => absurd rfl q⟩
    ·exact ⟨by omega, fun _ => z⟩
   generalize (if p.1.stop = true then 1 else 0) = x1 at hs ⊢
   generalize (if m.2.stop = true then 1 else 0) = x2 at hs ⊢
   generalize (if p.2.2 = true then 1 else 0) = y1 at hf ⊢
   generalize (if (p.2.2 || decide (m.1 ≠ n.1)) = true then 1 else 0) = y2 at hf ⊢
   by_cases c1 : m.2.told = p.1.told
   ·by_cases c2 : m.2.stop = p.1.stop
    ·by_cases c3 : (p.2.2 || decide (m.1 ≠ n.1)) = p.2.2
     ·have : ¬ (m.2.num = p.1.num ∧ n.2.num = p.2.1.num) := fun z => c ⟨c1, c2, z.1, z.2, c3⟩
      omega
     ·have := hf.2 c3
      omega
    ·have := hs.2 c2
     omega
   ·have := ht.2 c1
    omega
 unfold kba
 by_cases c : (p.2.2 || decide (m.1 ≠ n.1)) = true ∧ sLt n.2 m.2 = true
 ·rw [if_pos c]
  have sw : SameL (m.2, n.2, (p.2.2 || decide (m.1 ≠ n.1))) (n.2, m.2, true) := ⟨e3.symm, e4.symm, c.1, .inr ⟨rfl, rfl⟩⟩
  exact key.trans (.inl sw)
 ·rw [if_neg c]; exact key
structure ChOk (tb : Tb) (p : Prs) (c : List Prs) : Prop where
 tw : ∀ q ∈ p :: c, Tw tb q
 pw : (p :: c).Pairwise fun y x => y ≠ x ∧ LeL x y
theorem ChOk.len {tb : Tb} (hst : ∀ s, StOk tb s → StS s) {p : Prs} {c : List Prs} (h : ChOk tb p c) : (p :: c).length ≤ 1 + (tb.ws.length + 1 + 2 * tb.ps.length + 1) * (tb.ws.length + 1) := by
 have hnd : ((p :: c).map fun q => (SG.rho q, q.1.wait)).Nodup := by
  refine List.pairwise_map.mpr (List.Pairwise.imp_of_mem (fun {a b} ma mb hab e => ?_) h.pw)
  have e1 : SG.rho a = SG.rho b := congrArg (fun x : Nat × Str => x.1) e
  have e2 : a.1.wait = b.1.wait := congrArg (fun x : Nat × Str => x.2) e
  rcases hab.2 with l | l
  ·exact hab.1 ((Tw.inj hst (h.tw b mb) (h.tw a ma) l e2.symm).symm)
  ·omega
 have hsub : ∀ x ∈ (p :: c).map fun q => (SG.rho q, q.1.wait), x ∈ ((0, ("" : Str)) :: (List.range (tb.ws.length + 1 + 2 * tb.ps.length + 1)).flatMap fun i => (("" : Str) :: zj tb.ws).map fun z => (i + 1, z)) := fun x m => by
  obtain ⟨q, hq, rfl⟩ := List.mem_map.mp m
  have hT := h.tw q hq
  have hw : q.1.wait = "" ∨ (q.1.wait ∈ zj tb.ws ∧ q.1.wait ∈ q.1.told) := by
   rcases hT.a.w with e | ⟨o, ho, e, _, mm⟩
   ·exact .inl e
   ·exact .inr ⟨List.mem_map.mpr ⟨o, ho, e⟩, mm⟩
  have hr : SG.rho q ≤ tb.ws.length + 1 + 2 * tb.ps.length + 1 := by
   unfold SG.rho
   have h1 : q.1.told.length ≤ tb.ws.length := by
    rw [hT.a.td]
    have := List.length_filter_le (fun n => inW n q.1.told) (zj tb.ws)
    have e : (zj tb.ws).length = tb.ws.length := List.length_map ..
    omega
   have h2 := hT.a.n1
   have h3 := hT.b.n1
   have h4 : (if q.1.stop = true then 1 else 0) ≤ 1 := by split <;> decide
   have h5 : (if q.2.2 = true then 1 else 0) ≤ 1 := by split <;> decide
   omega
  by_cases z : SG.rho q = 0
  ·have : q.1.told.length = 0 := by
    unfold SG.rho at z
    omega
   have hw2 : q.1.wait = "" := by
    rcases hw with e | ⟨_, mm⟩
    ·exact e
    ·rw [List.length_eq_zero_iff.mp this] at mm
     cases mm
   rw [z, hw2]
   exact List.mem_cons_self
  ·refine List.mem_cons_of_mem _ (List.mem_flatMap.mpr ⟨SG.rho q - 1, List.mem_range.mpr (by omega), List.mem_map.mpr ⟨q.1.wait, ?_, ?_⟩⟩)
   ·rcases hw with e | ⟨mm, _⟩
    ·rw [e]; exact List.mem_cons_self
    ·exact List.mem_cons_of_mem _ mm
   ·rw [show SG.rho q - 1 + 1 = SG.rho q by omega]
 have := SX.nodup_len hnd hsub
 rw [List.length_map] at this
 refine Nat.le_trans this ?_
 rw [List.length_cons]
 have hf := j6 (f := fun i : Nat => (("" : Str) :: zj tb.ws).map fun z => (i + 1, z)) (k := tb.ws.length + 1) (fun i => by rw [List.length_map, List.length_cons]; unfold zj; rw [List.length_map]; exact Nat.le_refl _) (List.range (tb.ws.length + 1 + 2 * tb.ps.length + 1))
 rw [List.length_range] at hf
 omega
theorem ChOk.step {tb : Tb} (hst : ∀ s, StOk tb s → StS s) (hn : (zj tb.ws).Nodup) {p : Prs} {c : List Prs} (h : ChOk tb p c) {w : Str} {m n : Part × Sta} (hm : m ∈ yz tb p.1 w) (hn2 : n ∈ yz tb p.2.1 w) (hf : kba m.2 n.2 (p.2.2 || decide (m.1 ≠ n.1)) ∉ p :: c) : ChOk tb (kba m.2 n.2 (p.2.2 || decide (m.1 ≠ n.1))) (p :: c) := by
 have hT := h.tw p List.mem_cons_self
 have hl := hT.le hn hm hn2
 refine ⟨fun q m => ?_, List.pairwise_cons.mpr ⟨fun q mq => ⟨fun e => hf (by rw [e]; exact mq), ?_⟩, h.pw⟩⟩
 ·rcases List.mem_cons.mp m with rfl | m
  ·exact hT.put hst hm hn2
  ·exact h.tw q m
 ·rcases List.mem_cons.mp mq with rfl | mq
  ·exact hl
  ·exact ((List.pairwise_cons.mp h.pw).1 q mq).2.trans hl
def wt (φ : Sta → Nat) (p : Prs) : Nat := if p.2.2 = true then φ p.1 + φ p.2.1 else φ p.1
theorem cnt_snoc {tb : Tb} {φ : Sta → Nat} {w : Str} : ∀ (row : List Str) (s : Sta), cntP tb φ s (row ++ [w]) = cntP tb (fun t => ((yz tb t w).map fun m => φ m.2).sum) s row
 | [], s => rfl
 | v :: row, s => by
  show ((yz tb s v).map fun m => cntP tb φ m.2 (row ++ [w])).sum = ((yz tb s v).map fun m => cntP tb _ m.2 row).sum
  exact sum_congr fun m _ => cnt_snoc row m.2
def WtOk (tb : Tb) (row : List Str) (p : Prs) : Prop := ∀ φ : Sta → Nat, wt φ p ≤ cntP tb φ sta0 row
theorem WtOk.step {tb : Tb} {row : List Str} {p : Prs} (h : WtOk tb row p) (he : p.2.2 = false → p.1 = p.2.1) {w : Str} {m n : Part × Sta} (hm : m ∈ yz tb p.1 w) (hn : n ∈ yz tb p.2.1 w) : WtOk tb (row ++ [w]) (kba m.2 n.2 (p.2.2 || decide (m.1 ≠ n.1))) := fun φ => by
 rw [cnt_snoc]
 refine Nat.le_trans ?_ (h _)
 have hsw : wt φ (kba m.2 n.2 (p.2.2 || decide (m.1 ≠ n.1))) = wt φ (m.2, n.2, (p.2.2 || decide (m.1 ≠ n.1))) := by
  unfold kba
  split
  ·rename_i c
   unfold wt
   dsimp only
   rw [if_pos rfl, if_pos c.1]; omega
  ·rfl
 rw [hsw]
 unfold wt
 dsimp only
 have h1 := jbn (g := fun x : Part × Sta => φ x.2) hm
 have h2 := jbn (g := fun x : Part × Sta => φ x.2) hn
 cases hf : p.2.2 with
 | true =>
  rw [Bool.true_or, if_pos rfl, if_pos rfl]
  omega
 | false =>
  rw [Bool.false_or, if_neg (show ¬ false = true by decide)]
  by_cases c : m.1 = n.1
  ·rw [decide_eq_false (fun z => z c), if_neg (show ¬ false = true by decide)]
   exact h1
  ·rw [decide_eq_true c, if_pos rfl]
   rw [← he hf] at hn
   exact sum_two (g := fun x : Part × Sta => φ x.2) hm hn fun e => c (by rw [e])
end SG
namespace SG
open PySem L2 PL LW
variable {α : Type} [DecidableEq α] {f : α → D} {k : α → NestedKey} {P : α → Prop}
theorem KeyW.pairs (h : KeyW f k P) {v : D} : ∀ {as : List α}, (∀ a ∈ as, P a) → pairsN (as.map fun a => D.tup [f a, v]) = some (as.map fun a => (f a, k a, v))
 | [], _ => rfl
 | a :: as, hp => by
  rw [List.map_cons, List.map_cons]
  unfold pairsN
  rw [KeyW.pairs h fun b m => hp b (List.mem_cons_of_mem _ m)]
  unfold pairN
  dsimp only
  rw [h.ok a (hp a List.mem_cons_self)]
  rfl
theorem KeyW.puts (h : KeyW f k P) {v : D} : ∀ {as acc : List α}, (∀ a ∈ as, P a) → (∀ a ∈ acc, P a) → putsN (acc.map fun a => (f a, v)) (as.map fun a => (f a, k a, v)) = (as.foldl addA acc).map fun a => (f a, v)
 | [], acc, _, _ => rfl
 | a :: as, acc, hp, hq => by
  have ha := hp a List.mem_cons_self
  show putsN (nSet (acc.map fun a => (f a, v)) (f a) (k a) v) (as.map fun a => (f a, k a, v)) = _
  rw [h.set_add hq ha, KeyW.puts h (fun b m => hp b (List.mem_cons_of_mem _ m)) fun b m => ?_]
  ·rfl
  ·unfold addA at m
   split at m
   ·exact hq b m
   ·rcases List.mem_append.mp m with m | m
    ·exact hq b m
    ·rw [List.mem_singleton.mp m]; exact ha
theorem KeyW.dict (h : KeyW f k P) {v : D} {Pr : Program} {w : World} {as : List α} (hp : ∀ a ∈ as, P a) : dictPD Pr w (.lst (as.map fun a => D.tup [f a, v])) = some (.new (.dn Pr w ((as.foldl addA []).map fun a => (f a, v)))) := by
 have hq := h.pairs (v := v) hp
 unfold dictPD
 dsimp only
 rw [hq]
 dsimp only
 have := h.puts (v := v) (acc := []) hp fun a m => nomatch m
 rw [List.map_nil] at this
 rw [this]
end SG
namespace SG
open PySem L2 PL LW
theorem leA_refl (a : Str) : leA a a = true := leA_iff.mpr (.inr ⟨rfl, leS_iff.mpr (List.lt_irrefl _)⟩)
end SG
namespace SG
open PySem L2 PL LW
end SG
namespace SG
open PySem L2 PL LW
def reV : Option Str → Part → Part
 | some v, .wish i _ => .wish i v
 | _, p => p
theorem reV_none (p : Part) : reV none p = p := by cases p <;> rfl
theorem map_none (l : List (Part × Sta)) : (l.map fun m => (reV none m.1, m.2)) = l := by
 have : (fun m : Part × Sta => (reV none m.1, m.2)) = id := funext fun m => by rw [reV_none]; rfl
 rw [this, List.map_id]
end SG
namespace SG
open PySem L2 PL LW
theorem kax {a b : Str} : w4 a b = true ↔ leA b a = false := by unfold leA; simp
theorem ybj (a : Str) : w4 a a = false := by
 have := leA_refl a
 unfold leA at this
 simpa using this
theorem aheadS_le {a b : Str} (h : w4 a b = true) : leA a b = true := by
 have := leA_total a b
 rw [kax] at h
 rw [h, Bool.or_false] at this
 exact this
theorem yb3 {a b c : Str} (h1 : w4 a b = true) (h2 : w4 b c = true) : w4 a c = true := by
 rw [kax, Bool.eq_false_iff]
 intro z
 have := leA_trans _ _ _ z (aheadS_le h1)
 rw [kax] at h2
 rw [h2] at this; cases this
def rowLt : List Str → List Str → Bool
 | a :: as, b :: bs => if a = b then rowLt as bs else w4 a b
 | [], _ :: _ => true
 | _, [] => false
def vg (r s : List Str) : Bool := if r.length = s.length then rowLt r s else decide (r.length < s.length)
theorem rl_irr : ∀ r : List Str, rowLt r r = false
 | [] => rfl
 | a :: r => by unfold rowLt; rw [if_pos rfl]; exact rl_irr r
theorem rl_trans : ∀ {r s t : List Str}, rowLt r s = true → rowLt s t = true → rowLt r t = true
 | [], [], _, h, _ => by cases h
 | [], _ :: _, [], _, h => by cases h
 | [], _ :: _, _ :: _, _, _ => rfl
 | _ :: _, [], _, h, _ => by cases h
 | _ :: _, _ :: _, [], _, h => by cases h
 | a :: r, b :: s, c :: t, h1, h2 => by
  unfold rowLt at h1 h2 ⊢
  by_cases e1 : a = b
  ·subst e1
   rw [if_pos rfl] at h1
   by_cases e2 : a = c
   ·subst e2
    rw [if_pos rfl] at h2 ⊢
    exact rl_trans h1 h2
   ·rw [if_neg e2] at h2 ⊢; exact h2
  ·rw [if_neg e1] at h1
   by_cases e2 : b = c
   ·subst e2
    rw [if_neg e1]; exact h1
   ·rw [if_neg e2] at h2
    have h3 := yb3 h1 h2
    rw [if_neg (fun z => by rw [z, ybj] at h3; cases h3)]
    exact h3
theorem ra_irr (r : List Str) : vg r r = false := by unfold vg; rw [if_pos rfl]; exact rl_irr r
theorem ra_iff {r s : List Str} : vg r s = true ↔ r.length < s.length ∨ (r.length = s.length ∧ rowLt r s = true) := by
 unfold vg
 split
 ·rename_i e
  exact ⟨fun h => .inr ⟨e, h⟩, fun h => h.elim (fun z => by omega) (·.2)⟩
 ·rename_i e
  rw [decide_eq_true_iff]
  exact ⟨.inl, fun h => h.elim id fun z => absurd z.1 e⟩
theorem ra_trans {r s t : List Str} (h1 : vg r s = true) (h2 : vg s t = true) : vg r t = true := by
 rw [ra_iff] at h1 h2 ⊢
 rcases h1 with h1 | ⟨h1, h3⟩
 ·rcases h2 with h2 | ⟨h2, _⟩ <;> exact .inl (by omega)
 ·rcases h2 with h2 | ⟨h2, h4⟩
  ·exact .inl (by omega)
  ·exact .inr ⟨by omega, rl_trans h3 h4⟩
theorem rl_app : ∀ {r s : List Str} (x y : List Str), r.length = s.length → rowLt r s = true → rowLt (r ++ x) (s ++ y) = true
 | [], [], _, _, _, h => by cases h
 | [], _ :: _, _, _, e, _ => by cases e
 | _ :: _, [], _, _, e, _ => by cases e
 | a :: r, b :: s, x, y, e, h => by
  rw [List.cons_append, List.cons_append]
  unfold rowLt at h ⊢
  split
  ·rename_i q
   rw [if_pos q] at h
   exact rl_app x y (by simpa using e) h
  ·rename_i q
   rw [if_neg q] at h; exact h
theorem ra_app {r s : List Str} (x y : Str) (h : vg r s = true) : vg (r ++ [x]) (s ++ [y]) = true := by
 rw [ra_iff] at h ⊢
 rw [List.length_append, List.length_append, List.length_singleton, List.length_singleton]
 rcases h with h | ⟨h1, h2⟩
 ·exact .inl (by omega)
 ·exact .inr ⟨by omega, rl_app _ _ h1 h2⟩
theorem rl_last {x y : Str} (h : w4 x y = true) : ∀ r : List Str, rowLt (r ++ [x]) (r ++ [y]) = true
 | [] => by
  show (if x = y then rowLt [] [] else w4 x y) = true
  rw [if_neg (fun z => by rw [z, ybj] at h; cases h)]
  exact h
 | a :: r => by
  rw [List.cons_append, List.cons_append]
  unfold rowLt
  rw [if_pos rfl]
  exact rl_last h r
theorem ra_last {x y : Str} (h : w4 x y = true) (r : List Str) : vg (r ++ [x]) (r ++ [y]) = true := by
 rw [ra_iff]
 exact .inr ⟨by rw [List.length_append, List.length_append]; rfl, rl_last h r⟩
theorem ra_nil {r : List Str} (h : r ≠ []) : vg [] r = true := by
 rw [ra_iff]
 exact .inl (by cases r with
  | nil => exact absurd rfl h
  | cons a r => exact Nat.succ_pos _)
section
variable {μ : Type} [DecidableEq μ]
def gPut (succ : List μ → Str → List μ) (row : List Str) (ms : List μ) (q : List (List Str × List μ) × List μ) (w : Str) : List (List Str × List μ) × List μ :=
 if ((succ ms w).filter fun p => !decide (p ∈ q.2)) = [] then q else (q.1 ++ [(row ++ [w], (succ ms w).filter fun p => !decide (p ∈ q.2))], q.2 ++ (succ ms w).filter fun p => !decide (p ∈ q.2))
def Dn (a : Nat) (dn : List Str) (i : Nat) (w : Str) : Prop := i < a ∨ (i = a ∧ w ∈ dn)
structure GI (succ : List μ → Str → List μ) (P : μ → Prop) (ms0 : List μ) (ws : List Str) (a : Nat) (dn : List Str) (q : List (List Str × List μ) × List μ) : Prop where
 first : ∃ t, q.1 = ([], ms0) :: t
 seen : ∀ p ∈ q.2, ∃ x ∈ q.1, p ∈ x.2
 nd : q.2.Nodup
 pr : ∀ p ∈ q.2, P p
 pr1 : ∀ x ∈ q.1, ∀ p ∈ x.2, P p
 len : q.1.length ≤ q.2.length + 1
 inc : q.1.Pairwise fun x y => vg x.1 y.1 = true
 over : ∀ x ∈ q.1, ∀ w ∈ x.1, w ∈ ws
 rch : ∀ x ∈ q.1, ∀ p ∈ x.2, p ∈ x.1.foldl succ ms0
 clo : ∀ i x w, Dn a dn i w → w ∈ ws → q.1[i]? = some x → ∀ p ∈ succ x.2 w, ∃ y ∈ q.1, p ∈ y.2 ∧ vg (x.1 ++ [w]) y.1 = false
 par : ∀ y ∈ q.1, y.1 = [] ∨ ∃ i x w, Dn a dn i w ∧ q.1[i]? = some x ∧ y.1 = x.1 ++ [w]
variable {succ : List μ → Str → List μ} {P : μ → Prop} {ms0 : List μ} {ws : List Str} {e : μ → Bool}
theorem jay {α : Type} {l : List α} {t : List α} {i : Nat} {x : α} (h : l[i]? = some x) : (l ++ t)[i]? = some x := by
 rw [List.getElem?_append_left (List.getElem?_eq_some_iff.mp h).1]; exact h
theorem inc_of {q : List (List Str × List μ)} (h : q.Pairwise fun x y => vg x.1 y.1 = true) {i j : Nat} {x y : List Str × List μ} (hx : q[i]? = some x) (hy : q[j]? = some y) (hl : i < j) : vg x.1 y.1 = true := by
 obtain ⟨h1, e1⟩ := List.getElem?_eq_some_iff.mp hx
 obtain ⟨h2, e2⟩ := List.getElem?_eq_some_iff.mp hy
 have := List.pairwise_iff_getElem.mp h i j h1 h2 hl
 rw [e1, e2] at this
 exact this
theorem GI.put (hd : ∀ ms w, (succ ms w).Nodup) (hP : ∀ ms w, (∀ p ∈ ms, P p) → ∀ p ∈ succ ms w, P p) (hS : ∀ ms w p, p ∈ succ ms w ↔ ∃ m ∈ ms, p ∈ succ [m] w) {a : Nat} {dn : List Str} {q : List (List Str × List μ) × List μ} (h : GI succ P ms0 ws a dn q) {row : List Str} {ms : List μ} (hx : q.1[a]? = some (row, ms)) {w : Str} (hw : w ∈ ws) (hdn : ∀ d ∈ dn, w4 d w = true) :
  GI succ P ms0 ws a (dn ++ [w]) (gPut succ row ms q w) := by
 have ahead : ∀ y ∈ q.1, vg y.1 (row ++ [w]) = true := fun y m => by
  rcases h.par y m with z | ⟨i, x, v, d, hi, z⟩
  ·rw [z]; exact ra_nil (by simp)
  ·rw [z]
   rcases d with d | ⟨rfl, d⟩
   ·exact ra_app _ _ (inc_of h.inc hi hx d)
   ·rw [hx] at hi
    cases hi
    exact ra_last (hdn v d) row
 have mono : ∀ i v, Dn a dn i v → Dn a (dn ++ [w]) i v := fun i v d => d.elim .inl fun z => .inr ⟨z.1, List.mem_append_left _ z.2⟩
 have hmx : (row, ms) ∈ q.1 := List.mem_of_getElem? hx
 unfold gPut
 split
 ·rename_i hn
  refine ⟨h.first, h.seen, h.nd, h.pr, h.pr1, h.len, h.inc, h.over, h.rch, fun i x v d hv hi p hp => ?_, fun y m => ?_⟩
  ·by_cases d0 : Dn a dn i v
   ·exact h.clo i x v d0 hv hi p hp
   ·obtain ⟨rfl, hv2⟩ : i = a ∧ v = w := by
     rcases d with d | ⟨d1, d2⟩
     ·exact absurd (.inl d) d0
     ·rcases List.mem_append.mp d2 with d2 | d2
      ·exact absurd (.inr ⟨d1, d2⟩) d0
      ·exact ⟨d1, List.mem_singleton.mp d2⟩
    subst hv2
    rw [hx] at hi
    cases hi
    have hs : p ∈ q.2 := by
     refine Classical.byContradiction fun z => ?_
     have : p ∈ (succ ms v).filter fun p => !decide (p ∈ q.2) := List.mem_filter.mpr ⟨hp, by simp [z]⟩
     rw [hn] at this; cases this
    obtain ⟨y, hy, hpy⟩ := h.seen p hs
    refine ⟨y, hy, hpy, ?_⟩
    rw [Bool.eq_false_iff]
    intro z
    have := ra_trans (ahead y hy) z
    rw [ra_irr] at this; cases this
  ·rcases h.par y m with z | ⟨i, x, v, d, hi, z⟩
   ·exact .inl z
   ·exact .inr ⟨i, x, v, mono i v d, hi, z⟩
 ·rename_i hn
  have hfr : ∀ p, p ∈ ((succ ms w).filter fun p => !decide (p ∈ q.2)) ↔ p ∈ succ ms w ∧ p ∉ q.2 := fun p => by
   rw [List.mem_filter]; simp
  have hfd : ((succ ms w).filter fun p => !decide (p ∈ q.2)).Nodup := (hd ms w).filter _
  generalize ((succ ms w).filter fun p => !decide (p ∈ q.2)) = fr at hn hfr hfd ⊢
  have hfl : 1 ≤ fr.length := by
   cases fr with
   | nil => exact absurd rfl hn
   | cons a r => exact Nat.succ_pos _
  refine ⟨?_, fun p m => ?_, ?_, fun p m => ?_, fun x m => ?_, ?_, ?_, fun x m => ?_, fun x m => ?_, fun i x v d hv hi p hp => ?_, fun y m => ?_⟩
  ·obtain ⟨t, ht⟩ := h.first
   exact ⟨t ++ [(row ++ [w], fr)], by rw [ht]; rfl⟩
  ·rcases List.mem_append.mp m with m | m
   ·obtain ⟨x, hx, hp⟩ := h.seen p m
    exact ⟨x, List.mem_append_left _ hx, hp⟩
   ·exact ⟨_, List.mem_append_right _ (List.mem_singleton.mpr rfl), m⟩
  ·rw [List.nodup_append]
   refine ⟨h.nd, hfd, fun x hx y hy z => ?_⟩
   subst z
   exact ((hfr x).mp hy).2 hx
  ·rcases List.mem_append.mp m with m | m
   ·exact h.pr p m
   ·exact hP ms w (h.pr1 _ hmx) p ((hfr p).mp m).1
  ·rcases List.mem_append.mp m with m | m
   ·exact h.pr1 x m
   ·rw [List.mem_singleton.mp m]
    exact fun p hp => hP ms w (h.pr1 _ hmx) p ((hfr p).mp hp).1
  ·have := h.len
   rw [List.length_append, List.length_append, List.length_singleton]
   omega
  ·rw [List.pairwise_append]
   refine ⟨h.inc, List.pairwise_singleton _ _, fun x hx y hy => ?_⟩
   rw [List.mem_singleton.mp hy]
   exact ahead x hx
  ·rcases List.mem_append.mp m with m | m
   ·exact h.over x m
   ·rw [List.mem_singleton.mp m]
    intro v hv
    rcases List.mem_append.mp hv with hv | hv
    ·exact h.over _ hmx v hv
    ·rw [List.mem_singleton.mp hv]; exact hw
  ·rcases List.mem_append.mp m with m | m
   ·exact h.rch x m
   ·rw [List.mem_singleton.mp m]
    intro p hp
    show p ∈ (row ++ [w]).foldl succ ms0
    rw [List.foldl_append, List.foldl_cons, List.foldl_nil, hS]
    obtain ⟨m0, hm0, hp0⟩ := (hS ms w p).mp ((hfr p).mp hp).1
    exact ⟨m0, h.rch _ hmx m0 hm0, hp0⟩
  ·have ha : a < q.1.length := (List.getElem?_eq_some_iff.mp hx).1
   have hil : i < q.1.length := by
    rcases d with d | ⟨rfl, _⟩
    ·omega
    ·exact ha
   rw [List.getElem?_append_left hil] at hi
   by_cases d0 : Dn a dn i v
   ·obtain ⟨y, hy, h1, h2⟩ := h.clo i x v d0 hv hi p hp
    exact ⟨y, List.mem_append_left _ hy, h1, h2⟩
   ·obtain ⟨rfl, hv2⟩ : i = a ∧ v = w := by
     rcases d with d | ⟨d1, d2⟩
     ·exact absurd (.inl d) d0
     ·rcases List.mem_append.mp d2 with d2 | d2
      ·exact absurd (.inr ⟨d1, d2⟩) d0
      ·exact ⟨d1, List.mem_singleton.mp d2⟩
    subst hv2
    rw [hx] at hi
    cases hi
    by_cases hs : p ∈ q.2
    ·obtain ⟨y, hy, hpy⟩ := h.seen p hs
     refine ⟨y, List.mem_append_left _ hy, hpy, ?_⟩
     rw [Bool.eq_false_iff]
     intro z
     have := ra_trans (ahead y hy) z
     rw [ra_irr] at this; cases this
    ·exact ⟨_, List.mem_append_right _ (List.mem_singleton.mpr rfl), (hfr p).mpr ⟨hp, hs⟩, ra_irr _⟩
  ·rcases List.mem_append.mp m with m | m
   ·rcases h.par y m with z | ⟨i, x, v, d, hi, z⟩
    ·exact .inl z
    ·exact .inr ⟨i, x, v, mono i v d, jay hi, z⟩
   ·rw [List.mem_singleton.mp m]
    exact .inr ⟨a, (row, ms), w, .inr ⟨rfl, List.mem_append_right _ (List.mem_singleton.mpr rfl)⟩, jay hx, rfl⟩
theorem GI.step {a : Nat} {q : List (List Str × List μ) × List μ} (h : GI succ P ms0 ws a ws q) : GI succ P ms0 ws (a + 1) [] q :=
 ⟨h.first, h.seen, h.nd, h.pr, h.pr1, h.len, h.inc, h.over, h.rch, fun i x w d hw => h.clo i x w (by
  rcases d with d | ⟨_, d⟩
  ·rcases Nat.lt_or_eq_of_le (Nat.le_of_lt_succ d) with z | z
   ·exact .inl z
   ·exact .inr ⟨z, hw⟩
  ·cases d) hw, fun y m => by
  rcases h.par y m with z | ⟨i, x, w, d, hi, z⟩
  ·exact .inl z
  ·exact .inr ⟨i, x, w, .inl (by rcases d with d | ⟨d, _⟩ <;> omega), hi, z⟩⟩
end
end SG
namespace SG
open PySem L2 PL LW
end SG
namespace SG
open PySem L2 PL LW
end SG
namespace PL
open PySem L2 PySem.Spec PyProof.Rows
end PL
namespace SG
open PySem L2 PL LW
def OnTo (tb : Tb) (s : Sta) (n : Nat) : Prop := ∃ r : List Str, r.length ≤ n ∧ (∀ w ∈ r, goodW w = true) ∧ EndF tb s r
theorem OnTo.le {tb : Tb} {s : Sta} {n k : Nat} (h : OnTo tb s n) (hk : n ≤ k) : OnTo tb s k := by
 obtain ⟨r, h1, h2⟩ := h
 exact ⟨r, Nat.le_trans h1 hk, h2⟩
end SG
namespace SG
open PySem L2 PL LW
end SG
namespace SG
open PySem L2 PL LW
end SG
namespace SG
open PySem L2 PL LW
abbrev Mv := Sta → Str → List (Part × Sta)
noncomputable def pairL (mv : Mv) (w : Str) (ms : List Prs) : List Prs := ms.flatMap fun p => (mv p.1 w).flatMap fun m => (mv p.2.1 w).map fun n => (m.2, n.2, p.2.2 || decide (m.1 ≠ n.1))
def Swp (p q : Prs) : Prop := q = p ∨ (p.2.2 = true ∧ q = (p.2.1, p.1, true))
theorem Swp.put (a b : Sta) (f : Bool) : Swp (a, b, f) (kba a b f) := by
 unfold kba
 split
 ·rename_i c
  exact .inr ⟨c.1, rfl⟩
 ·exact .inl rfl
theorem Swp.symm {p q : Prs} (h : Swp p q) : Swp q p := by
 obtain ⟨a, b, f⟩ := p
 rcases h with rfl | ⟨h1, rfl⟩
 ·exact .inl rfl
 ·dsimp only at h1
  subst h1
  exact .inr ⟨rfl, rfl⟩
theorem Swp.trans {p q r : Prs} (h : Swp p q) (k : Swp q r) : Swp p r := by
 obtain ⟨a, b, f⟩ := p
 rcases h with rfl | ⟨h1, rfl⟩
 ·exact k
 ·dsimp only at h1
  subst h1
  rcases k with rfl | ⟨_, rfl⟩
  ·exact .inr ⟨rfl, rfl⟩
  ·exact .inl rfl
end SG
namespace SG
open PySem L2 PL LW
end SG
namespace SG
open PySem L2 PL LW
end SG
namespace PL
open PySem PySem.Spec PyProof.Rows L2
end PL
namespace PL
open PySem PySem.Spec PyProof.Rows L2
end PL
namespace PL
open PySem PySem.Spec PyProof.Rows L2
end PL
namespace PL
open PySem PySem.Spec PyProof.Rows L2
end PL
namespace SG
open PySem L2 PL LW
end SG
namespace PL
open PySem L2 PySem.Spec PyProof.Rows
abbrev TL3 := List (List (List Str))
def twD (w : List Str) : D := .lst (w.map fun z => .s (.str z))
def tgD (ts : List (List Str)) : D := .lst (ts.map twD)
def tsD (tss : TL3) : D := .lst (tss.map tgD)
def TxL (H : Hp) (Z : Addr → Prop) (a : Addr) (ws : List Str) : Prop := H a = some (.lst (ws.map V.str)) ∧ Z a
def TgL (H : Hp) (Z : Addr → Prop) (a : Addr) (ts : List (List Str)) : Prop := ∃ bs : List Addr, H a = some (.lst (bs.map V.ref)) ∧ Z a ∧ EIs (TxL H Z) bs ts
structure NL (H : Hp) (Z : Addr → Prop) (p : Addr) (as : List Addr) (tss : TL3) : Prop where
 top : H p = some (.lst (as.map V.ref))
 old : Z p
 nd : as.Nodup
 mid : EIs (TgL H Z) as tss
open Classical in
noncomputable def coreL (S : Addr → Prop) (H : Hp) : Hp := fun b => if S b then none else match H b with
 | some (.lst xs) => some (.lst xs)
 | _ => none
section
variable {K : PySem.W.Frag} {S Z : Addr → Prop} {H H' : Hp}
theorem qbu {a : Addr} {xs : List V} (h : H a = some (.lst xs)) (n : ¬ S a) : coreL S H a = some (.lst xs) := by unfold coreL; rw [if_neg n, h]
theorem is_tw {C : Hp} {a : Addr} {ws : List Str} (h : C a = some (.lst (ws.map V.str))) : Is K C (twD ws) (.ref a) := by
 refine is_lst_iff.mpr ⟨a, _, rfl, h, ?_⟩
 clear h
 induction ws with
 | nil => exact jg
 | cons w ws ih => exact ze is_s ih
theorem is_tg {C : Hp} {a : Addr} {ts : List (List Str)} {bs : List Addr} (h : C a = some (.lst (bs.map V.ref))) (hb : EIs (fun b w => C b = some (.lst (w.map V.str))) bs ts) : Is K C (tgD ts) (.ref a) := by
 refine is_lst_iff.mpr ⟨a, _, rfl, h, ?_⟩
 clear h
 induction hb with
 | nil => exact jg
 | cons h _ ih => exact ze (is_tw h) ih
theorem NL.is {p : Addr} {as : List Addr} {tss : TL3} (n : NL H Z p as tss) (hS : ∀ a, Z a → ¬ S a) : Is K (coreL S H) (tsD tss) (.ref p) := by
 refine is_lst_iff.mpr ⟨p, _, rfl, qbu n.top (hS p n.old), ?_⟩
 have := n.mid
 clear n
 induction this with
 | nil => exact jg
 | cons h _ ih =>
  obtain ⟨bs, h1, h2, h3⟩ := h
  exact ze (is_tg (qbu h1 (hS _ h2)) (h3.mono fun b w z => qbu z.1 (hS b z.2))) ih
theorem NL.stay {p : Addr} {as : List Addr} {tss : TL3} (n : NL H Z p as tss) (k : ∀ a xs, Z a → H a = some (.lst xs) → H' a = some (.lst xs)) : NL H' Z p as tss :=
 ⟨k _ _ n.old n.top, n.old, n.nd, n.mid.mono fun a ts ⟨bs, h1, h2, h3⟩ => ⟨bs, k _ _ h2 h1, h2, h3.mono fun b w z => ⟨k _ _ z.2 z.1, z.2⟩⟩⟩
end
def rho (n : Nat) (f : Nat → Cell) : En := (List.range n).map f
end PL
namespace PL
open PySem L2 PySem.Spec PyProof.Rows
def lstD1 : List D → Option (List Str)
 | [] => some []
 | .s (.str z) :: ds => match lstD1 ds with
  | some zs => some (z :: zs)
  | none => none
 | _ => none
def cellW : Option Cell → Option (List Str)
 | some (.dat (.lst ds)) => lstD1 ds
 | _ => none
def cellR : Option Cell → Option (List Str)
 | some (.own (.lst ds)) => lstD1 ds
 | _ => none
def cellS : Option Cell → Option Str
 | some (.dat (.s (.str w))) => some w
 | _ => none
def cellI : Option Cell → Option Int
 | some (.dat (.s (.int w))) => some w
 | _ => none
def cellB : Option Cell → Option Bool
 | some (.dat (.s (.bl w))) => some w
 | _ => none
def outB : Option (Out Bool) → Option Bool
 | some (.ok b _) => some b
 | _ => none
def outN : Option (Out Fl) → Option En
 | some (.ok .next r) => some r
 | _ => none
def fT (tss : TL3) (ws : List Str) : Nat → Cell
 | 0 => .dat (tsD tss)
 | 1 => .dat (twD ws)
 | _ => .no
def fG (tss : TL3) (ws : List Str) (stp : Bool) : Nat → Cell
 | 0 => .dat (tsD tss)
 | 1 => .dat (twD ws)
 | 3 => .dat (.s (.bl stp))
 | _ => .no
def fK (k : Int) : Nat → Cell
 | 6 => .dat (.s (.int k))
 | _ => .no
def fH (ws rs : List Str) (w : Str) : Nat → Cell
 | 1 => .dat (twD ws)
 | 2 => .own (.lst (rs.map fun z => .s (.str z)))
 | 5 => .dat (.s (.str w))
 | _ => .no
def fJ (rs : List Str) : Nat → Cell
 | 2 => .own (.lst (rs.map fun z => .s (.str z)))
 | _ => .no
def frR (n : Nat) (fc : PL.P Bool) (g : PL.P Fl) (t1 t2 : PL.P Bool) (h1 h2 : PL.P Fl) : Nat → TL3 → List Str → List Str → Bool → Option (List Str)
 | 0, _, _, _, _ => none
 | m + 1, tss, ws, rs, stp => match outB (fc (rho n (fT tss ws))) with
  | none => none
  | some false => some rs
  | some true => match outN (g (rho n (fG tss ws stp))) with
   | none => none
   | some r => match cellS r[5]?, cellI r[6]? with
    | some w, some k => match outB (t1 (rho n (fK k))), outB (t2 (rho n (fK k))) with
     | some true, _ => if 0 ≤ k then (match tss[k.toNat]? with
      | some (t :: ts) => if rs.length + t.length ≤ sizeLine then frR n fc g t1 t2 h1 h2 m (tss.set k.toNat ts) ws (rs ++ t) stp else none
      | _ => none) else none
     | some false, some true => (match outN (h1 (rho n (fH ws rs w))) with
      | none => none
      | some r => match cellW r[1]?, cellR r[2]? with
       | some ws', some rs' => frR n fc g t1 t2 h1 h2 m tss ws' rs' stp
       | _, _ => none)
     | some false, some false => (match outN (h2 (rho n (fJ rs))) with
      | none => none
      | some r => match cellR r[2]?, cellB r[3]? with
       | some rs', some b => frR n fc g t1 t2 h1 h2 m tss ws rs' b
       | _, _ => none)
     | _, _ => none
    | _, _ => none
structure FS (K : PySem.W.Frag) (n : Nat) (H0 : Hp) (p : Addr) (as : List Addr) (H : Hp) (σ : Sl) (q aw : Addr) (tss : TL3) (ws rs : List Str) (stp : Bool) : Prop where
 len : σ.length = n
 nl : NL H (fun b => H0 b ≠ none) p as tss
 s0 : σ[0]? = some (some (.ref p))
 s1 : σ[1]? = some (some (.ref aw))
 s2 : σ[2]? = some (some (.ref q))
 s3 : σ[3]? = some (some (.bl stp))
 w : H aw = some (.lst (ws.map V.str))
 r : H q = some (.lst (rs.map V.str))
 qn : H0 q = none
 qw : aw ≠ q
 keep : ∀ b o, H0 b = some o → NT o → b ∉ as → H b = some o
 dom : ∀ b, H b = none → H0 b = none
 tab : ∀ P, TabP K P → TS1 H P
 tabs : ∀ P, TS1 H0 P → TS1 H P
structure Kpt (q : Addr) (H H' : Hp) : Prop where
 keep : ∀ b o, H b = some o → NT o → b ≠ q → H' b = some o
 dom : ∀ b, H' b = none → H b = none
 tabs : ∀ P, TS1 H P → TS1 H' P
section
variable {K : PySem.W.Frag} {W : WX} {n : Nat} {H0 H H' : Hp} {p q aw : Addr} {as : List Addr} {σ σ' : Sl} {tss : TL3} {ws rs : List Str} {stp : Bool}
theorem Kpt.of {C C' : Hp} {A : Addr → Prop} (s : Step C H C' H' A) (hA : ∀ b, A b → b = q) : Kpt q H H' := ⟨fun b o e nt ne => s.keep b o e nt fun z => ne (hA b z), s.dom, s.tabs⟩
theorem FS.notq (f : FS K n H0 p as H σ q aw tss ws rs stp) {b : Addr} (h : H0 b ≠ none) : b ≠ q := fun e => h (by rw [e]; exact f.qn)
theorem FS.move (f : FS K n H0 p as H σ q aw tss ws rs stp) (k : Kpt q H H') (hl : σ'.length = n) (h0 : σ'[0]? = σ[0]?) {aw' : Addr} {ws' rs' : List Str} {stp' : Bool} (h1 : σ'[1]? = some (some (.ref aw'))) (h2 : σ'[2]? = σ[2]?) (h3 : σ'[3]? = some (some (.bl stp'))) (hw : H' aw' = some (.lst (ws'.map V.str))) (hr : H' q = some (.lst (rs'.map V.str))) (hq : aw' ≠ q) :
  FS K n H0 p as H' σ' q aw' tss ws' rs' stp' :=
 ⟨hl, f.nl.stay fun a xs z e => k.keep a _ e vw (f.notq z), h0.trans f.s0, h1, h2.trans f.s2, h3, hw, hr, f.qn, hq, fun b o e nt nb => k.keep b o (f.keep b o e nt nb) nt (f.notq (by rw [e]; exact fun z => nomatch z)), fun b e => f.dom b (k.dom b e), fun P h => k.tabs P (f.tab P h), fun P h => k.tabs P (f.tabs P h)⟩
theorem FS.same (f : FS K n H0 p as H σ q aw tss ws rs stp) (k : Kpt q H H') (hr : H' q = some (.lst (rs.map V.str))) : FS K n H0 p as H' σ q aw tss ws rs stp :=
 f.move k f.len rfl f.s1 rfl f.s3 (k.keep aw _ f.w vw f.qw) hr f.qw
variable {fc t1 t2 : PL.P Bool} {g h1 h2 : PL.P Fl} {tc tt1 tt2 : TT} {tg th1 th2 : TS}
end
end PL
namespace PL
open PySem L2 PySem.Spec PyProof.Rows
end PL
namespace PL
open PySem L2 PySem.Spec PyProof.Rows
def retT : Option (Out Fl) → Option (List Str)
 | some (.ok (.ret (.dat (.tup ds))) _) => lstD1 ds
 | _ => none
structure FRp where
 n : Nat
 gA : PL.P Fl
 fc : PL.P Bool
 g : PL.P Fl
 t1 : PL.P Bool
 t2 : PL.P Bool
 h1 : PL.P Fl
 h2 : PL.P Fl
 fr : PL.P Fl
 fuel : Nat
def FRp.run (F : FRp) (tss : TL3) (ws : List Str) : Option (List Str) := match outN (F.gA (rho F.n (fT tss ws))) with
 | none => none
 | some r => match cellR r[2]?, cellB r[3]? with
  | some rs, some b => match frR F.n F.fc F.g F.t1 F.t2 F.h1 F.h2 F.fuel tss ws rs b with
   | none => none
   | some rr => retT (F.fr (rho F.n (fJ rr)))
  | _, _ => none
end PL
namespace PL
open PySem L2 PySem.Spec PyProof.Rows
end PL
namespace PL
open PySem L2 PySem.Spec PyProof.Rows
def noOwn (ρ : En) : Bool := ρ.all fun c => match c with
 | .own _ => false
 | _ => true
def isNo (ρ : En) (i : Nat) : Bool := match ρ[i]? with
 | some .no => true
 | _ => false
def toR (a : Tgt) (fe : P Rv) : List D → En → Option (List D)
 | [], _ => some []
 | d :: ds, ρ => match a d ρ with
  | none => none
  | some ρ1 => if noOwn ρ1 && isNo ρ1 3 then (match fe ρ1 with
   | some (.ok (.new (.lst es)) ρ2) => match toR a fe ds ρ2 with
    | some r => some (.lst es :: r)
    | none => none
   | _ => none) else none
structure TOp where
 n : Nat
 g1 : PL.P Fl
 fi : PL.P (List D)
 a : Tgt
 fe : PL.P Rv
def TOp.run (T : TOp) (cs : List Cell) : Option (List D) := if noOwn cs then (match T.g1 (cs ++ List.replicate (T.n - cs.length) .no) with
 | some (.ok .next ρ1) => if noOwn ρ1 && isNo ρ1 3 then (match T.fi ρ1 with
  | some (.ok ds ρ2) => if noOwn ρ2 && decide (ds.length ≤ sizeLine) then toR T.a T.fe ds ρ2 else none
  | _ => none) else none
 | _ => none) else none
def TOp.fn (T : TOp) : PL.P Rv := fun cs => match T.run cs with
 | some ds => some (.ok (.new (.lst ds)) cs)
 | none => none
section
variable {K : PySem.W.Frag} {W : WX} {σ : Sl} {C H : Hp} {ρ : En}
structure TS3 (H0 C H : Hp) (σ : Sl) (q : Addr) (as : List Addr) (acc : List D) (K : PySem.W.Frag) : Prop where
 s : σ[3]? = some (some (.ref q))
 h : H q = some (.lst (as.map V.ref))
 c : C q = none
 is : Iss K C acc (as.map V.ref)
 nd : as.Nodup
 fr : ∀ a ∈ as, H0 a = none
 ex : ∀ a ∈ as, H a ≠ none
 q0 : H0 q = none
theorem TS3.step {H0 C H C' H' : Hp} {σ σ' : Sl} {q : Addr} {as : List Addr} {acc : List D} {A : Addr → Prop} (t : TS3 H0 C H σ q as acc K) (s : Step C H C' H' A) (hA : ¬ A q) (hs : σ'[3]? = σ[3]?) : TS3 H0 C' H' σ' q as acc K := by
 refine ⟨hs.trans t.s, s.keep q _ t.h vw hA, ?_, Iss.mono s.core _ _ t.is, t.nd, t.fr, fun a m z => t.ex a m (s.dom a z), t.q0⟩
 cases e : C' q with
 | none => rfl
 | some o =>
  rcases s.new q t.c (by rw [e]; exact fun z => nomatch z) with z | z
  ·rw [t.h] at z; cases z
  ·exact absurd z hA
end
end PL
namespace PL
open PySem L2 PySem.Spec PyProof.Rows
end PL
namespace PL
open PySem L2 PySem.Spec PyProof.Rows
def lstD2 : List D → Option (List (List Str))
 | [] => some []
 | .lst ds :: r => match lstD1 ds, lstD2 r with
  | some z, some zs => some (z :: zs)
  | _, _ => none
 | _ => none
def lstD3 : List D → Option TL3
 | [] => some []
 | .lst ds :: r => match lstD2 ds, lstD3 r with
  | some z, some zs => some (z :: zs)
  | _, _ => none
 | _ => none
def cellT : Option Cell → Option TL3
 | some (.dat (.lst ds)) => lstD3 ds
 | _ => none
def fQ (rr : List Str) : Nat → Cell
 | 6 => .dat (.tup (rr.map fun z => .s (.str z)))
 | _ => .no
structure RFp where
 n : Nat
 gA : PL.P Fl
 TO : TOp
 gB : PL.P Fl
 F : FRp
 gC : PL.P Fl
def RFp.fn (T : RFp) : PL.P Rv := fun cs => if noOwn cs = true then (match T.gA (cs ++ List.replicate (T.n - cs.length) .no) with
 | some (.ex e _) => some (.ex e cs)
 | some (.ok .next ρ1) => (match sSet 2 (wd 2 T.TO.fn (uD (fVar 0) (uD (fVar 1) uNil))) ρ1 with
  | some (.ok .next ρ2) => (match T.gB ρ2 with
   | some (.ex e _) => some (.ex e cs)
   | some (.ok .next ρ3) => (match cellT ρ2[2]? with
    | some tss => (match cellR ρ3[3]? with
     | some ws => (match T.F.run tss ws with
      | some rr => (match T.gC (rho T.n (fQ rr)) with
       | some (.ex e _) => some (.ex e cs)
       | some (.ok (.ret r) ρ5) => (match handed 0 ρ5 r with
        | some (.dat d) => some (.ok (.dat d) cs)
        | _ => none)
       | _ => none)
      | none => none)
     | none => none)
    | none => none)
   | _ => none)
  | _ => none)
 | _ => none) else none
end PL
namespace PL
open PySem L2 PySem.Spec PyProof.Rows PyProof PySem.AutoSeq1
end PL
namespace SG
open PySem L2 PL LW
end SG
namespace SG
open PySem L2 PL LW
end SG
namespace SG
open PySem L2 PL LW
end SG
namespace PL
open PySem PySem.Spec PyProof.Rows L2
end PL
namespace SG
open PySem L2 PL LW
end SG
namespace PL
open PySem L2
end PL
namespace SG
open PySem L2 PL LW
end SG
namespace PL
open PySem PySem.Spec PyProof.Rows L2
def datsAt (ρ : En) : List Nat → Option (List D)
 | [] => some []
 | i :: is => match ρ[i]? with
  | some (.dat d) => (match datsAt ρ is with
   | some ds => some (d :: ds)
   | none => none)
  | _ => none
theorem qbj {ρ : En} {Q : List D → Prop} : wpO (datsAt ρ []) Q ↔ Q [] := Iff.rfl
end PL
namespace PL
open PySem PySem.Spec PyProof.Rows L2
end PL
namespace SG
open PySem L2 PL LW
end SG
namespace SG
open PySem L2 PL LW
end SG
namespace SG
open PySem L2 PL LW
def t1 (v : Str) : Told := if v = "" then [] else [(0, v)]
def y1 (l : List Str) : List Int := List.replicate l.length 0
theorem vals1 {v : Str} (h : v ≠ "") : valsT (t1 v) 0 = [v] := by unfold t1; rw [if_neg h]; rfl
end SG
namespace PL
open PySem L2
end PL
namespace SG
open PySem L2 PL LW
end SG
namespace SG
open PySem L2 PL LW
end SG
namespace SG
open PySem L2 PL LW
end SG
namespace SG
open PySem L2 PL LW
end SG
namespace SG
open PySem L2 PL LW
end SG
namespace SG
open PySem L2 PL LW
end SG
namespace PL
open PySem L2
def repB (d : D) : Option Rv := match toPy d with
 | some p => if (p.showable && !p.hasDict && decide (p.depth ≤ 60) && decide (p.shown.length ≤ sizeLine)) = true then some (rvS p.shown) else none
 | none => none
def reprGD : List D → Option Rv
 | [.tup ds] => repB (.tup ds)
 | [.lst ds] => repB (.lst ds)
 | _ => none
end PL
namespace PL
open PySem L2 PySem.Spec PyProof.Rows
structure FnOkG (P : Program) (w : World) (K : PySem.W.Frag) (mg : Str → Option Value) (base : Heap) (k : Nat) (f : Addr) (fd : FuncData) (ps : List Str) (sp : Sp) : Prop where
 len : ∀ vs H Q E, sp vs H Q E → vs.length = ps.length
 run : ∀ A : Around, A.guards = some [] → ∀ (outer : List PySem.Env) (sh : Shared) (H : Hp) (args : Args) (us : List Value) (vs : List V) (Q : VK) (E : XK), Room k A → Env0 P w K mg base A outer sh H → BindsTo sh fd args (ps.zip us) → Vals vs us → sp vs H Q E →
  codeAny (model P w) A (.call (.ref f) args) (CR (L2.CX P w) outer P w H sh Q E) sh
section
variable {P : Program} {w : World} {K : PySem.W.Frag} {mg : Str → Option Value} {base : Heap}
theorem FnOkG.imp {k : Nat} {f : Addr} {fd : FuncData} {ps : List Str} {sp sp' : Sp} (F : FnOkG P w K mg base k f fd ps sp) (h : ∀ vs H Q E, sp' vs H Q E → sp vs H Q E) : FnOkG P w K mg base k f fd ps sp' :=
 ⟨fun vs H Q E q => F.len vs H Q E (h _ _ _ _ q), fun A gA outer sh H args us vs Q E r e b v q => F.run A gA outer sh H args us vs Q E r e b v (h _ _ _ _ q)⟩
variable {ι : Type} {X : ι → Cx} {k : Nat} {W : WX} {N : List Str} {sc : Scope} {x : Str} {p pos : Pos} {e : Expr} {es : List Expr} {ga : PL.P (List Arg)}
end
end PL
namespace SG
open PySem L2 PL LW
structure HdOk (tss : TL3) : Prop where
 ne : ∀ (i : Nat) (ts : List (List Str)) (t : List Str), tss[i]? = some ts → t ∈ ts → ∃ w r, t = w :: r ∧ bareW w = false ∧ w ≠ "--"
 inj : ∀ (i j : Nat) (ts us : List (List Str)) (t u : List Str), tss[i]? = some ts → tss[j]? = some us → t ∈ ts → u ∈ us → t.headD "" = u.headD "" → i = j
theorem set_at {tss : TL3} {i j : Nat} {ts us : List (List Str)} {t : List Str} (h : tss[i]? = some (t :: ts)) (hj : (tss.set i ts)[j]? = some us) : ∃ us', tss[j]? = some us' ∧ ∀ u ∈ us, u ∈ us' := by
 by_cases e : j = i
 ·subst e
  rw [List.getElem?_set_self (List.getElem?_eq_some_iff.mp h).1] at hj
  cases hj
  exact ⟨_, h, fun u m => List.mem_cons_of_mem _ m⟩
 ·rw [List.getElem?_set_ne (fun z => e z.symm)] at hj
  exact ⟨us, hj, fun u m => m⟩
theorem HdOk.set {tss : TL3} {i : Nat} {ts : List (List Str)} {t : List Str} (H : HdOk tss) (h : tss[i]? = some (t :: ts)) : HdOk (tss.set i ts) := by
 refine ⟨fun j us u hj m => ?_, fun j k us vs u v hj hk mu mv e => ?_⟩
 ·obtain ⟨us', h1, h2⟩ := set_at h hj
  exact H.ne j us' u h1 (h2 u m)
 ·obtain ⟨us', h1, h2⟩ := set_at h hj
  obtain ⟨vs', h3, h4⟩ := set_at h hk
  exact H.inj j k us' vs' u v h1 h3 (h2 u mu) (h4 v mv) e
end SG
namespace PL
open PySem L2 PySem.Spec PyProof.Rows
theorem vao {s : String} : okS (Str.ofString s) := okS_iff.mpr fun c m => by
 have e : (Str.ofString s).cps.toList = s.toList.map Char.toNat := signs_ofString s
 rw [e] at m
 obtain ⟨x, _, rfl⟩ := List.mem_map.mp m
 have := x.valid
 have h2 : x.toNat < 0x110000 := by
  rcases x.valid with h | h
  ·exact Nat.lt_trans h (by decide)
  ·exact h.2
 exact h2
theorem rchar_ok {q c : Nat} (hq : q < 0x110000) (hc : c < 0x110000) : ∀ x ∈ Builtin.Str.reprChar q c, x < 0x110000 := by
 have hex : ∀ (w x : Nat), x ∈ (let d := (Nat.toDigits 16 c).map Char.toNat; List.replicate (w - d.length) 48 ++ d) → x < 0x110000 := fun w x m => by
  rcases List.mem_append.mp m with m | m
  ·rw [List.mem_replicate] at m
   rw [m.2]; decide
  ·obtain ⟨y, _, rfl⟩ := List.mem_map.mp m
   rcases y.valid with h | h
   ·exact Nat.lt_trans h (by decide)
   ·exact h.2
 intro x m
 unfold Builtin.Str.reprChar at m
 dsimp only at m hex
 split at m
 ·simp only [List.mem_cons, List.not_mem_nil, or_false] at m
  rcases m with rfl | rfl
  ·decide
  ·exact hc
 ·split at m
  ·simp only [List.mem_cons, List.not_mem_nil, or_false] at m
   rcases m with rfl | rfl <;> decide
  ·split at m
   ·simp only [List.mem_cons, List.not_mem_nil, or_false] at m
    rcases m with rfl | rfl <;> decide
   ·split at m
    ·simp only [List.mem_cons, List.not_mem_nil, or_false] at m
     rcases m with rfl | rfl <;> decide
    ·split at m
     ·rw [List.mem_singleton.mp m]; exact hc
     ·split at m
      ·rcases List.mem_append.mp m with m | m
       ·simp only [List.mem_cons, List.not_mem_nil, or_false] at m
        rcases m with rfl | rfl <;> decide
       ·exact hex _ x m
      ·split at m
       ·rcases List.mem_append.mp m with m | m
        ·simp only [List.mem_cons, List.not_mem_nil, or_false] at m
         rcases m with rfl | rfl <;> decide
        ·exact hex _ x m
       ·rcases List.mem_append.mp m with m | m
        ·simp only [List.mem_cons, List.not_mem_nil, or_false] at m
         rcases m with rfl | rfl <;> decide
        ·exact hex _ x m
theorem okS_repr {z : Str} (h : okS z) : okS (reprText z) := okS_iff.mpr fun c m => by
 have hz := okS_iff.mp h
 have hq : reprQuote z < 0x110000 := by unfold reprQuote; split <;> decide
 have key : ∀ (l : List Nat) (acc : Array Nat), (∀ x ∈ l, x < 0x110000) → (∀ x ∈ acc.toList, x < 0x110000) → ∀ x ∈ (l.foldl (fun out c => out ++ (Builtin.Str.reprChar (reprQuote z) c).toArray) acc).toList, x < 0x110000 := by
  intro l
  induction l with
  | nil => intro acc _ h; exact h
  | cons a l ih =>
   intro acc hl ha
   refine ih _ (fun x m => hl x (List.mem_cons_of_mem _ m)) fun x m => ?_
   rw [Array.toList_append] at m
   rcases List.mem_append.mp m with m | m
   ·exact ha x m
   ·exact rchar_ok hq (hl a List.mem_cons_self) x (by simpa using m)
 unfold reprText at m
 dsimp only at m
 rw [Array.toList_push] at m
 rcases List.mem_append.mp m with m | m
 ·rw [← Array.foldl_toList] at m
  exact key z.cps.toList _ hz (fun x m => by
   simp only [List.mem_cons, List.not_mem_nil, or_false] at m
   rw [m]; exact hq) c m
 ·rw [List.mem_singleton.mp m]; exact hq
theorem okS_joinS (y : Str) (hy : okS y) : ∀ ps : List Str, (∀ p ∈ ps, okS p) → okS (Str.join y ps) := fun ps h => okS_iff.mpr fun c m => by
 have m : c ∈ TL.tl (Str.join y ps) := m
 rw [TL.tl_join] at m
 rcases LW.zbz m with z | ⟨z, q1, q2⟩
 ·exact okS_iff.mp hy c z
 ·obtain ⟨w, hw, rfl⟩ := List.mem_map.mp q1
  exact okS_iff.mp (h w hw) c q2
theorem okS_from : ∀ (ts : List Str) (k : Nat) (acc : Str), okS acc → (∀ t ∈ ts, okS t) → okS (textFrom k acc ts)
 | [], _, _, h, _ => h
 | t :: ts, k, acc, h, ht => by
  show okS (textFrom (k + 1) (acc ++ (if k > 0 then ", " else "" : String) ++ t) ts)
  exact okS_from ts (k + 1) _ (kav (kav h vao) (ht t List.mem_cons_self)) fun u m => ht u (List.mem_cons_of_mem _ m)
mutual
theorem kby : ∀ d : PyData, d.canLay0 = true → okS d.shown
 | .none, _ => vao
 | .bool b, _ => by cases b <;> exact vao
 | .int i, _ => vao
 | .str z, h => okS_repr (show okS z by simpa only [PyData.canLay0] using h)
 | .list xs, h => by
  show okS (textFrom 0 "[" (PyData.shownAll xs) ++ "]")
  exact kav (okS_from _ _ _ vao (qab xs (by simpa only [PyData.canLay0] using h))) vao
 | .tuple xs, h => by
  show okS (("(" : Str) ++ Str.join ", " (PyData.shownAll xs) ++ (if (PyData.shownAll xs).length == 1 then ",)" else ")" : String))
  exact kav (kav vao (okS_joinS _ vao _ (qab xs (by simpa only [PyData.canLay0] using h)))) vao
 | .dict _, h => by simp [PyData.canLay0] at h
theorem qab : ∀ xs : List PyData, PyData.canLayAll0 xs = true → ∀ t ∈ PyData.shownAll xs, okS t
 | [], _, t, m => by cases m
 | x :: xs, h, t, m => by
  have h' : x.canLay0 = true ∧ PyData.canLayAll0 xs = true := by simpa only [PyData.canLayAll0, Bool.and_eq_true] using h
  simp only [PyData.shownAll, List.mem_cons] at m
  rcases m with rfl | m
  ·exact kby x h'.1
  ·exact qab xs h'.2 t m
end
mutual
def kab : PyData → Bool
 | .none | .bool _ | .str _ => true
 | .int i => decide (i.natAbs < 10 ^ 12)
 | .list xs | .tuple xs => ku xs
 | .dict _ => false
def ku : List PyData → Bool
 | [] => true
 | x :: xs => kab x && ku xs
end
mutual
theorem sm_short : ∀ d : PyData, kab d = true → d.intsShort 13 = true ∧ d.showable = true ∧ d.hasDict = false
 | .none, _ => ⟨rfl, rfl, rfl⟩
 | .bool _, _ => ⟨rfl, rfl, rfl⟩
 | .str _, _ => ⟨rfl, rfl, rfl⟩
 | .int i, h => by
  have h : i.natAbs < 10 ^ 12 := by simpa only [kab, decide_eq_true_eq] using h
  refine ⟨?_, ?_, rfl⟩
  ·simp only [PyData.intsShort, decide_eq_true_eq]
   exact PyData.shown_int_le h
  ·show decide (i.natAbs.log2 < 1920) = true
   refine decide_eq_true ?_
   by_cases z : i.natAbs = 0
   ·rw [z]; decide
   ·have := (Nat.log2_lt z).mpr (Nat.lt_trans h (by decide : 10 ^ 12 < 2 ^ 100))
    omega
 | .list xs, h => by
  obtain ⟨h1, h2, h3⟩ := vak xs (by simpa only [kab] using h)
  exact ⟨by simpa only [PyData.intsShort] using h1, h2, by simpa only [PyData.hasDict] using h3⟩
 | .tuple xs, h => by
  obtain ⟨h1, h2, h3⟩ := vak xs (by simpa only [kab] using h)
  exact ⟨by simpa only [PyData.intsShort] using h1, h2, by simpa only [PyData.hasDict] using h3⟩
 | .dict _, h => by simp [kab] at h
theorem vak : ∀ xs : List PyData, ku xs = true → PyData.intsShortAll 13 xs = true ∧ PyData.showableAll xs = true ∧ PyData.hasDictAll xs = false
 | [], _ => ⟨rfl, rfl, rfl⟩
 | x :: xs, h => by
  have h' : kab x = true ∧ ku xs = true := by simpa only [ku, Bool.and_eq_true] using h
  obtain ⟨a1, a2, a3⟩ := sm_short x h'.1
  obtain ⟨b1, b2, b3⟩ := vak xs h'.2
  refine ⟨by simp only [PyData.intsShortAll, a1, b1, Bool.and_true], ?_, by simp only [PyData.hasDictAll, a3, b3, Bool.or_false]⟩
  show (x.showable && PyData.showableAll xs) = true
  rw [a2, b2]; rfl
end
structure Rp (d : D) : Prop where
 s : shp d = true
 p : dep d ≤ 50
 i : kab (py d) = true
 w : (py d).weight ≤ 2 ^ 20
theorem Rp.ok {d : D} (h : Rp d) : ∃ z, (py d).shown = z ∧ okS z ∧ repB d = some (rvS z) := by
 obtain ⟨h1, h2, h3⟩ := sm_short _ h.i
 have hc := qb5 h.s
 obtain ⟨e1, e2⟩ := yax h.s
 have hd : (py d).depth ≤ 60 := by
  have := h.p
  unfold dep at this
  omega
 have hl : (py d).shown.length ≤ sizeLine := PyData.shown_fits_of_layable0 (B := 13) (by decide) (by decide) (by
  show ((py d).canLay0 && decide ((py d).depth ≤ 64) && decide ((py d).weight ≤ 2 ^ 20)) = true
  rw [hc, decide_eq_true (by omega), decide_eq_true h.w]; rfl) h1
 refine ⟨_, rfl, kby _ hc, ?_⟩
 unfold repB
 rw [e1]
 dsimp only
 rw [if_pos (by rw [h2, h3, decide_eq_true hd, decide_eq_true hl]; rfl)]
theorem Rp.tup {ds : List D} (h : Rp (.tup ds)) : ∃ z, okS z ∧ reprGD [.tup ds] = some (rvS z) := by
 obtain ⟨z, _, h1, h2⟩ := h.ok
 exact ⟨z, h1, h2⟩
theorem Rp.lst {ds : List D} (h : Rp (.lst ds)) : ∃ z, okS z ∧ reprGD [.lst ds] = some (rvS z) := by
 obtain ⟨z, _, h1, h2⟩ := h.ok
 exact ⟨z, h1, h2⟩
structure Wg (n B : Nat) (d : D) : Prop where
 s : shp d = true
 p : dep d ≤ n
 i : kab (py d) = true
 w : (py d).weight ≤ B
theorem Wg.mono {n m B C : Nat} {d : D} (h : Wg n B d) (h1 : n ≤ m) (h2 : B ≤ C) : Wg m C d := ⟨h.s, Nat.le_trans h.p h1, h.i, Nat.le_trans h.w h2⟩
theorem Wg.str {B : Nat} {z : Str} (h : okS z) (hl : z.length ≤ B) : Wg 0 B (.s (.str z)) := by
 refine ⟨(Sh.str h).s, (Sh.str h).p, ?_, ?_⟩
 ·rw [show py (.s (.str z)) = .str z from rfl]; rfl
 ·rw [show py (.s (.str z)) = .str z from rfl]; exact hl
theorem Wg.non {B : Nat} : Wg 0 B (.s .non) := ⟨Sh.non.s, Sh.non.p, rfl, Nat.zero_le _⟩
theorem Wg.bl {B : Nat} {b : Bool} (hB : 1 ≤ B) : Wg 0 B (.s (.bl b)) := ⟨Sh.bl.s, Sh.bl.p, rfl, by
 show (PyData.bool b).weight ≤ B
 cases b <;> simp [PyData.weight]⟩
theorem sm_all : ∀ {ds : List D}, (∀ d ∈ ds, kab (py d) = true) → ku (ds.map py) = true
 | [], _ => rfl
 | d :: ds, h => by
  show (kab (py d) && ku (ds.map py)) = true
  rw [h d List.mem_cons_self, sm_all fun x m => h x (List.mem_cons_of_mem _ m)]; rfl
theorem wg_all {B : Nat} : ∀ {ds : List D}, (∀ d ∈ ds, (py d).weight ≤ B) → PyData.weightAll (ds.map py) ≤ ds.length * (B + 1)
 | [], _ => Nat.zero_le _
 | d :: ds, h => by
  have ih := wg_all (B := B) (ds := ds) fun x m => h x (List.mem_cons_of_mem _ m)
  have h1 := h d List.mem_cons_self
  show (py d).weight + 1 + PyData.weightAll (ds.map py) ≤ (ds.length + 1) * (B + 1)
  rw [Nat.succ_mul]
  omega
theorem Wg.tup {n B L : Nat} {ds : List D} (h : ∀ d ∈ ds, Wg n B d) (hl : ds.length ≤ L) (hn : n ≤ 62) : Wg (n + 1) (L * (B + 1)) (.tup ds) := by
 have hs : ∀ d ∈ ds, Sh n d := fun d m => ⟨(h d m).s, (h d m).p⟩
 have ht := Sh.tup hs (by omega)
 have e : py (.tup ds) = .tuple (ds.map py) := waa fun d m => (h d m).s
 refine ⟨ht.s, ht.p, ?_, ?_⟩
 ·rw [e]
  exact sm_all fun d m => (h d m).i
 ·rw [e]
  exact Nat.le_trans (wg_all fun d m => (h d m).w) (Nat.mul_le_mul_right _ hl)
theorem Wg.lst {n B L : Nat} {ds : List D} (h : ∀ d ∈ ds, Wg n B d) (hl : ds.length ≤ L) (hn : n ≤ 62) : Wg (n + 1) (L * (B + 1)) (.lst ds) := by
 have hs : ∀ d ∈ ds, Sh n d := fun d m => ⟨(h d m).s, (h d m).p⟩
 have ht := Sh.lst hs (by omega)
 have e : py (.lst ds) = .list (ds.map py) := py_lst fun d m => (h d m).s
 refine ⟨ht.s, ht.p, ?_, ?_⟩
 ·rw [e]
  exact sm_all fun d m => (h d m).i
 ·rw [e]
  exact Nat.le_trans (wg_all fun d m => (h d m).w) (Nat.mul_le_mul_right _ hl)
end PL
namespace PL
open PySem PySem.Spec PyProof.Rows L2
end PL
namespace PL
open PySem L2
end PL
namespace PL
open PySem L2 PySem.Spec PyProof.Rows
end PL
namespace LW
open PySem L2 PL
end LW
namespace PL.TW
open PySem PySem.Calls PyProof.Rows PySem.Spec L2 PL.TN
def MaskW (m : Nat) : Prop := m = 7 ∨ m = 31 ∨ m = 127 ∨ m = 511 ∨ m = 2047 ∨ m = 8191
theorem MaskW.le {m : Nat} (h : MaskW m) : m ≤ 8191 := by unfold MaskW at h; omega
theorem way_in {m k : Nat} {h : Int} : way m h k ≤ m := by
 have b1 : SetTable.bits h % (m + 1) ≤ m := Nat.le_of_lt_succ (Nat.mod_lt _ (Nat.succ_pos m))
 have b2 := runEnd_bd b1
 have b3 := nth_in (m := m) k (runAt m (SetTable.bits h % (m + 1)) (SetTable.bits h)) (show SetTable.bits h % (m + 1) + (SetTable.runEnd m (SetTable.bits h % (m + 1)) - SetTable.bits h % (m + 1)) ≤ m by omega)
 exact Nat.le_trans (Nat.le_add_right _ _) b3
structure TabW (t : SetTable) (hs : List Int) : Prop where
 up : Ris t.place.toList
 clean : t.dummies = #[]
 len : t.place.size = hs.length
 mask : MaskW t.mask
 inn : ∀ x ∈ t.place.toList, x ≤ t.mask
 met : ∀ (i : Nat) (h : Int) (j : Nat), hs[i]? = some h → t.place.toList[i]? = some j → ∃ k, way t.mask h k = j ∧ ∀ c, c < k → way t.mask h c ∈ t.place.toList
theorem TabW.put {t : SetTable} {hs : List Int} (T : TabW t hs) {h : Int} {K : Nat} (free : way t.mask h K ∉ t.place.toList) (held : ∀ c, c < K → way t.mask h c ∈ t.place.toList) :
  SetTable.below t.place (way t.mask h K) ≤ hs.length ∧ TabW (t.put (way t.mask h K)).1 (hs.take (SetTable.below t.place (way t.mask h K)) ++ h :: hs.drop (SetTable.below t.place (way t.mask h K))) ∧
   (t.put (way t.mask h K)).1.fill = hs.length + 1 := by
 have hle : way t.mask h K ≤ t.mask := way_in
 generalize hj : way t.mask h K = j at free hle ⊢
 have cut := (below_cut T.up j).1
 have p1 : SetTable.below t.place j ≤ t.place.toList.length := cut
 have p2 : SetTable.below t.place j ≤ hs.length := by rw [← T.len]; exact cut
 have place := put_place t j
 have size : (t.put j).1.place.size = hs.length + 1 := by
  rw [← Array.length_toList, place, len_ins _ p1, Array.length_toList, T.len]
 have more : ∀ x, x ∈ t.place.toList → x ∈ (t.put j).1.place.toList := fun x hx => by
  rw [place]; exact mem_ins.mpr (.inr hx)
 refine ⟨p2, ⟨ris_insert T.up fun e => free (List.mem_of_getElem? (by rw [Array.getElem?_toList]; exact e)), put_dm T.clean j, by rw [len_ins _ p2]; exact size, T.mask, fun x hx => ?_, fun i h' j' e1 e2 => ?_⟩, ?_⟩
 ·rw [place] at hx
  rcases mem_ins.mp hx with rfl | hx
  ·exact hle
  ·exact T.inn x hx
 ·rw [tins_get hs p2] at e1
  rw [place, tins_get _ p1] at e2
  have keep : (∃ k, way t.mask h' k = j' ∧ ∀ c, c < k → way t.mask h' c ∈ t.place.toList) → ∃ k, way t.mask h' k = j' ∧ ∀ c, c < k → way t.mask h' c ∈ (t.put j).1.place.toList :=
   fun ⟨k, a, b⟩ => ⟨k, a, fun c hc => more _ (b c hc)⟩
  by_cases c1 : i < SetTable.below t.place j
  ·rw [if_pos c1] at e1 e2
   exact keep (T.met i h' j' e1 e2)
  ·by_cases c2 : i = SetTable.below t.place j
   ·rw [if_neg c1, if_pos c2] at e1 e2
    cases e1
    cases e2
    exact keep ⟨K, hj, held⟩
   ·rw [if_neg c1, if_neg c2] at e1 e2
    exact keep (T.met _ h' j' e1 e2)
 ·have d := put_dm T.clean j
  show (t.put j).1.place.size + (t.put j).1.dummies.size = _
  rw [size, d]
  rfl
end PL.TW
namespace PL.TW
open PySem PySem.Calls PyProof.Rows PySem.Spec L2 PL.TN
structure SetW (w : World) (h : Heap) (a : Addr) (L : LK) (es : Array (Int × Value)) (ep : Nat) (t : SetTable) : Prop where
 ob : ∃ o, h.get? a = some o ∧ o.ExactSet ∧ o.data = .set es ep t
 rw : es.toList = rowsN w L
 tb : TabW t (hsN w L)
 nd : (L.map (·.2)).Nodup
 is : ∀ p ∈ L, IsN h p.2 p.1
 led : w.params.followText "set-order" = true ∨ t.led = true
 rm : L.length * 5 < t.mask * 3
 fw : L.length < 4000
section
variable {P : Program} {w : World} {A : Around} {E : Value → Shared → Prop} {s : Shared} {a : Addr} {L : LK} {es : Array (Int × Value)} {ep : Nat} {t : SetTable}
theorem fitsW (T : TabW t (hsN w L)) (e : es.size = L.length) (m : L.length ≤ t.mask) : t.fits es.size = true := by
 have q := T.len
 rw [hsN_len] at q
 unfold SetTable.fits SetTable.fill
 rw [T.clean, Bool.and_eq_true, beq_iff_eq, decide_eq_true_eq]
 refine ⟨by omega, ?_⟩
 show t.place.size + 0 ≤ t.mask
 omega
theorem SetW.fits (R : SetW w s.heap a L es ep t) : t.fits es.size = true := fitsW R.tb (kbh R.rw) (by have := R.rm; omega)
theorem SetW.row (R : SetW w s.heap a L es ep t) {i : Nat} {p : Addr × NestedKey} (e : L[i]? = some p) : es[i]? = some (p.2.hash w, Value.ref p.1) := by
 rw [← Array.getElem?_toList, R.rw]
 unfold rowsN
 rw [List.getElem?_map, e]; rfl
end
end PL.TW
namespace PL.TW
open PySem PySem.Calls PyProof.Rows PySem.Spec L2 PL.SX PL.TN
section
variable {P : Program} {w : World} {A : Around} {E : Value → Shared → Prop} {s : Shared}
theorem SetW.at {h h' : Heap} {a : Addr} {L : LK} {es : Array (Int × Value)} {ep : Nat} {t : SetTable} (R : SetW w h a L es ep t) (up : ∀ o, h.get? a = some o → h'.get? a = some o) (is : ∀ p ∈ L, IsN h' p.2 p.1) : SetW w h' a L es ep t := by
 obtain ⟨o, e, r⟩ := R.ob
 exact ⟨⟨o, up o e, r⟩, R.rw, R.tb, R.nd, is, R.led, R.rm, R.fw⟩
end
end PL.TW
namespace PL
open PySem PySem.Spec PyProof.Rows L2 LW
end PL
namespace PL
open PySem PySem.Spec PyProof.Rows L2
end PL
namespace LW
open PySem L2 PL
def ch : Nat → Nat → Nat
 | _, 0 => 1
 | 0, _ + 1 => 0
 | n + 1, k + 1 => ch n k + ch n (k + 1)
end LW
namespace LW
open PySem L2 PL SG
local macro_rules | `(tactic| walk_at "w") => `(tactic| (try simp only [PL.wp_seq, PL.wp_set, PL.zbk, PL.ybr, PL.wp_op, PL.wp_un, PL.wp_var, PL.wp_c, PL.ka8, PL.va8, PL.za3, PL.ja3, PL.wa2, PL.y9, PL.qa3, PL.ya3, PL.va3, PL.wa3, PL.ka7, PL.za7, PL.xbm, PL.zbm, PL.ya7, PL.va7, PL.za4, PL.kbo, PL.vbo, PL.ka4, PL.jbk, PL.ja2, PL.jbl, PL.wp_brk, PL.ybl, PL.vbl, PL.qa7, PL.yar, PL.yag, PL.vag, PL.wag, PL.kaq, PL.xaq, PL.jap, PL.kap, PL.zap, List.set_cons_zero, List.set_cons_succ, List.length_cons, List.length_nil, PL.addD, PL.subD, PL.va1, PL.mulD, PL.modD, PL.kb0, PL.wp_run, List.cons_append, List.nil_append, List.replicate, List.getElem?_cons_zero, List.getElem?_cons_succ, PL.xbl, PL.yap, PL.qah, PL.qa4, PL.xbr, PL.kbr, PL.isB_bl, PL.wbr, PL.wp_call, PL.qam, PL.qbk, PL.wp_ud, PL.wp_um, PL.van, PL.wan, PL.yan, PL.was, PL.jat, PL.qat, PL.qa8, PL.za8, PL.ja8, PL.wp_cb, PL.wp_nil, PL.wbl, PL.zao, PL.vam, PL.wbj, PL.qa2, PL.wp_tup, PL.wp_lst, PL.xak, PL.wp_and, PL.wp_or, PL.wp_not, PL.jbm, PL.wp_orV, PL.wbm, PL.qbl, PL.wp_ifE, PL.ya2, PL.wp_m1, PL.wp_zno, PL.wp_zat, PL.wp_sl, PL.ybv, PL.jam, PL.wp_ext, PL.zbl, PL.zaf, PL.qaf, PL.wam, PL.jaf, PL.xbk, PL.zw, PL.ja4, PL.ka3, PL.ka6, PL.qbs, PL.kao, PL.xao, PL.vax, PL.xbv, PL.aT_tup, PL.ya8, PL.zbv, PL.xaf, PL.kaf, PL.zan, PL.jan, PL.ya5, PL.wa5, PL.kbq, PL.va5, PL.zbs, PL.xbp, PL.neD_bl, PL.lt_int, PL.lt_str, PL.le_int, PL.gt_int, PL.ge_int, PL.wbp, PL.ybp, PL.ka5, PL.za5, PL.zbq, PL.ybm, PL.vbm, PL.sl_lst, PL.sl_tup, PL.sl_ro, PL.sl_str, PL.neg_int, PL.is_bl, PL.jaq, PL.is_none, PL.w5, PL.qa5, PL.none_int, PL.none_str, PL.jbp, PL.ja5, PL.wa4, PL.kbu, PL.wp_aug, PL.vbu, PL.kan, PL.yaf, PL.wa6, Nat.reduceAdd, Nat.reduceSub, Nat.zero_add, Bool.not_true, Bool.not_false, Bool.false_eq_true, if_true, if_false, PL.qbm, PL.wak, PL.yk, decide_eq_true_eq, PL.qbr, PL.ixw_ro, PL.ybq, PL.wbq, PL.atI_0, PL.atI_1, PL.atI_2, PL.ya6, PL.va6, PL.wap, PL.dv_dic, PL.kbs, PL.xbs, PL.dvQ_dk, PL.dvQ_dt, PL.vbs, PL.dGet_k, PL.dGet_t, PL.va2, PL.za2, PL.vaf, PL.za6, PL.kbk, PL.ja6, PL.wp_app,  PL.putQ_k, PL.putQ_t, PL.xam, PL.zam, PL.kam, PL.xbo, PL.inlQ_l, PL.vbk, List.take_succ_cons, List.take_zero, Option.map_some, Option.map_none, PL.kr, PL.v5, PL.zo, PL.wp_setF, PL.wp_make, PL.wp_bare, PL.wp_meth, PL.peek_ob, PL.cdat_ob, PL.wpG_ob, PL.borQ_ob, PL.obQ_ob, PL.madeQ_ob, PL.none_obj, PL.kbl, PL.wbz, PL.isSeq_ro, PL.zaq, PL.wp_part, PL.wp_partL, List.map_cons, List.map_nil, PL.putG, PL.wp_raise, PL.wbv, PL.wp_try, PL.none_exc, PL.none_dic, PL.fDic0, PL.powD, PL.absD, PL.wp_nnew, PL.qbh, LW.vaq, LW.kaj, LW.vay, LW.yas, LW.waq, LW.yaj, LW.wab, LW.v8, LW.qai, LW.wac, LW.jac, LW.w8, LW.kay, LW.vas, LW.qbc, LW.qa0, LW.xai, LW.zad, LW.xay, LW.kas, LW.zay, LW.xas, LW.yaq, LW.vaj, LW.jai, LW.qad, LW.zai, LW.jad, LW.yab, LW.k8, LW.qac, LW.y8, LW.vab, LW.x8, LW.kq, LW.zu, LW.xy, LW.xu, LW.wz, LW.qaq, LW.zab, LW.j0, LW.jr, PL.qbj, PL.qah, LW.ye, LW.zr, LW.jab, LW.vah, LW.wao, LW.yah, LW.ju, LW.qu, LW.vz, LW.yt, LW.kar, LW.kaz, LW.kbc, LW.xaz, LW.xar, LW.zar, LW.jaj, LW.qaj, LW.jar, LW.wai, LW.zaz, LW.xbc, LW.zbc, LW.jaz, LW.yai, LW.qaz, LW.jbc, LW.yay, LW.qar, LW.vai, LW.xac, LW.kai, LW.zac, LW.z8, PL.wp_peel, PL.peel_dat, PL.un1_lab, PL.un1_tup, PL.un1_lst]))
local macro_rules | `(tactic| walk_at "wph") => `(tactic| (try simp only [PL.wp_seq, PL.wp_set, PL.zbk, PL.ybr, PL.wp_op, PL.wp_un, PL.wp_var, PL.wp_c, PL.ka8, PL.va8, PL.za3, PL.ja3, PL.wa2, PL.y9, PL.qa3, PL.ya3, PL.va3, PL.wa3, PL.ka7, PL.za7, PL.xbm, PL.zbm, PL.ya7, PL.va7, PL.za4, PL.kbo, PL.vbo, PL.ka4, PL.jbk, PL.ja2, PL.jbl, PL.wp_brk, PL.ybl, PL.vbl, PL.qa7, PL.yar, PL.yag, PL.vag, PL.wag, PL.kaq, PL.xaq, PL.jap, PL.kap, PL.zap, List.set_cons_zero, List.set_cons_succ, List.length_cons, List.length_nil, PL.addD, PL.subD, PL.va1, PL.mulD, PL.modD, PL.kb0, PL.wp_run, List.cons_append, List.nil_append, List.replicate, List.getElem?_cons_zero, List.getElem?_cons_succ, PL.xbl, PL.yap, PL.qah, PL.qa4, PL.xbr, PL.kbr, PL.isB_bl, PL.wbr, PL.wp_call, PL.qam, PL.qbk, PL.wp_ud, PL.wp_um, PL.van, PL.wan, PL.yan, PL.was, PL.jat, PL.qat, PL.qa8, PL.za8, PL.ja8, PL.wp_cb, PL.wp_nil, PL.wbl, PL.zao, PL.vam, PL.wbj, PL.qa2, PL.wp_tup, PL.wp_lst, PL.xak, PL.wp_and, PL.wp_or, PL.wp_not, PL.jbm, PL.wp_orV, PL.wbm, PL.qbl, PL.wp_ifE, PL.ya2, PL.wp_m1, PL.wp_zno, PL.wp_zat, PL.wp_sl, PL.ybv, PL.jam, PL.wp_ext, PL.zbl, PL.zaf, PL.qaf, PL.wam, PL.jaf, PL.xbk, PL.zw, PL.ja4, PL.ka3, PL.ka6, PL.qbs, PL.kao, PL.xao, PL.vax, PL.xbv, PL.aT_tup, PL.ya8, PL.zbv, PL.xaf, PL.kaf, PL.zan, PL.jan, PL.ya5, PL.wa5, PL.kbq, PL.va5, PL.zbs, PL.xbp, PL.neD_bl, PL.lt_int, PL.lt_str, PL.le_int, PL.gt_int, PL.ge_int, PL.wbp, PL.ybp, PL.ka5, PL.za5, PL.zbq, PL.ybm, PL.vbm, PL.sl_lst, PL.sl_tup, PL.sl_ro, PL.sl_str, PL.neg_int, PL.is_bl, PL.jaq, PL.is_none, PL.w5, PL.qa5, PL.none_int, PL.none_str, PL.jbp, PL.ja5, PL.wa4, PL.kbu, PL.wp_aug, PL.vbu, PL.kan, PL.yaf, PL.wa6, Nat.reduceAdd, Nat.reduceSub, Nat.zero_add, Bool.not_true, Bool.not_false, Bool.false_eq_true, if_true, if_false, PL.qbm, PL.wak, PL.yk, decide_eq_true_eq, PL.qbr, PL.ixw_ro, PL.ybq, PL.wbq, PL.atI_0, PL.atI_1, PL.atI_2, PL.ya6, PL.va6, PL.wap, PL.dv_dic, PL.kbs, PL.xbs, PL.dvQ_dk, PL.dvQ_dt, PL.vbs, PL.dGet_k, PL.dGet_t, PL.va2, PL.za2, PL.vaf, PL.za6, PL.kbk, PL.ja6, PL.wp_app,  PL.putQ_k, PL.putQ_t, PL.xam, PL.zam, PL.kam, PL.xbo, PL.inlQ_l, PL.vbk, List.take_succ_cons, List.take_zero, Option.map_some, Option.map_none, PL.kr, PL.v5, PL.zo, PL.wp_setF, PL.wp_make, PL.wp_bare, PL.wp_meth, PL.peek_ob, PL.cdat_ob, PL.wpG_ob, PL.borQ_ob, PL.obQ_ob, PL.madeQ_ob, PL.none_obj, PL.kbl, PL.wbz, PL.isSeq_ro, PL.zaq, PL.wp_part, PL.wp_partL, List.map_cons, List.map_nil, PL.putG, PL.wp_raise, PL.wbv, PL.wp_try, PL.none_exc, PL.none_dic, PL.fDic0, PL.powD, PL.absD, PL.wp_nnew, PL.qbh, LW.vaq, LW.kaj, LW.vay, LW.yas, LW.waq, LW.yaj, LW.wab, LW.v8, LW.qai, LW.wac, LW.jac, LW.w8, LW.kay, LW.vas, LW.qbc, LW.qa0, LW.xai, LW.zad, LW.xay, LW.kas, LW.zay, LW.xas, LW.yaq, LW.vaj, LW.jai, LW.qad, LW.zai, LW.jad, LW.yab, LW.k8, LW.qac, LW.y8, LW.vab, LW.x8, LW.kq, LW.zu, LW.xy, LW.xu, LW.wz, LW.qaq, LW.zab, LW.j0, LW.jr, PL.qbj, PL.qah, LW.ye, LW.zr, LW.jab, LW.vah, LW.wao, LW.yah, LW.ju, LW.qu, LW.vz, LW.yt, LW.kar, LW.kaz, LW.kbc, LW.xaz, LW.xar, LW.zar, LW.jaj, LW.qaj, LW.jar, LW.wai, LW.zaz, LW.xbc, LW.zbc, LW.jaz, LW.yai, LW.qaz, LW.jbc, LW.yay, LW.qar, LW.vai, LW.xac, LW.kai, LW.zac, LW.z8, PL.wp_peel, PL.peel_dat, PL.un1_lab, PL.un1_tup, PL.un1_lst, true_and, and_true, and_self, List.nodup_nil, LW.okl_5, LW.okl_6, LW.okl_7, LW.okl_8, LW.nel_0_1, LW.nel_0_2, LW.nel_1_0, LW.nel_1_2, LW.nel_2_0, LW.nel_2_1, PL.okS, PL.yaw, PL.qb6, beq_self_eq_true, decide_true, Int.cast_ofNat_Int, Int.reduceBEq, Int.reduceBNe, Int.reduceLT, Int.reduceLE, Int.reduceAdd, Int.reduceSub, Nat.reduceBEq, *]))
local macro_rules | `(tactic| walk_at "fin") => `(tactic| first | trivial | rfl | decide | (simp; done) | omega)
local macro_rules | `(tactic| walk_at "sd") => `(tactic| repeat (with_reducible refine And.intro ?_ ?_; (first | decide | trivial | (exact ⟨by decide, trivial⟩) | (exact za (by decide)) | (exact za (by omega)) | (exact vq (by omega) (by omega)) | (exact vq (by decide) (by decide)) | (exact ⟨vq (by omega) (by omega), vq (by omega) (by omega)⟩) | (simp; done))))
def Kd.obj (A : Ads) : Kd → D
 | .any => wba A
 | .num a b => yao A (zi a) (zi b)
 | .amg ws => ybo A (.tup (ws.map zs))
 | .beg z => va4 A (zs z)
section
variable {A : Ads}
theorem kd_none {k : Kd} : isNone (k.obj A) = false := by cases k <;> rfl
end
def Pl.obj (A : Ads) (p : Pl) : D := zy A (zs p.name) (p.k.obj A) (zs p.o.s)
abbrev plD (A : Ads) (ps : List Pl) : D := .tup (ps.map (Pl.obj A))
theorem ym {α : Type} {ws : List α} {i : Nat} {w : α} (h : ws[i]? = some w) : ws.take (i + 1) = ws.take i ++ [w] := by
 rw [List.take_succ, h]; rfl
section
variable {A : Ads} {Q : Rv → En → Prop} {QF : Fl → En → Prop} {E : Exn → En → Prop} {dw db dn : D}
theorem zbi {z : Str} {a b : Int} (hk : okS z) (hl : z.length ≤ 200) (h : Q (rvB ((decide (a ≤ (z.length : Int)) && decide ((z.length : Int) ≤ b)) && wo lettersS z)) [.dat (zs z), .dat (zi a), .dat (zi b)]) : wp (zp A) Q E [.dat (zs z), .dat (zi a), .dat (zi b)] := by
 unfold zp qau
 walk_at "w"
 refine ⟨za (by omega), ?_⟩
 by_cases c1 : a ≤ (z.length : Int)
 ·rw [if_pos c1]
  rw [decide_eq_true c1] at h
  by_cases c2 : (z.length : Int) ≤ b
  ·rw [if_pos c2]
   rw [decide_eq_true c2] at h
   refine ⟨za (by omega), ?_⟩
   rw [yaw (okS_strip _ hk) okS_empty, strip_none]
   walk_at "w"
   exact h
  ·rw [if_neg c2]
   rw [decide_eq_false c2] at h
   exact h
 ·rw [if_neg c1]
  rw [decide_eq_false c1] at h
  exact h
def vj (z : Str) : Prop := (2 ≤ z.length ∧ z.length ≤ 8) ∧ wo lettersS z = true
def okPl (p : Pl) : Prop := vj p.name ∧ p.k.ok
theorem kd_isi {k : Kd} : isiD A.K A.cs [k.obj A, .s (.ref A.c_Kind)] = some (rvB true) := by
 cases k
 ·exact kq
 ·exact zu
 ·exact xy
 ·exact xu
theorem of_in (o : Of) : inW o.s ["one", "maybe", "some", "any"] = true := by cases o <;> decide +kernel
theorem named_ok {d : D} {name : Str} {names : List Str} (hd : ∀ R : Rv → Prop, R (.dat (zs name)) → wpO (fldD (ve A) "name" d) R) (hn : vj name) (h : Q (rvB (!inW name names)) [.dat d, .dat (.lst (names.map zs))]) : wp (j5 A) Q E [.dat d, .dat (.lst (names.map zs))] := by
 obtain ⟨⟨h1, h2⟩, h3⟩ := hn
 unfold j5 kbj
 walk_at "w"
 refine hd _ ?_
 walk_at "w"
 refine ⟨⟨by simp, trivial⟩, zbi (qf h3) (by omega) ?_⟩
 walk_at "w"
 rw [decide_eq_true (show (2 : Int) ≤ (name.length : Int) by omega), decide_eq_true (show (name.length : Int) ≤ 8 by omega), h3]
 walk_at "w"
 refine hd _ ?_
 walk_at "w"
 rw [jbb]
 walk_at "w"
 exact h
theorem place_ok {p : Pl} {names : List Str} (hp : okPl p) (hn : p.name ∉ names) (h : Q (rvB true) [.dat (p.obj A), .dat (.lst (names.map zs))]) : wp (jah A) Q E [.dat (p.obj A), .dat (.lst (names.map zs))] := by
 unfold jah xbj Pl.obj
 walk_at "w"
 refine ⟨by simp, named_ok (name := p.name) (fun R h => ?_) hp.1 ?_⟩
 ·walk_at "w"; exact h
 walk_at "w"
 rw [show inW p.name names = false from by rw [Bool.eq_false_iff]; exact fun z => hn (inW_iff.mp z)]
 walk_at "w"
 rw [kd_isi]
 walk_at "w"
 rw [show ([zs "one", zs "maybe", zs "some", zs "any"] : List D) = (["one", "maybe", "some", "any"] : List Str).map zs from rfl, in_tup, of_in]
 walk_at "w"
 exact h
theorem npGo_all {G : D → List D → Option Bool} {most : Int} {ds : List D} : ∀ n, n ≤ ds.length → (∀ (i : Nat) (d : D), i < n → ds[i]? = some d → (i : Int) ≠ most ∧ G d (ds.take i) = some true) → npGo G most ds n = some true
 | 0, _, _ => rfl
 | n + 1, hl, h => by
  unfold npGo
  rw [npGo_all n (by omega) fun i d hi hd => h i d (by omega) hd]
  have hg := List.getElem?_eq_getElem (show n < ds.length by omega)
  have := h n _ (by omega) hg
  dsimp only
  rw [if_neg this.1, hg]
  dsimp only
  rw [this.2]
theorem ya4 {G : D → List D → Option Bool} {p : Str} {most : Int} {ds : List D} (h : ∀ (i : Nat) (d : D), ds[i]? = some d → (i : Int) ≠ most ∧ G d (ds.take i) = some true) : npOk G [.s (.str p), .tup ds, .s (.int most)] = some none := by
 show (match npGo G most ds ds.length with | some true => some none | _ => none) = _
 rw [npGo_all ds.length (Nat.le_refl _) fun i d _ hd => h i d hd]
theorem wa7 {F : PL.P Rv} {cs : List Cell} {b : Bool} (h : wp F (fun v _ => v = rvB b) EF cs) : ybg F cs = some b := by
 obtain ⟨a, r, h1, rfl⟩ := wbg h
 unfold ybg
 rw [h1]
theorem places_np {ps : List Pl} {nm : List Str} (hl : ps.length ≤ 4) (hnl : nm.length ≤ 1000) (hk : ∀ p ∈ ps, okPl p) (hn : (nm ++ ps.map (·.name)).Nodup) : xi A (.lst (nm.map zs)) [zs "places", plD A ps, zi 4] = some none := by
 unfold xi
 refine ya4 fun i d hd => ?_
 rw [List.getElem?_map] at hd
 obtain ⟨p, hp, rfl⟩ := Option.map_eq_some_iff.mp hd
 have hi := (List.getElem?_eq_some_iff.mp hp).1
 refine ⟨by omega, wa7 ?_⟩
 unfold jz
 walk_at "w"
 rw [← List.map_take]
 rw [PL.vi (ps.take i) (Pl.obj A) (fun p => zs p.name) (za (by rw [List.length_take]; omega)) fun p m => ?_]
 ·walk_at "w"
  have e : nm.map zs ++ (ps.take i).map (fun p => zs p.name) = (nm ++ (ps.take i).map (·.name)).map zs := by rw [List.map_append, List.map_map]; rfl
  rw [e]
  refine ⟨?_, by simp, place_ok (hk p (List.mem_of_getElem? hp)) (fun m => ?_) ?_⟩
  ·rw [List.length_map, List.length_map, List.length_take]
   exact za (by have : min i ps.length ≤ ps.length := Nat.min_le_right _ _; omega)
  ·have h1 := ym hp
   have h2 : ((nm ++ ((ps.take (i + 1)).map (·.name)))).Nodup := List.Nodup.sublist (List.Sublist.append_left (List.Sublist.map _ (List.take_sublist _ _)) _) hn
   rw [h1, List.map_append, ← List.append_assoc, List.nodup_append] at h2
   exact h2.2.2 _ m _ (by simp) rfl
  ·walk_at "w"
 ·unfold Pl.obj
  walk_at "w"
  exact ⟨by decide, by walk_at "fin", by walk_at "fin"⟩
end
section
variable {A : Ads} {Q : Rv → En → Prop} {QF : Fl → En → Prop} {E : Exn → En → Prop}
def ltD : Option Str → D
 | none => .s .non
 | some z => zs z
def kdD (A : Ads) : Option Kd → D
 | none => .s .non
 | some k => k.obj A
def Wx.obj (A : Ads) (w : Wx) : D := xw A (zs w.name) (ltD w.letter) (kdD A w.kind) (zb w.may) (zb w.many) (zb w.must)
def okLt (z : Str) : Prop := z.length = 1 ∧ wo lettersS z = true
structure okWx (w : Wx) : Prop where
 n : vj w.name
 l : ∀ z, w.letter = some z → okLt z
 m : w.may = true → w.kind.isSome = true
 k : ∀ k, w.kind = some k → k.ok
abbrev wxD (A : Ads) (ws : List Wx) : D := .tup (ws.map (Wx.obj A))
def ltV : Option Str → V
 | none => .non
 | some z => .str z
theorem in_lt (z : Str) (ls : List (Option Str)) : inD (zs z) (.lst (ls.map ltD)) = some (rvB (decide (some z ∈ ls))) := by
 show (match yw (zs z) (ls.map ltD) with | some b => some (rvB b) | none => none) = _
 have h1 : (ls.map ltD).all xb7 = true := List.all_eq_true.mpr fun d m => by
  obtain ⟨o, _, rfl⟩ := List.mem_map.mp m
  cases o <;> rfl
 unfold yw
 rw [if_pos (by rw [h1]; rfl)]
 have h2 : (ls.map ltD).map sV = ls.map ltV := by
  rw [List.map_map]
  exact List.map_congr_left fun o _ => by cases o <;> rfl
 rw [h2]
 dsimp only
 congr 2
 show (ls.map ltV).any (fun y => eqV y (.str z)) = _
 rw [List.any_map]
 induction ls with
 | nil => rfl
 | cons o ls ih =>
  rw [List.any_cons, ih (by
   rw [List.map_cons, List.all_cons, Bool.and_eq_true] at h1
   exact h1.2) (by rw [List.map_map]; exact List.map_congr_left fun o _ => by cases o <;> rfl)]
  cases o with
  | none => simp [ltV, eqV]
  | some y =>
   by_cases c : y = z
   ·subst c; simp [ltV, eqV]
   ·have c2 : ¬ z = y := fun e => c e.symm
    simp [ltV, eqV, c, c2]
theorem wish_ok {w : Wx} {ah : List Wx} (hl : ah.length ≤ 1000) (hw : okWx w) (hn : w.name ∉ ah.map (·.name)) (hlt : ∀ z, w.letter = some z → some z ∉ ah.map (·.letter)) (h : Q (rvB true) [.dat (w.obj A), .dat (wxD A ah)]) : wp (vae A) Q E [.dat (w.obj A), .dat (wxD A ah)] := by
 unfold vae kb3
 have e0 : w.obj A = xw A (zs w.name) (ltD w.letter) (kdD A w.kind) (zb w.may) (zb w.many) (zb w.must) := rfl
 rw [PL.wp_run]
 refine ke (Q1 := fun r => r = [.dat (w.obj A), .dat (wxD A ah), .no, .no]) ?_ fun r hr => ?_
 ·rw [e0]
  walk_at "w"
  rw [PL.vi ah (Wx.obj A) (fun p => zs p.name) (za (by omega)) fun p m => ?_]
  ·walk_at "w"
   rw [show (ah.map fun p => zs p.name) = (ah.map (·.name)).map zs by rw [List.map_map]; rfl]
   refine ⟨⟨by decide, trivial⟩, named_ok (name := w.name) (fun R h => ?_) hw.n ?_⟩
   ·walk_at "w"; exact h
   walk_at "w"
   rw [show inW w.name (ah.map (·.name)) = false from by rw [Bool.eq_false_iff]; exact fun z => hn (inW_iff.mp z)]
   walk_at "w"
   exact ⟨trivial, trivial⟩
  ·unfold Wx.obj
   walk_at "w"
   exact ⟨by decide, by walk_at "fin", by walk_at "fin"⟩
 subst hr
 refine ke (Q1 := fun r => r = [.dat (w.obj A), .dat (wxD A ah), .no, .no]) ?_ fun r hr => ?_
 ·rw [e0]
  cases hw2 : w.letter with
  | none =>
   unfold ltD
   walk_at "w"
   exact ⟨trivial, trivial⟩
  | some z =>
   obtain ⟨z1, z2⟩ := hw.l z hw2
   unfold ltD
   walk_at "w"
   refine ⟨⟨by decide, trivial⟩, zbi (qf z2) (by omega) ?_⟩
   rw [z1, z2]
   walk_at "w"
   rw [show (decide ((1 : Int) ≤ ((1 : Nat) : Int)) && decide (((1 : Nat) : Int) ≤ 1) && true) = true by decide]
   walk_at "w"
   rw [PL.vi ah (Wx.obj A) (fun p => ltD p.letter) (za (by omega)) fun p m => ?_]
   ·walk_at "w"
    rw [show (ah.map fun p => ltD p.letter) = (ah.map (·.letter)).map ltD by rw [List.map_map]; rfl, in_lt, decide_eq_false (hlt z hw2)]
    walk_at "w"
    exact ⟨trivial, trivial⟩
   ·unfold Wx.obj
    walk_at "w"
    exact ⟨by decide, by walk_at "fin", by walk_at "fin"⟩
 subst hr
 rw [e0]
 walk_at "w"
 rw [show ([zb w.may, zb w.many, zb w.must] : List D) = [w.may, w.many, w.must].map zb from rfl]
 rw [PL.vi [w.may, w.many, w.must] zb (fun _ => zb true) (za (n := 3) (by decide)) fun b m => ?_]
 ·walk_at "w"
  rw [show allD [D.lst [zb true, zb true, zb true]] = some (rvB true) from rfl]
  walk_at "w"
  refine ⟨za (n := 3) (by decide), ?_⟩
  rw [e0] at h
  revert h
  cases hk : w.kind with
  | none =>
   have hm := hw.m
   rw [hk] at hm
   rw [show w.may = false from by cases q : w.may with | false => rfl | true => exact absurd (hm q) (by decide)]
   intro h
   unfold kdD at h ⊢
   walk_at "w"
   exact h
  | some k =>
   intro h
   unfold kdD at h ⊢
   dsimp only at h ⊢
   rw [kd_isi]
   walk_at "w"
   exact h
 ·walk_at "w"
  exact ⟨by decide, by walk_at "fin", by walk_at "fin"⟩
theorem wishes_np {ws : List Wx} (hl : ws.length ≤ 5) (hk : ∀ w ∈ ws, okWx w) (hn : (ws.map (·.name)).Nodup) (hlt : ∀ (i j : Nat) (w v : Wx) (z : Str), ws[i]? = some w → ws[j]? = some v → w.letter = some z → v.letter = some z → i = j) : vt A [zs "wishes", wxD A ws, zi 5] = some none := by
 unfold vt
 refine ya4 fun i d hd => ?_
 rw [List.getElem?_map] at hd
 obtain ⟨w, hw, rfl⟩ := Option.map_eq_some_iff.mp hd
 have hi := (List.getElem?_eq_some_iff.mp hw).1
 refine ⟨by omega, wa7 ?_⟩
 rw [← List.map_take]
 refine wish_ok (by rw [List.length_take]; omega) (hk w (List.mem_of_getElem? hw)) (fun m => ?_) (fun z hz m => ?_) rfl
 ·have h2 : ((ws.take (i + 1)).map (·.name)).Nodup := List.Nodup.sublist (List.Sublist.map _ (List.take_sublist _ _)) hn
  rw [ym hw, List.map_append, List.nodup_append] at h2
  exact h2.2.2 _ m _ (by simp) rfl
 ·obtain ⟨v, hv, e⟩ := List.mem_map.mp m
  obtain ⟨j, hj⟩ := List.getElem?_of_mem hv
  have hj2 := (List.getElem?_eq_some_iff.mp hj).1
  rw [List.length_take] at hj2
  rw [List.getElem?_take_of_lt (by omega)] at hj
  have := hlt i j w v z hw hj hz e
  omega
def prD (p : Str × Str) : D := .tup [zs p.1, zs p.2]
theorem pr_py {p : Str × Str} (h : okS p.1 ∧ okS p.2) : shp (prD p) = true ∧ dep (prD p) ≤ 1 ∧ py (prD p) = .tuple [.str p.1, .str p.2] := by
 have hs : ∀ d ∈ [zs p.1, zs p.2], Sh 0 d := fun d m => by
  simp only [List.mem_cons, List.not_mem_nil, or_false] at m
  rcases m with rfl | rfl
  ·exact Sh.str h.1
  ·exact Sh.str h.2
 have := Sh.tup hs (by decide)
 exact ⟨this.s, this.p, by unfold prD; rw [waa fun d m => (hs d m).s]; rfl⟩
theorem eqv_pr (a b c d : Str) : PyData.eqv (.tuple [.str a, .str b]) (.tuple [.str c, .str d]) = (a == c && b == d) := by
 rw [PL.yu]
 simp [PyData.eqvAll, PyData.eqv]
theorem jb0 {p : Str × Str} {ps : List (Str × Str)} (h : okS p.1 ∧ okS p.2) (hs : ∀ q ∈ ps, okS q.1 ∧ okS q.2) : inXB (prD p) (.tup (ps.map prD)) = some (decide (p ∈ ps)) ∧ inXB (prD p) (.lst (ps.map prD)) = some (decide (p ∈ ps)) := by
 have h0 := pr_py h
 have h1 : ∀ d ∈ ps.map prD, shp d = true := fun d m => by obtain ⟨q, hq, rfl⟩ := List.mem_map.mp m; exact (pr_py (hs q hq)).1
 have h2 : ∀ d ∈ ps.map prD, dep d ≤ 1 := fun d m => by obtain ⟨q, hq, rfl⟩ := List.mem_map.mp m; exact (pr_py (hs q hq)).2.1
 have := PL.inX_of h0.1 h1 h2 (by decide)
 have e : ((ps.map prD).any fun z => PyData.eqv (py z) (py (prD p))) = decide (p ∈ ps) := by
  rw [List.any_map, Bool.eq_iff_iff, List.any_eq_true, decide_eq_true_eq]
  constructor
  ·rintro ⟨q, hq, e⟩
   rw [Function.comp_apply, (pr_py (hs q hq)).2.2, h0.2.2, eqv_pr, Bool.and_eq_true, beq_iff_eq, beq_iff_eq] at e
   have : q = p := Prod.ext e.1 e.2
   exact this ▸ hq
  ·intro m
   exact ⟨p, m, by rw [Function.comp_apply, h0.2.2, eqv_pr, beq_self_eq_true, beq_self_eq_true]; rfl⟩
 rw [e] at this
 exact this
theorem wb6 (w : Str) (ws : List Str) : inD (zs w) (.lst (ws.map zs)) = some (rvB (inW w ws)) := by
 show (match yw (zs w) (ws.map zs) with | some b => some (rvB b) | none => none) = _
 unfold yw
 rw [if_pos (by rw [zb7]; rfl), sV_zs]
 rfl
theorem pair_ok {p : Str × Str} {names : List Str} (h1 : p.1 ∈ names) (h2 : p.2 ∈ names) (hne : p.1 ≠ p.2) (hk : okS p.1 ∧ okS p.2) (h : Q (rvB true) [.dat (prD p), .dat (.lst (names.map zs))]) : wp (yae A) Q E [.dat (prD p), .dat (.lst (names.map zs))] := by
 unfold yae vb3 prD
 walk_at "w"
 rw [if_neg (show ¬ (!((2 : Nat) : Int) == 2) = true by decide), wb6, inW_iff.mpr h1]
 walk_at "w"
 rw [wb6, inW_iff.mpr h2]
 walk_at "w"
 rw [qb6 hk.1 hk.2, beq_eq_false_iff_ne.mpr hne]
 walk_at "w"
 exact h
structure vbv (names : List Str) (ps : List (Str × Str)) : Prop where
 l : ps.length ≤ 4
 m : ∀ p ∈ ps, p.1 ∈ names ∧ p.2 ∈ names ∧ p.1 ≠ p.2 ∧ okS p.1 ∧ okS p.2
 nd : ps.Nodup
 tn : ∀ p ∈ ps, (p.2, p.1) ∉ ps
theorem wby {ps : List (Str × Str)} {i : Nat} {p : Str × Str} (h : ps.Nodup) (hp : ps[i]? = some p) : p ∉ ps.take i := fun m => by
 have h2 : (ps.take (i + 1)).Nodup := List.Nodup.sublist (List.take_sublist _ _) h
 rw [ym hp, List.nodup_append] at h2
 exact h2.2.2 _ m _ (by simp) rfl
theorem bars_np {names : List Str} {ps : List (Str × Str)} (h : vbv names ps) : ji A (.lst (names.map zs)) [zs "bars", .tup (ps.map prD), zi 4] = some none := by
 unfold ji
 refine ya4 fun i d hd => ?_
 rw [List.getElem?_map] at hd
 obtain ⟨p, hp, rfl⟩ := Option.map_eq_some_iff.mp hd
 have hi := (List.getElem?_eq_some_iff.mp hp).1
 have hl := h.l
 obtain ⟨m1, m2, m3, m4, m5⟩ := h.m p (List.mem_of_getElem? hp)
 have hs : ∀ q ∈ ps.take i, okS q.1 ∧ okS q.2 := fun q m => (h.m q (List.mem_of_mem_take m)).2.2.2
 refine ⟨by omega, wa7 ?_⟩
 unfold qz
 rw [← List.map_take]
 walk_at "w"
 refine ⟨⟨by decide, trivial⟩, pair_ok m1 m2 m3 ⟨m4, m5⟩ ?_⟩
 walk_at "w"
 rw [show qj (prD p) (.tup ((ps.take i).map prD)) = some (rvB true) by unfold qj; rw [(jb0 ⟨m4, m5⟩ hs).1, decide_eq_false (wby h.nd hp)]; rfl]
 walk_at "w"
 have e : prD p = .tup [zs p.1, zs p.2] := rfl
 rw [e]
 walk_at "w"
 rw [show ([zs p.1, zs p.2] : List D).reverse = [zs p.2, zs p.1] from rfl, show qj (.tup [zs p.2, zs p.1]) (.tup ((ps.take i).map prD)) = some (rvB true) by
  unfold qj
  rw [show inXB (D.tup [zs p.2, zs p.1]) (.tup ((ps.take i).map prD)) = _ from (jb0 (p := (p.2, p.1)) ⟨m5, m4⟩ hs).1, decide_eq_false (fun m => h.tn p (List.mem_of_getElem? hp) (List.mem_of_mem_take m))]
  rfl]
 walk_at "w"
theorem needs_np {names : List Str} {ps : List (Str × Str)} (h : vbv names ps) : qi A (.lst (names.map zs)) [zs "needs", .tup (ps.map prD), zi 4] = some none := by
 unfold qi
 refine ya4 fun i d hd => ?_
 rw [List.getElem?_map] at hd
 obtain ⟨p, hp, rfl⟩ := Option.map_eq_some_iff.mp hd
 have hi := (List.getElem?_eq_some_iff.mp hp).1
 have hl := h.l
 obtain ⟨m1, m2, m3, m4, m5⟩ := h.m p (List.mem_of_getElem? hp)
 have hs : ∀ q ∈ ps.take i, okS q.1 ∧ okS q.2 := fun q m => (h.m q (List.mem_of_mem_take m)).2.2.2
 refine ⟨by omega, wa7 ?_⟩
 unfold yy
 rw [← List.map_take]
 walk_at "w"
 refine ⟨⟨by decide, trivial⟩, pair_ok m1 m2 m3 ⟨m4, m5⟩ ?_⟩
 walk_at "w"
 rw [show qj (prD p) (.tup ((ps.take i).map prD)) = some (rvB true) by unfold qj; rw [(jb0 ⟨m4, m5⟩ hs).1, decide_eq_false (wby h.nd hp)]; rfl]
 walk_at "w"
def Tb.obj (A : Ads) (tb : Tb) : D := qg A (wxD A tb.ws) (plD A tb.ps) (.tup (tb.bs.map prD)) (.tup (tb.ds.map prD))
structure TbOk (tb : Tb) : Prop where
 wl : tb.ws.length ≤ 5
 wk : ∀ w ∈ tb.ws, okWx w
 pl : tb.ps.length ≤ 4
 pk : ∀ p ∈ tb.ps, okPl p
 nd : (zj tb.ws ++ tb.ps.map (·.name)).Nodup
 lt : ∀ (i j : Nat) (w v : Wx) (z : Str), tb.ws[i]? = some w → tb.ws[j]? = some v → w.letter = some z → v.letter = some z → i = j
 bs : vbv (zj tb.ws) tb.bs
 ds : vbv (zj tb.ws) tb.ds
theorem TbOk.wn {tb : Tb} (h : TbOk tb) : (zj tb.ws).Nodup := (List.nodup_append.mp h.nd).1
theorem tabX_ok {tb : Tb} (hT : TbOk tb) (h : ∀ r, Q (.dat (.s .non)) (.own (.ob A.c_Table [("wishes", wxD A tb.ws), ("places", plD A tb.ps), ("bars", .tup (tb.bs.map prD)), ("needs", .tup (tb.ds.map prD))]) :: r)) :
  wp (xh A) Q E [.own (.ob A.c_Table []), .dat (wxD A tb.ws), .dat (plD A tb.ps), .dat (.tup (tb.bs.map prD)), .dat (.tup (tb.ds.map prD))] := by
 have hwl := hT.wl
 unfold xh va0
 walk_at "w"
 rw [wishes_np hT.wl hT.wk hT.wn hT.lt]
 walk_at "w"
 rw [PL.vi tb.ws (Wx.obj A) (fun p => zs p.name) (za (by omega)) fun p m => ?_]
 ·walk_at "w"
  rw [show (tb.ws.map fun p => zs p.name) = (zj tb.ws).map zs by unfold zj; rw [List.map_map]; rfl]
  refine ⟨by decide, ?_⟩
  rw [places_np hT.pl (by unfold zj; rw [List.length_map]; omega) hT.pk hT.nd]
  walk_at "w"
  rw [bars_np hT.bs]
  walk_at "w"
  rw [needs_np hT.ds]
  walk_at "w"
  exact ⟨⟨trivial, by decide⟩, ⟨trivial, by decide⟩, ⟨trivial, by decide⟩, ⟨trivial, by decide⟩, by decide, h _⟩
 ·unfold Wx.obj
  walk_at "w"
  exact ⟨by decide, by walk_at "fin", by walk_at "fin"⟩
end
def Pl.told (p : Pl) : D := .tup [zs "place", zs p.name, p.k.told, zs p.o.s]
def Kd.ob (A : Ads) : Kd → Rv
 | .any => .new (.ob A.c_AnyWord [])
 | .num a b => .new (.ob A.c_Number [("least", zi a), ("most", zi b)])
 | .amg ws => .new (.ob A.c_Among [("listed", .tup (ws.map zs))])
 | .beg z => .new (.ob A.c_Begins [("start", zs z)])
section
variable {A : Ads} {Q : Rv → En → Prop} {QF : Fl → En → Prop} {E : Exn → En → Prop}
theorem made_ok {k : Kd} (h : Q (k.ob A) [.dat k.told]) : wp (qp A) Q E [.dat k.told] := by
 unfold qp yat
 cases k with
 | any =>
  unfold Kd.told
  walk_at "wph"
  exact h
 | num a b =>
  unfold Kd.told
  walk_at "wph"
  unfold q8 zau
  walk_at "w"
  exact ⟨⟨trivial, by decide⟩, ⟨trivial, by decide⟩, by decide, h⟩
 | amg ws =>
  unfold Kd.told
  walk_at "wph"
  unfold wae wa0
  walk_at "w"
  exact ⟨⟨trivial, by decide⟩, by decide, h⟩
 | beg z =>
  unfold Kd.told
  walk_at "wph"
  unfold j8 xau
  walk_at "w"
  exact ⟨⟨trivial, by decide⟩, by decide, h⟩
theorem kd_grab {k : Kd} {ρ : En} {QD : D → En → Prop} (h : QD (k.obj A) ρ) : wpG ρ (k.ob A) QD := by cases k <;> exact h
end
def kdT : Option Kd → D
 | none => .s .non
 | some k => k.told
def Wx.told (w : Wx) : D := .tup [zs "wish", zs w.name, ltD w.letter, kdT w.kind, zb w.may, zb w.many, zb w.must]
def Tb.told (tb : Tb) : D := .tup [.tup (tb.ws.map Wx.told), .tup (tb.ps.map Pl.told), .tup (tb.bs.map prD), .tup (tb.ds.map prD)]
section
variable {A : Ads} {Q : Rv → En → Prop} {QF : Fl → En → Prop} {E : Exn → En → Prop}
theorem told_none {k : Kd} : isNone k.told = false := by cases k <;> rfl
abbrev tabX (A : Ads) (tb : Tb) : M := .ob A.c_Table [("wishes", wxD A tb.ws), ("places", plD A tb.ps), ("bars", .tup (tb.bs.map prD)), ("needs", .tup (tb.ds.map prD))]
theorem vb4 {tb : Tb} (hT : TbOk tb) (h : Q (.new (tabX A tb)) [.dat tb.told]) : wp (jq A) Q E [.dat tb.told] := by
 have hwl := hT.wl
 have hpl := hT.pl
 unfold Tb.told at h ⊢
 unfold jq jak
 walk_at "w"
 refine ⟨by decide, by decide, ?_⟩
 refine xt (fun j r => ∃ c2 c3 c4 c5 c6 c7 c8 c9, r = [.dat (.tup [.tup (tb.ws.map Wx.told), .tup (tb.ps.map Pl.told), .tup (tb.bs.map prD), .tup (tb.ds.map prD)]), .own (.lst ((tb.ws.take j).map (Wx.obj A))), c2, c3, c4, c5, c6, c7, c8, c9, .no, .no]) ⟨_, _, _, _, _, _, _, _, rfl⟩ (fun j d r hd hI => ?_) (fun r hI => ?_)
 ·obtain ⟨c2, c3, c4, c5, c6, c7, c8, c9, rfl⟩ := hI
  rw [List.getElem?_map] at hd
  obtain ⟨w, hw, rfl⟩ := Option.map_eq_some_iff.mp hd
  have hj := (List.getElem?_eq_some_iff.mp hw).1
  clear hd h
  unfold Wx.told
  have hlen : ((tb.ws.take j).map (Wx.obj A)).length ≤ 5 := by rw [List.length_map, List.length_take]; omega
  have hnx : (tb.ws.take (j + 1)).map (Wx.obj A) = (tb.ws.take j).map (Wx.obj A) ++ [w.obj A] := by rw [ym hw, List.map_append]; rfl
  rw [hnx]
  generalize (tb.ws.take j).map (Wx.obj A) = acc at hlen
  unfold Wx.obj
  cases hk : w.kind with
  | none =>
   unfold kdT kdD
   walk_at "w"
   refine ⟨trivial, by decide, by decide, by decide, by decide, by decide, by decide, by decide, by decide, trivial, ?_⟩
   unfold wh x7
   walk_at "w"
   exact ⟨⟨trivial, by decide⟩, ⟨trivial, by decide⟩, ⟨trivial, by decide⟩, ⟨trivial, by decide⟩, ⟨trivial, by decide⟩, ⟨trivial, by decide⟩, by decide, Nat.lt_of_le_of_lt hlen (by rw [size_eq]; decide), _, _, _, _, _, _, _, _, rfl⟩
  | some k =>
   unfold kdT kdD
   walk_at "w"
   rw [told_none]
   walk_at "w"
   refine ⟨trivial, by decide, by decide, by decide, by decide, by decide, by decide, by decide, by decide, ⟨by decide, trivial⟩, made_ok ?_⟩
   refine kd_grab ?_
   walk_at "w"
   refine ⟨by decide, trivial, ?_⟩
   unfold wh x7
   walk_at "w"
   exact ⟨⟨trivial, by decide⟩, ⟨trivial, by decide⟩, ⟨trivial, by decide⟩, ⟨trivial, by decide⟩, ⟨trivial, by decide⟩, ⟨trivial, by decide⟩, by decide, Nat.lt_of_le_of_lt hlen (by rw [size_eq]; decide), _, _, _, _, _, _, _, _, rfl⟩
 ·obtain ⟨c2, c3, c4, c5, c6, c7, c8, c9, rfl⟩ := hI
  rw [List.length_map, List.take_length]
  walk_at "w"
  rw [PL.vi tb.ps Pl.told (Pl.obj A) (za (by omega)) fun p m => ?_]
  ·walk_at "w"
   refine ⟨by decide, trivial, tabX_ok hT fun r => ?_⟩
   walk_at "w"
   exact h
  ·unfold Pl.told Pl.obj
   walk_at "w"
   refine ⟨trivial, by decide, by decide, by decide, by decide, ⟨by decide, trivial⟩, made_ok ?_⟩
   refine kd_grab ?_
   walk_at "w"
   refine ⟨trivial, ?_⟩
   unfold xq jae
   walk_at "w"
   exact ⟨⟨trivial, by decide⟩, ⟨trivial, by decide⟩, ⟨trivial, by decide⟩, by decide, by walk_at "fin"⟩
end
structure Dw where
 c : Int
 n : Int
abbrev dw (s : Dw) : Cell := .own (.lst [zi s.c, zi s.n])
section
variable {A : Ads} {Q : Rv → En → Prop} {E : Exn → En → Prop}
theorem vbp {c k : Int} (h : Q (rvI (mixedZ c k)) [.dat (zi c), .dat (zi k)]) : wp (kae A) Q E [.dat (zi c), .dat (zi k)] := by
 unfold kae xb3
 walk_at "w"
 have h1 : (0 : Int) ≤ (c + 7919 * k + 11) * 48271 % 2147483647 := Int.emod_nonneg _ (by decide)
 have h2 : (c + 7919 * k + 11) * 48271 % 2147483647 < 2147483647 := Int.emod_lt_of_pos _ (by decide)
 exact ⟨kbp (by decide), jb6 (by decide), by decide, by decide, kbp (by omega), kbp (by decide), by decide, h⟩
theorem vm {n : Dw} {size : Int} (h0 : 0 < size ∧ size ≤ 1000000) (h : ∀ r (m : Dw), 0 ≤ r → r < size → Q (rvI r) [dw m, .dat (zi size)]) : wp (yf A) Q E [dw n, .dat (zi size)] := by
 obtain ⟨c, n⟩ := n
 unfold yf b_l_next
 obtain ⟨h0, h9⟩ := h0
 walk_at "w"
 refine ⟨⟨by decide, by decide⟩, vbp ?_⟩
 walk_at "w"
 exact ⟨by decide, h0, by decide, h _ ⟨c, _⟩ (Int.emod_nonneg _ (by omega)) (Int.emod_lt_of_pos _ h0)⟩
theorem cell_ok {ns : List Int} {k : Nat} (h : ∀ c, Q (rvI c) [.dat (.ro (ns.map zi)), .dat (zi k)]) : wp (w7 A) Q E [.dat (.ro (ns.map zi)), .dat (zi k)] := by
 unfold w7 kbe
 walk_at "w"
 refine ⟨by decide, ?_⟩
 simp only [List.length_map]
 by_cases c : k < ns.length
 ·rw [if_pos (by omega)]
  rw [zak (by omega)]
  have e : (ns.map zi)[((k : Nat) : Int).toNat]? = some (zi ns[k]) := by
   rw [Int.toNat_natCast, List.getElem?_map, List.getElem?_eq_getElem c]; rfl
  rw [e]
  walk_at "w"
  refine ⟨by decide, ⟨by decide, trivial⟩, vbp ?_⟩
  walk_at "w"
  exact h _
 ·rw [if_neg (by omega)]
  refine ⟨⟨by decide, trivial⟩, vbp ?_⟩
  walk_at "w"
  exact h _
end
def bareL : List Str := ["0", "1", "5", "7", "12", "99", "100", "07", "00", "a", "b", "ab", "abc", "b1", "red", "x", "=", "a-b", "=1", "ba"]
theorem bare_good {w : Str} (h : w ∈ bareL) : goodW w = true ∧ Txt.startswith w "-" = false ∧ w.length ≤ 3 := by
 have : ∀ w ∈ bareL, goodW w = true ∧ Txt.startswith w "-" = false ∧ w.length ≤ 3 := by decide +kernel
 exact this w h
section
variable {A : Ads} {Q : Rv → En → Prop} {QF : Fl → En → Prop} {E : Exn → En → Prop}
theorem jy {n : Dw} {ds : List D} (h0 : 0 < ds.length) (h1 : ds.length ≤ 1000000) (h : ∀ d m, d ∈ ds → Q (.dat d) [dw m, .dat (.lst ds)]) : wp (xf A) Q E [dw n, .dat (.lst ds)] := by
 unfold xf xbu
 walk_at "w"
 refine ⟨⟨by decide, trivial⟩, vm (by omega) fun r m x0 x1 => ?_⟩
 walk_at "w"
 exact atI_in x0 x1 fun d hd => by walk_at "w"; exact ⟨by decide, h d _ hd⟩
end
section
variable {A : Ads} {Q : Rv → En → Prop} {QF : Fl → En → Prop} {E : Exn → En → Prop}
theorem bare_ok {n : Dw} (h : ∀ w m, w ∈ bareL → Q (.dat (zs w)) [dw m]) : wp (wa8 A) Q E [dw n] := by
 unfold wa8 b_l_bare
 walk_at "w"
 refine ⟨za (by decide), by decide, za (by decide), za (by decide), ⟨by decide, trivial⟩, jy (by decide) (by decide) fun d m hd => ?_⟩
 walk_at "w"
 obtain ⟨w, hw, rfl⟩ : ∃ w ∈ bareL, d = zs w := by
  obtain ⟨w, hw, e⟩ := List.mem_map.mp (show d ∈ bareL.map zs from hd)
  exact ⟨w, hw, e.symm⟩
 exact ⟨by decide, h w m hw⟩
end
section
variable {A : Ads} {Q : Rv → En → Prop} {QF : Fl → En → Prop} {E : Exn → En → Prop}
theorem txts_zs (ws : List Str) : kbm (ws.map zs) = some ws := by
 induction ws with
 | nil => rfl
 | cons w ws ih =>
  show kbm (.s (.str w) :: ws.map zs) = _
  unfold kbm
  rw [ih]
theorem sortSet_zs {ws : List Str} (h : ws.length ≤ 1000) : waf (.lst (ws.map zs)) = some (.new (.lst ((SX.sortT ws).map zs))) := by
 unfold waf
 dsimp only
 rw [txts_zs]
 dsimp only
 rw [if_pos (show ws.length + 1 < scanBound from Nat.lt_of_le_of_lt (Nat.succ_le_succ h) (by decide +kernel))]
theorem kind_ok {n : Dw} (h : ∀ (k : Kd) (m : Dw), k.ok → Q (.dat k.told) [dw m]) : wp (yau A) Q E [dw n] := by
 unfold yau b_l_kind
 walk_at "w"
 refine ⟨⟨by decide, trivial⟩, vm (by decide) fun r m x0 x1 => ?_⟩
 walk_at "w"
 by_cases c1 : r < 2
 ·rw [if_pos c1]
  exact ⟨by decide, za (by decide), by decide, h .any _ trivial⟩
 rw [if_neg c1]
 by_cases c2 : r < 4
 ·rw [if_pos c2]
  refine ⟨by decide, za (by decide), ⟨by decide, trivial⟩, jy (by decide) (by decide) fun d m hd => ?_⟩
  obtain ⟨l, rfl, l0, l1⟩ : ∃ l, d = zi l ∧ 0 ≤ l ∧ l ≤ 100 := by
   simp only [List.mem_cons, List.not_mem_nil, or_false] at hd
   rcases hd with rfl | rfl | rfl | rfl | rfl | rfl | rfl
   ·exact ⟨0, rfl, by decide, by decide⟩
   ·exact ⟨0, rfl, by decide, by decide⟩
   ·exact ⟨1, rfl, by decide, by decide⟩
   ·exact ⟨5, rfl, by decide, by decide⟩
   ·exact ⟨7, rfl, by decide, by decide⟩
   ·exact ⟨10, rfl, by decide, by decide⟩
   ·exact ⟨100, rfl, by decide, by decide⟩
  clear hd
  walk_at "w"
  refine ⟨by decide, za (by decide), ⟨by decide, trivial⟩, jy (by decide) (by decide) fun d m hd => ?_⟩
  obtain ⟨x, rfl, xa, xb⟩ : ∃ l, d = zi l ∧ 0 ≤ l ∧ l ≤ 100 := by
   simp only [List.mem_cons, List.not_mem_nil, or_false] at hd
   rcases hd with rfl | rfl | rfl | rfl | rfl
   ·exact ⟨0, rfl, by decide, by decide⟩
   ·exact ⟨1, rfl, by decide, by decide⟩
   ·exact ⟨5, rfl, by decide, by decide⟩
   ·exact ⟨93, rfl, by decide, by decide⟩
   ·exact ⟨99, rfl, by decide, by decide⟩
  clear hd
  walk_at "w"
  exact ⟨za (by decide), by decide, h (.num l (l + x)) _ ⟨l0, by omega, by omega⟩⟩
 rw [if_neg c2]
 by_cases c3 : r < 6
 ·rw [if_pos c3]
  refine ⟨by decide, ⟨by decide, trivial⟩, vm (by decide) fun r1 m y0 y1 => ?_⟩
  walk_at "w"
  refine ⟨vq (by omega) (by omega), ?_⟩
  refine PL.ja9 (R := fun m => [dw m, .dat (zi r), .no, .no, .no]) zs (fun ws _ => ∀ w ∈ ws, w ∈ bareL) _ rfl (fun w h => nomatch h) (by rw [xr]; exact za (by omega)) (fun ws m d _ hI => ?_) fun ws m hws hin => ?_
  ·walk_at "w"
   refine ⟨by decide, ⟨by decide, trivial⟩, bare_ok fun w m hw => ?_⟩
   walk_at "w"
   exact ⟨w, m, rfl, (fun x hx => by
    rcases List.mem_append.mp hx with q | q
    ·exact hI x q
    ·rw [List.mem_singleton.mp q]; exact hw), rfl⟩
  ·rw [xr] at hws
   have hlw : ws.length ≤ 4 ∧ 1 ≤ ws.length := by omega
   walk_at "w"
   refine ⟨by decide, ?_⟩
   rw [sortSet_zs (by omega)]
   have hlen := SX.sortT_len ws
   have hpos : 1 ≤ (SX.sortT ws).length := by
    cases ws with
    | nil => exact absurd hlw.2 (by decide)
    | cons a r => exact List.length_pos_of_mem (SX.mem_sortT.mpr List.mem_cons_self)
   walk_at "w"
   exact ⟨za (by decide), by decide, h (.amg (SX.sortT ws)) _ ⟨⟨hpos, by omega⟩, SX.sortT_nd ws, fun w m => by
    have := bare_good (hin w (SX.mem_sortT.mp m))
    exact ⟨this.1, this.2.1⟩⟩⟩
 rw [if_neg c3]
 refine ⟨by first | decide | exact za (by decide), za (by decide), ⟨by decide, trivial⟩, jy (by decide) (by decide) fun d m hd => ?_⟩
 obtain ⟨z, rfl, hz⟩ : ∃ z : Str, d = zs z ∧ (1 ≤ z.length ∧ z.length ≤ 6) ∧ wo lettersS z = true := by
  simp only [List.mem_cons, List.not_mem_nil, or_false] at hd
  rcases hd with rfl | rfl | rfl | rfl | rfl | rfl
  ·exact ⟨"a", rfl, by decide +kernel⟩
  ·exact ⟨"b", rfl, by decide +kernel⟩
  ·exact ⟨"ab", rfl, by decide +kernel⟩
  ·exact ⟨"abc", rfl, by decide +kernel⟩
  ·exact ⟨"r", rfl, by decide +kernel⟩
  ·exact ⟨"x", rfl, by decide +kernel⟩
 clear hd
 walk_at "w"
 exact ⟨za (by decide), by decide, h (.beg z) _ hz⟩
end
abbrev letL : List Nat := lettersS.cps.toList
abbrev sgn (c : Nat) : Str := ⟨#[c]⟩
theorem letL_len : letL.length = 26 := by decide +kernel
theorem sum_len (bs : List Nat) : ((bs.map sgn).map (·.length)).sum = bs.length := by
 induction bs with
 | nil => rfl
 | cons b bs ih => rw [List.map_cons, List.map_cons, List.sum_cons, ih, List.length_cons]; show 1 + _ = _; omega
theorem zax (a b : Str) : (a ++ b).length = a.length + b.length := by
 rw [← len_list, ← len_list, ← len_list, show (a ++ b).cps.toList = a.cps.toList ++ b.cps.toList from Array.toList_append, List.length_append]
theorem x4 {z a b : Str} : wo z (a ++ b) = (wo z a && wo z b) := by
 unfold wo
 rw [show (a ++ b).cps.toList = a.cps.toList ++ b.cps.toList from Array.toList_append, List.all_append]
theorem jbd {y z : Str} {l h : Option Int} (k : wo y z = true) : wo y (cutS z l h) = true := List.all_eq_true.mpr fun c m => by
 have m : c ∈ List.take _ (List.drop _ z.cps.toList) := m
 exact List.all_eq_true.mp k c (List.mem_of_mem_drop (List.mem_of_mem_take m))
theorem cut_gen (z : Str) (a b : Nat) (h : a ≤ b) : (cutS z (some (a : Int)) (some (b : Int))).length = min b z.length - min a z.length := by
 show (List.take (HT.sIx z.length z.length (some (b : Int)) - HT.sIx z.length 0 (some (a : Int))) (List.drop (HT.sIx z.length 0 (some (a : Int))) z.cps.toList)).length = _
 rw [HT.sIx_nat, HT.sIx_nat, List.length_take, List.length_drop, len_list]
 omega
theorem cut_hd (z : Str) (p : Nat) : (cutS z none (some (p : Int))).length = min p z.length := by
 show (List.take (HT.sIx z.length z.length (some (p : Int)) - HT.sIx z.length 0 none) (List.drop (HT.sIx z.length 0 none) z.cps.toList)).length = _
 rw [HT.sIx_nat, HT.sIx_none, List.drop_zero, List.length_take, len_list]
 omega
theorem cut_tl (z : Str) (p : Nat) : (cutS z (some (p : Int)) none).length = z.length - min p z.length := by
 show (List.take (HT.sIx z.length z.length none - HT.sIx z.length 0 (some (p : Int))) (List.drop (HT.sIx z.length 0 (some (p : Int))) z.cps.toList)).length = _
 rw [HT.sIx_nat, HT.sIx_none, List.length_take, List.length_drop, len_list]
 omega
theorem ya9 {x : Nat} (h : x ∈ letL) : wo lettersS (sgn x) = true := by
 show List.all [x] (inS lettersS) = true
 rw [List.all_cons, List.all_nil, Bool.and_true]
 exact in_of h
theorem kbz {i : Int} {R : Nat → Prop} (h0 : 0 ≤ i) (h1 : i < 26) (h : ∀ x, letL[i.toNat]? = some x → x ∈ letL → R x) : wpO (atI (Str.ofString "abcdefghijklmnopqrstuvwxyz").cps.toList i) R := by
 have hL : (Str.ofString "abcdefghijklmnopqrstuvwxyz").cps.toList = letL := rfl
 rw [hL, zak h0, List.getElem?_eq_getElem (by rw [letL_len]; omega)]
 exact h _ (List.getElem?_eq_getElem _) (List.getElem_mem _)
theorem letL_inj : ∀ i < 26, ∀ j < 26, letL[i]? = letL[j]? → i = j := by decide +kernel
def CandAt (t : Nat) (z : Str) : Prop := vj z ∧ z.cps.toList[0]? = letL[t % 26]?
theorem cands_le {ns : List Str} {zs' : List Str} (h1 : ∀ z ∈ zs', z ∈ ns) (h2 : zs'.Nodup) : zs'.length ≤ ns.length := qbz h2 h1
section
variable {A : Ads} {Q : Rv → En → Prop} {QF : Fl → En → Prop} {E : Exn → En → Prop}
theorem pickS_ok {n : Dw} (h : ∀ x m, x ∈ letL → Q (.dat (zs (sgn x))) [dw m, .dat (zs "abcdefghijklmnopqrstuvwxyz")]) : wp (xf A) Q E [dw n, .dat (zs "abcdefghijklmnopqrstuvwxyz")] := by
 have hL : (Str.ofString "abcdefghijklmnopqrstuvwxyz").length = 26 := by decide +kernel
 unfold xf xbu
 walk_at "w"
 rw [hL]
 refine ⟨za (by decide), ⟨by decide, trivial⟩, vm (by decide) fun r m a b => ?_⟩
 walk_at "w"
 refine ⟨by rw [hL]; exact za (by decide), atI_in a (by rw [show (Str.ofString "abcdefghijklmnopqrstuvwxyz").cps.toList.length = 26 from by decide +kernel]; exact b) fun x hx => ?_⟩
 walk_at "w"
 exact ⟨by decide, h x _ hx⟩
theorem base_ok {n : Dw} {size : Nat} {t c3 c4 c5 c6 c7 c9 c10 : Cell} (hs : size ≤ 100) :
  ∃ (bs : List Nat) (m : Dw), k9 [8] (aN 8) fYes (wd 2 (xf A) (uM 0 (uD (fVar 2) uNil))) (rngD 0 size) [] [dw n, t, .dat (zs "abcdefghijklmnopqrstuvwxyz"), c3, c4, c5, c6, c7, .no, c9, c10] = some (bs.map fun c => zs (sgn c), [dw m, t, .dat (zs "abcdefghijklmnopqrstuvwxyz"), c3, c4, c5, c6, c7, .no, c9, c10]) ∧ bs.length = size ∧ ∀ b ∈ bs, b ∈ letL := by
 obtain ⟨acc, r, h1, h2⟩ := PL.kbd (vs := [8]) (a := aN 8) (tests := fYes) (elt := wd 2 (xf A) (uM 0 (uD (fVar 2) uNil))) (ds := rngD 0 size) (acc0 := []) (ρ := [dw n, t, .dat (zs "abcdefghijklmnopqrstuvwxyz"), c3, c4, c5, c6, c7, .no, c9, c10])
  (fun i acc r => ∃ (bs : List Nat) (m : Dw), acc = bs.map (fun c => zs (sgn c)) ∧ r = [dw m, t, .dat (zs "abcdefghijklmnopqrstuvwxyz"), c3, c4, c5, c6, c7, .no, c9, c10] ∧ bs.length = i ∧ ∀ b ∈ bs, b ∈ letL) ⟨[], n, rfl, rfl, rfl, fun b m => absurd m List.not_mem_nil⟩ (fun i d acc r hd hI => by
   obtain ⟨bs, m, rfl, rfl, hb, hl⟩ := hI
   have hi := (List.getElem?_eq_some_iff.mp hd).1
   rw [xr] at hi
   walk_at "w"
   refine ⟨by simp, ?_⟩
   show wp (P.ret true) _ EF _
   rw [PL.xp]
   walk_at "w"
   refine ⟨⟨by decide, trivial⟩, pickS_ok fun x m hx => ?_⟩
   walk_at "w"
   refine ⟨by rw [List.length_map, hb, size_eq]; omega, bs ++ [x], m, by rw [List.map_append]; rfl, rfl, by rw [List.length_append, hb]; rfl, fun b hb2 => ?_⟩
   rcases List.mem_append.mp hb2 with q | q
   ·exact hl b q
   ·rw [List.mem_singleton.mp q]; exact hx)
 obtain ⟨bs, m, rfl, rfl, hb, hl⟩ := h2
 rw [xr] at hb
 exact ⟨bs, m, h1, hb, hl⟩
end
section
variable {A : Ads} {Q : Rv → En → Prop} {QF : Fl → En → Prop} {E : Exn → En → Prop}
theorem words6_ok : ∀ x ∈ [("many" : Str), "must", "maybe", "any", "asks", "wish"], vj x := by
 have : ∀ x ∈ [("many" : Str), "must", "maybe", "any", "asks", "wish"], (2 ≤ x.length ∧ x.length ≤ 8) ∧ wo lettersS x = true := by decide +kernel
 exact this
theorem names_ok {n : Dw} {k : Nat} (hk : k ≤ 9) (h : ∀ (ns : List Str) (m : Dw), ns.length = k → (∀ z ∈ ns, vj z) → ns.Nodup → Q (.new (.lst (ns.map zs))) [dw m, .dat (zi (k : Nat))]) : wp (xae A) Q E [dw n, .dat (zi (k : Nat))] := by
 unfold xae zb3
 walk_at "w"
 refine ⟨by decide, ⟨by decide, trivial⟩, vm (by decide) fun r1 m a1 b1 => ?_⟩
 walk_at "w"
 obtain ⟨s, hs⟩ := Int.eq_ofNat_of_zero_le (show 0 ≤ 2 + r1 by omega)
 rw [hs]
 refine ⟨vq (by omega) (by omega), ?_⟩
 rw [Int.toNat_natCast]
 obtain ⟨bs, m1, e1, hb, hl⟩ := base_ok (A := A) (n := m) (size := s) (t := .dat (zi (k : Nat))) (c3 := .no) (c4 := .no) (c5 := .no) (c6 := .no) (c7 := .no) (c9 := .no) (c10 := .no) (by omega)
 rw [show (D.s (V.str (Str.ofString "abcdefghijklmnopqrstuvwxyz"))) = zs "abcdefghijklmnopqrstuvwxyz" from rfl, e1]
 walk_at "w"
 rw [show (bs.map fun c => zs (sgn c)) = (bs.map sgn).map (fun y => D.s (.str y)) by rw [List.map_map]; rfl, join_lst]
 walk_at "w"
 have hj : (Txt.join "" (bs.map sgn)).cps.toList = bs := join_signs bs
 have hBl : (Txt.join "" (bs.map sgn)).length = s := by rw [← len_list, hj, hb]
 have hBa : wo lettersS (Txt.join "" (bs.map sgn)) = true := by unfold wo; rw [hj]; exact List.all_eq_true.mpr fun a m => in_of (hl a m)
 rw [sum_len, List.length_map, show ("" : Str).length = 0 from rfl]
 generalize Txt.join "" (bs.map sgn) = B at hBl hBa
 refine ⟨by omega, by decide, za (by omega), ⟨by decide, trivial⟩, vm (by omega) fun r2 m a2 b2 => ?_⟩
 obtain ⟨p, rfl⟩ := Int.eq_ofNat_of_zero_le a2
 walk_at "w"
 refine ⟨by decide, ⟨by decide, trivial⟩, vm (by decide) fun r3 m a3 b3 => ?_⟩
 obtain ⟨sh, rfl⟩ := Int.eq_ofNat_of_zero_le a3
 walk_at "w"
 refine ⟨by decide, ⟨by decide, trivial⟩, vm (by decide) fun r4 m a4 b4 => ?_⟩
 obtain ⟨wy, rfl⟩ := Int.eq_ofNat_of_zero_le a4
 walk_at "w"
 refine ⟨by decide, by decide, by decide, vq (by omega) (by omega), ?_⟩
 rw [Int.toNat_natCast]
 refine xt (fun i r => ∃ (ns : List Str) (m : Dw) (c8 c9 c10 : Cell), r = [dw m, .dat (zi (k : Nat)), .dat (zs "abcdefghijklmnopqrstuvwxyz"), .dat (zs B), .dat (zi p), .dat (zi sh), .dat (zi wy), .own (.lst (ns.map zs)), c8, c9, c10] ∧ ns.length = i ∧ (∀ z ∈ ns, vj z) ∧ ns.Nodup) ⟨[], _, _, _, _, rfl, rfl, fun z m => absurd m List.not_mem_nil, List.nodup_nil⟩ (fun i d r hd hI => ?_) (fun r hI => ?_)
 ·obtain ⟨ns, m, c8, c9, c10, rfl, hn, hok, hnd⟩ := hI
  obtain ⟨hi, rfl⟩ := jag hd
  rw [Int.zero_add]
  clear hd h
  rw [PL.xbv]
  refine ⟨by simp, ?_⟩
  simp only [List.set_cons_succ, List.set_cons_zero]
  refine ke (Q1 := fun r => ∃ z, vj z ∧ r = [dw m, .dat (zi (k : Nat)), .dat (zs "abcdefghijklmnopqrstuvwxyz"), .dat (zs B), .dat (zi p), .dat (zi sh), .dat (zi wy), .own (.lst (ns.map zs)), .dat (zi i), .dat (zs z), c10]) ?_ fun r hr => ?_
  ·have hidx : ((sh : Int) + (i : Int)) % 26 = ((sh + i) % 26 : Nat) := by omega
   have e1 := cut_hd B p
   have e2 := cut_tl B (p + 1)
   walk_at "w"
   refine ⟨by rw [hBl]; exact za (by omega), by decide, ?_⟩
   have hL : (Str.ofString "abcdefghijklmnopqrstuvwxyz").length ≤ sizeLine := by rw [show (Str.ofString "abcdefghijklmnopqrstuvwxyz").length = 26 from by decide +kernel]; exact za (by decide)
   refine ⟨hL, kbz (by omega) (by omega) fun x hx hm => ?_⟩
   have l1 : (sgn x).length = 1 := rfl
   have l2 := zax (cutS B none (some (p : Int))) (sgn x)
   have l3 := zax (cutS B none (some (p : Int)) ++ sgn x) (cutS B (some ((p + 1 : Nat) : Int)) none)
   rw [show ((p : Int) + 1) = ((p + 1 : Nat) : Int) by omega]
   refine ⟨za (by rw [e1, l1]; omega), za (by omega), za (by rw [l2, e1, e2, l1]; omega), by decide, trivial, _, ⟨⟨?_, ?_⟩, ?_⟩, rfl⟩
   ·rw [l3, l2, e1, e2, l1]; omega
   ·rw [l3, l2, e1, e2, l1]; omega
   ·rw [x4, x4, jbd hBa, jbd hBa, ya9 hm]; rfl
  obtain ⟨z, hz, rfl⟩ := hr
  refine ke (Q1 := fun r => ∃ z, vj z ∧ r = [dw m, .dat (zi (k : Nat)), .dat (zs "abcdefghijklmnopqrstuvwxyz"), .dat (zs B), .dat (zi p), .dat (zi sh), .dat (zi wy), .own (.lst (ns.map zs)), .dat (zi i), .dat (zs z), c10]) ?_ fun r hr => ?_
  ·walk_at "w"
   split
   ·split
    ·refine ⟨za (by decide), by decide, atI_in (by omega) (show ((sh : Int) + (i : Int)) % 6 < 6 by omega) fun d hd => ?_⟩
     obtain ⟨x, hx, rfl⟩ := List.mem_map.mp (show d ∈ ([("many" : Str), "must", "maybe", "any", "asks", "wish"].map zs) from hd)
     exact ⟨by decide, trivial, x, words6_ok x hx, rfl⟩
    ·exact ⟨trivial, z, hz, rfl⟩
   ·exact ⟨trivial, z, hz, rfl⟩
  obtain ⟨z, hz, rfl⟩ := hr
  refine ke (Q1 := fun r => ∃ z, vj z ∧ r = [dw m, .dat (zi (k : Nat)), .dat (zs "abcdefghijklmnopqrstuvwxyz"), .dat (zs B), .dat (zi p), .dat (zi sh), .dat (zi wy), .own (.lst (ns.map zs)), .dat (zi i), .dat (zs z), c10]) ?_ fun r hr => ?_
  ·have e1 := cut_hd "zyx" i
   have hzy : ("zyx" : Str).length = 3 := by decide +kernel
   have hza : wo lettersS "zyx" = true := by decide +kernel
   have l1 := zax B (cutS "zyx" none (some (i : Int)))
   walk_at "w"
   rw [hzy] at e1
   split
   ·split
    ·refine ⟨za (by omega), ?_⟩
     split
     ·refine ⟨by rw [hzy]; exact za (by decide), za (by rw [e1]; omega), by decide, trivial, _, ⟨⟨?_, ?_⟩, ?_⟩, rfl⟩
      ·rw [l1]; omega
      ·rw [l1, e1]; omega
      ·rw [x4, hBa, jbd hza]; rfl
     ·exact ⟨trivial, z, hz, rfl⟩
    ·exact ⟨trivial, z, hz, rfl⟩
   ·exact ⟨trivial, z, hz, rfl⟩
  obtain ⟨z, hz, rfl⟩ := hr
  refine ke (Q1 := fun r => ∃ z, vj z ∧ r = [dw m, .dat (zi (k : Nat)), .dat (zs "abcdefghijklmnopqrstuvwxyz"), .dat (zs B), .dat (zi p), .dat (zi sh), .dat (zi wy), .own (.lst (ns.map zs)), .dat (zi i), .dat (zs z), c10]) ?_ fun r hr => ?_
  ·walk_at "w"
   have hL : (Str.ofString "abcdefghijklmnopqrstuvwxyz").length ≤ sizeLine := by rw [show (Str.ofString "abcdefghijklmnopqrstuvwxyz").length = 26 from by decide +kernel]; exact za (by decide)
   split
   ·refine ⟨kbp (by decide), by decide, hL, kbz (by omega) (by omega) fun x hx hm => ?_⟩
    have e1 := cut_gen B 1 (2 + i % 2) (by omega)
    have l1 : (sgn x).length = 1 := rfl
    have l2 := zax (sgn x) (cutS B (some ((1 : Nat) : Int)) (some ((2 + i % 2 : Nat) : Int)))
    rw [show ((2 : Int) + (i : Int) % 2) = ((2 + i % 2 : Nat) : Int) by omega, show (some (1 : Int)) = some ((1 : Nat) : Int) from rfl]
    refine ⟨by decide, za (by omega), za (by rw [l1, e1]; omega), by decide, trivial, _, ⟨⟨?_, ?_⟩, ?_⟩, rfl⟩
    ·rw [l2, l1, e1]; omega
    ·rw [l2, l1, e1]; omega
    ·rw [x4, jbd hBa, ya9 hm]; rfl
   ·exact ⟨trivial, z, hz, rfl⟩
  obtain ⟨z, hz, rfl⟩ := hr
  walk_at "w"
  refine ⟨by decide, ?_⟩
  refine wp_while (m := 30) (fun mm r => ∃ (t : Nat) (z : Str) (cs : List Str), r = [dw m, .dat (zi (k : Nat)), .dat (zs "abcdefghijklmnopqrstuvwxyz"), .dat (zs B), .dat (zi p), .dat (zi sh), .dat (zi wy), .own (.lst (ns.map zs)), .dat (zi i), .dat (zs z), .dat (zi (t : Nat))] ∧ mm = 30 - t ∧ vj z ∧ (t = 0 ∨ CandAt t z) ∧ cs.length = t - 1 ∧ (∀ y ∈ cs, y ∈ ns) ∧ (∀ y ∈ cs, ∃ u, 1 ≤ u ∧ u < t ∧ CandAt u y) ∧ cs.Nodup) ⟨0, z, [], rfl, rfl, hz, .inl rfl, rfl, fun y q => absurd q List.not_mem_nil, fun y q => absurd q List.not_mem_nil, List.nodup_nil⟩ (by decide) (fun mm r hI => ?_)
  obtain ⟨t, z, cs, rfl, rfl, hz, ht, hcl, hcn, hcu, hcd⟩ := hI
  have hlt : cs.length ≤ ns.length := cands_le hcn hcd
  walk_at "w"
  have hL : (Str.ofString "abcdefghijklmnopqrstuvwxyz").length ≤ sizeLine := by rw [show (Str.ofString "abcdefghijklmnopqrstuvwxyz").length = 26 from by decide +kernel]; exact za (by decide)
  rw [wb6]
  cases hin : inW z ns with
  | true =>
   have hzn : z ∈ ns := inW_iff.mp hin
   walk_at "w"
   refine ⟨by decide, by decide, hL, kbz (by omega) (by omega) fun x1 q1 m1 => ?_⟩
   refine ⟨by decide, hL, kbz (by omega) (by omega) fun x2 q2 m2 => ?_⟩
   refine ⟨za (by show 1 + 1 ≤ 1000000; decide), by decide, hL, kbz (by omega) (by omega) fun x3 q3 m3 => ?_⟩
   have l2 := zax (sgn x1) (sgn x2)
   have l3 := zax (sgn x1 ++ sgn x2) (sgn x3)
   have k1 : (sgn x1).length = 1 := rfl
   have k2 : (sgn x2).length = 1 := rfl
   have k3 : (sgn x3).length = 1 := rfl
   have hok3 : vj (sgn x1 ++ sgn x2 ++ sgn x3) := ⟨⟨by rw [l3, l2]; omega, by rw [l3, l2]; omega⟩, by rw [x4, x4, ya9 m1, ya9 m2, ya9 m3]; rfl⟩
   have hcand : CandAt (t + 1) (sgn x1 ++ sgn x2 ++ sgn x3) := ⟨hok3, by
    rw [show ((t : Int) + 1) % 26 = (((t + 1) % 26 : Nat) : Int) by omega, Int.toNat_natCast] at q1
    rw [q1]
    rfl⟩
   refine ⟨za (by show (sgn x1 ++ sgn x2).length + (sgn x3).length ≤ 1000000; rw [l2, k1, k2, k3]; decide), by decide, 30 - (t + 1), by omega, ?_⟩
   rcases Nat.eq_zero_or_pos t with h0 | h0
   ·subst h0
    obtain rfl : cs = [] := List.length_eq_zero_iff.mp hcl
    exact ⟨1, _, [], rfl, rfl, hok3, .inr hcand, rfl, fun y q => absurd q List.not_mem_nil, fun y q => absurd q List.not_mem_nil, List.nodup_nil⟩
   ·have hc : CandAt t z := ht.resolve_left (by omega)
    refine ⟨t + 1, _, z :: cs, rfl, rfl, hok3, .inr hcand, by rw [List.length_cons]; omega, fun y q => ?_, fun y q => ?_, List.nodup_cons.mpr ⟨fun q => ?_, hcd⟩⟩
    ·rcases List.mem_cons.mp q with rfl | q
     ·exact hzn
     ·exact hcn y q
    ·rcases List.mem_cons.mp q with rfl | q
     ·exact ⟨t, h0, by omega, hc⟩
     ·obtain ⟨u, u1, u2, u3⟩ := hcu y q
      exact ⟨u, u1, by omega, u3⟩
    ·obtain ⟨u, u1, u2, u3⟩ := hcu z q
     have e := u3.2.symm.trans hc.2
     have := letL_inj _ (Nat.mod_lt _ (by decide)) _ (Nat.mod_lt _ (by decide)) e
     omega
  | false =>
   have hzn : z ∉ ns := fun q => by rw [inW_iff.mpr q] at hin; cases hin
   walk_at "w"
   have hz1 := hz.1
   refine ⟨za (by omega), ?_⟩
   rw [if_neg (by omega)]
   refine ⟨by rw [List.length_map, size_eq]; omega, ns ++ [z], m, _, _, _, by rw [List.map_append]; rfl, by rw [List.length_append, List.length_singleton, hn], fun y q => ?_, ?_⟩
   ·rcases List.mem_append.mp q with q | q
    ·exact hok y q
    ·rw [List.mem_singleton.mp q]; exact hz
   ·rw [List.nodup_append]
    refine ⟨hnd, by simp, fun x hx y hy e => ?_⟩
    rw [List.mem_singleton.mp hy] at e
    exact hzn (e ▸ hx)
 ·obtain ⟨ns, m, c8, c9, c10, rfl, hn, hok, hnd⟩ := hI
  rw [xr] at hn
  walk_at "w"
  exact ⟨by decide, by decide, h ns m hn hok hnd⟩
end
theorem ybb {α : Type} {f : α → D} {l : List α} {i : Nat} {d : D} (h : (l.map f)[i]? = some d) : ∃ y, l[i]? = some y ∧ d = f y := by
 rw [List.getElem?_map] at h
 obtain ⟨y, hy, e⟩ := Option.map_eq_some_iff.mp h
 exact ⟨y, hy, e.symm⟩
theorem pr_sh {p : Str × Str} (h1 : okS p.1) (h2 : okS p.2) : Sh 1 (prD p) := Sh.tup (n := 0) (fun d m => by
 rcases List.mem_cons.mp m with rfl | m
 ·exact Sh.str h1
 ·rw [List.mem_singleton.mp m]; exact Sh.str h2) (by decide)
structure vb8 (names : List Str) (ps : List (Str × Str)) : Prop where
 m : ∀ p ∈ ps, p.1 ∈ names ∧ p.2 ∈ names ∧ p.1 ≠ p.2
 nd : ps.Nodup
 tn : ∀ p ∈ ps, (p.2, p.1) ∉ ps
section
variable {A : Ads} {Q : Rv → En → Prop} {QF : Fl → En → Prop} {E : Exn → En → Prop}
theorem pairs_ok {n : Dw} {names : List Str} {k : Nat} (h0 : 1 < names.length) (h1 : names.length ≤ 1000) (hk : k ≤ 4) (hok : ∀ z ∈ names, okS z) (h : ∀ ps m, ps.length ≤ 4 → vb8 names ps → Q (.dat (.tup (ps.map prD))) [dw m, .dat (.lst (names.map zs)), .dat (zi (k : Nat))]) : wp (jv A) Q E [dw n, .dat (.lst (names.map zs)), .dat (zi (k : Nat))] := by
 unfold jv zbe
 walk_at "w"
 rw [List.length_map]
 rw [decide_eq_true (show (1 : Int) < (names.length : Int) by omega), show intD [D.s (V.bl true)] = some (rvI 1) from rfl]
 walk_at "w"
 rw [Int.mul_one, Int.toNat_natCast]
 refine ⟨by decide, by decide, jb6 (by decide), vq (by omega) (by omega), ?_⟩
 refine xt (fun i r => ∃ (ps : List (Str × Str)) (m : Dw) (c4 c5 c6 : Cell), r = [dw m, .dat (.lst (names.map zs)), .dat (zi (k : Nat)), .own (.lst (ps.map prD)), c4, c5, c6] ∧ ps.length ≤ i ∧ vb8 names ps) ⟨[], n, _, _, _, rfl, Nat.le_refl _, ⟨fun p m => absurd m List.not_mem_nil, List.nodup_nil, fun p m => absurd m List.not_mem_nil⟩⟩ (fun i d r hd hI => ?_) (fun r hI => ?_)
 ·obtain ⟨ps, m, c4, c5, c6, rfl, hl, hps⟩ := hI
  obtain ⟨hi, rfl⟩ := jag hd
  clear hd
  walk_at "w"
  refine ⟨by decide, ⟨by decide, trivial⟩, jy (by rw [List.length_map]; omega) (by rw [List.length_map]; omega) fun d m hd => ?_⟩
  obtain ⟨a, ha, rfl⟩ := List.mem_map.mp hd
  walk_at "w"
  refine ⟨by decide, ⟨by decide, trivial⟩, jy (by rw [List.length_map]; omega) (by rw [List.length_map]; omega) fun d m hd => ?_⟩
  obtain ⟨b, hb, rfl⟩ := List.mem_map.mp hd
  walk_at "w"
  rw [qb6 (hok a ha) (hok b hb)]
  walk_at "w"
  have hs : ∀ q ∈ ps, okS q.1 ∧ okS q.2 := fun q hq => ⟨hok _ (hps.m q hq).1, hok _ (hps.m q hq).2.1⟩
  have e1 : qj (.tup [zs a, zs b]) (.lst (ps.map prD)) = some (rvB (!decide ((a, b) ∈ ps))) := by
   unfold qj
   rw [show inXB (D.tup [zs a, zs b]) (.lst (ps.map prD)) = _ from (jb0 (p := (a, b)) ⟨hok a ha, hok b hb⟩ hs).2]
  have e2 : qj (.tup [zs b, zs a]) (.lst (ps.map prD)) = some (rvB (!decide ((b, a) ∈ ps))) := by
   unfold qj
   rw [show inXB (D.tup [zs b, zs a]) (.lst (ps.map prD)) = _ from (jb0 (p := (b, a)) ⟨hok b hb, hok a ha⟩ hs).2]
  rw [e1, e2]
  walk_at "w"
  refine ⟨by decide, ?_⟩
  have hno : ∃ (ps_1 : List (Str × Str)) (m_1 : Dw) (c4 c5 c6 : Cell), [dw m, .dat (.lst (names.map zs)), .dat (zi (k : Nat)), .own (.lst (ps.map prD)), .dat (.s (.int (0 + (i : Int)))), .dat (zs a), .dat (zs b)] = [dw m_1, .dat (.lst (names.map zs)), .dat (zi (k : Nat)), .own (.lst (ps_1.map prD)), c4, c5, c6] ∧ ps_1.length ≤ i + 1 ∧ vb8 names ps_1 := ⟨ps, m, _, _, _, rfl, by omega, hps⟩
  by_cases c1 : a = b
  ·rw [if_neg (by rw [beq_iff_eq.mpr c1]; decide)]
   exact hno
  rw [if_pos (by rw [beq_eq_false_iff_ne.mpr c1]; rfl)]
  refine ⟨by decide, ?_⟩
  by_cases c2 : (a, b) ∈ ps
  ·rw [if_neg (by rw [decide_eq_true c2]; decide)]
   exact hno
  rw [if_pos (by rw [decide_eq_false c2]; rfl)]
  refine ⟨by decide, ?_⟩
  by_cases c3 : (b, a) ∈ ps
  ·rw [if_neg (by rw [decide_eq_true c3]; decide)]
   exact hno
  rw [if_pos (by rw [decide_eq_false c3]; rfl)]
  refine ⟨by decide, by rw [List.length_map, size_eq]; omega, ps ++ [(a, b)], m, _, _, _, by rw [List.map_append]; rfl, by rw [List.length_append, List.length_singleton]; omega, ⟨fun p hp => ?_, ?_, fun p hp => ?_⟩⟩
  ·rcases List.mem_append.mp hp with hp | hp
   ·exact hps.m p hp
   ·rw [List.mem_singleton.mp hp]; exact ⟨ha, hb, c1⟩
  ·rw [List.nodup_append]
   refine ⟨hps.nd, by simp, fun x hx y hy e => ?_⟩
   rw [List.mem_singleton.mp hy] at e
   exact c2 (e ▸ hx)
  ·intro hm
   rcases List.mem_append.mp hp with hp | hp <;> rcases List.mem_append.mp hm with hm | hm
   ·exact hps.tn p hp hm
   ·have := List.mem_singleton.mp hm
    have e : p = (b, a) := by rw [← Prod.eta p]; exact Prod.ext (congrArg Prod.snd this) (congrArg Prod.fst this)
    exact c3 (e ▸ hp)
   ·rw [List.mem_singleton.mp hp] at hm
    exact c3 hm
   ·rw [List.mem_singleton.mp hp] at hm
    have := List.mem_singleton.mp hm
    exact c1 (congrArg Prod.snd this)
 ·obtain ⟨ps, m, c4, c5, c6, rfl, hl, hps⟩ := hI
  rw [xr] at hl
  walk_at "w"
  exact ⟨by decide, h ps m (by omega) hps⟩
theorem xby {n : Dw} {names : List Str} {k : Nat} (h1 : names.length ≤ 1000) (hk : k ≤ 4) (hok : ∀ z ∈ names, okS z) (h : ∀ ps (m : Dw), ps.length ≤ 4 → vb8 names ps → Q (.dat (.tup (ps.map prD))) [dw m, .dat (.lst (names.map zs)), .dat (zi (k : Nat))]) : wp (jv A) Q E [dw n, .dat (.lst (names.map zs)), .dat (zi (k : Nat))] := by
 by_cases h0 : 1 < names.length
 ·exact pairs_ok h0 h1 hk hok h
 ·unfold jv zbe
  walk_at "w"
  rw [List.length_map]
  rw [decide_eq_false (show ¬ (1 : Int) < (names.length : Int) by omega), show intD [D.s (V.bl false)] = some (rvI 0) from rfl]
  walk_at "w"
  rw [Int.mul_zero]
  refine ⟨by decide, by decide, jb6 (by decide), by first | decide | exact vq (by decide) (by decide), ?_⟩
  refine xt (fun i r => r = [dw n, .dat (.lst (names.map zs)), .dat (zi (k : Nat)), .own (.lst []), .no, .no, .no]) rfl (fun i d r hd hI => ?_) (fun r hI => ?_)
  ·have := (List.getElem?_eq_some_iff.mp hd).1
   rw [xr] at this
   exact absurd this (Nat.not_lt_zero i)
  ·rw [hI]
   walk_at "w"
   exact ⟨by decide, h [] n (by decide) ⟨(fun p m => nomatch m), List.nodup_nil, (fun p m => nomatch m)⟩⟩
theorem prs_ok {nms : List Str} {ps : List (Str × Str)} (hl : ps.length ≤ 4) (h : vb8 nms ps) (hk : ∀ z ∈ nms, okS z) : vbv nms ps :=
 ⟨hl, fun p m => ⟨(h.m p m).1, (h.m p m).2.1, (h.m p m).2.2, hk _ (h.m p m).1, hk _ (h.m p m).2.1⟩, h.nd, h.tn⟩
end
theorem in_ltN (ls : List (Option Str)) : ∃ b, inD (.s .non) (.lst (ls.map ltD)) = some (rvB b) := by
 refine ⟨((ls.map ltD).map sV).any fun y => eqV y .non, ?_⟩
 show (match yw (.s .non) (ls.map ltD) with | some b => some (rvB b) | none => none) = _
 have h1 : (ls.map ltD).all xb7 = true := List.all_eq_true.mpr fun d m => by
  obtain ⟨o, _, rfl⟩ := List.mem_map.mp m
  cases o <;> rfl
 unfold yw
 rw [if_pos (by rw [h1]; rfl)]
 rfl
section
variable {A : Ads} {Q : Rv → En → Prop} {QF : Fl → En → Prop} {E : Exn → En → Prop}
theorem l_wish_ok {n : Dw} {name : Str} {ls : List (Option Str)} (hn : vj name) (hl : ls.length ≤ 100) (h : ∀ (w : Wx) (m : Dw), okWx w → w.name = name → (∀ z, w.letter = some z → some z ∉ ls) → Q (.dat w.told) [dw m, .dat (zs name), .own (.lst ((ls ++ [w.letter]).map ltD))]) : wp (y7 A) Q E [dw n, .dat (zs name), .own (.lst (ls.map ltD))] := by
 unfold y7 b_l_wish
 rw [PL.wp_run]
 refine ke (Q1 := fun r => ∃ (m : Dw) (o : Option Str), (∀ z, o = some z → okLt z) ∧ r = [dw m, .dat (zs name), .own (.lst (ls.map ltD)), .dat (ltD o), .no, .no]) ?_ fun r hr => ?_
 ·walk_at "w"
  refine ⟨za (by decide), ⟨by decide, trivial⟩, jy (show 0 < 8 by decide) (show 8 ≤ 1000000 by decide) fun d m hd => ?_⟩
  obtain ⟨o, rfl, ho⟩ : ∃ o : Option Str, d = ltD o ∧ ∀ z, o = some z → okLt z := by
   have hk : okLt "a" ∧ okLt "b" ∧ okLt "c" ∧ okLt "v" ∧ okLt "x" ∧ okLt "z" := by
    unfold okLt
    decide +kernel
   simp only [List.mem_cons, List.not_mem_nil, or_false] at hd
   rcases hd with rfl | rfl | rfl | rfl | rfl | rfl | rfl | rfl
   ·exact ⟨some "a", rfl, fun z e => by cases e; exact hk.1⟩
   ·exact ⟨some "b", rfl, fun z e => by cases e; exact hk.2.1⟩
   ·exact ⟨some "c", rfl, fun z e => by cases e; exact hk.2.2.1⟩
   ·exact ⟨some "v", rfl, fun z e => by cases e; exact hk.2.2.2.1⟩
   ·exact ⟨some "x", rfl, fun z e => by cases e; exact hk.2.2.2.2.1⟩
   ·exact ⟨some "z", rfl, fun z e => by cases e; exact hk.2.2.2.2.2⟩
   ·exact ⟨none, rfl, fun z e => by cases e⟩
   ·exact ⟨none, rfl, fun z e => by cases e⟩
  clear hd
  walk_at "w"
  exact ⟨by decide, trivial, m, o, ho, rfl⟩
 obtain ⟨m, o, ho, rfl⟩ := hr
 refine ke (Q1 := fun r => ∃ (o : Option Str), (∀ z, o = some z → okLt z) ∧ (∀ z, o = some z → some z ∉ ls) ∧ r = [dw m, .dat (zs name), .own (.lst (ls.map ltD)), .dat (ltD o), .no, .no]) ?_ fun r hr => ?_
 ·walk_at "w"
  cases o with
  | none =>
   obtain ⟨b, eb⟩ := in_ltN ls
   rw [show ltD none = D.s .non from rfl, eb]
   walk_at "w"
   split
   ·exact ⟨by decide, trivial, none, (fun z e => by cases e), (fun z e => by cases e), rfl⟩
   ·exact ⟨trivial, none, (fun z e => by cases e), (fun z e => by cases e), rfl⟩
  | some z =>
   rw [show ltD (some z) = zs z from rfl, in_lt]
   walk_at "w"
   by_cases c1 : some z ∈ ls
   ·rw [if_pos c1]
    exact ⟨by decide, trivial, none, (fun z e => by cases e), (fun z e => by cases e), rfl⟩
   ·rw [if_neg c1]
    exact ⟨trivial, some z, ho, (fun y e => by cases e; exact c1), rfl⟩
 obtain ⟨o, ho, hno, rfl⟩ := hr
 refine ke (Q1 := fun r => r = [dw m, .dat (zs name), .own (.lst ((ls ++ [o]).map ltD)), .dat (ltD o), .no, .no]) ?_ fun r hr => ?_
 ·walk_at "w"
  refine ⟨za (by rw [List.length_map]; omega), trivial, ?_⟩
  rw [List.map_append]
  rfl
 subst hr
 generalize eL : (ls ++ [o]).map ltD = L
 refine ke (Q1 := fun r => r = [dw m, .dat (zs name), .own (.lst L), .dat (ltD o), .dat (.s .non), .no]) ?_ fun r hr => ?_
 ·walk_at "w"
  exact ⟨by decide, trivial, trivial⟩
 subst hr
 refine ke (Q1 := fun r => ∃ (m : Dw) (k : Option Kd), (∀ x, k = some x → x.ok) ∧ r = [dw m, .dat (zs name), .own (.lst L), .dat (ltD o), .dat (kdT k), .no]) ?_ fun r hr => ?_
 ·walk_at "w"
  refine ⟨⟨by decide, trivial⟩, vm (by decide) fun r m x0 x1 => ?_⟩
  walk_at "w"
  by_cases c1 : r > 1
  ·rw [if_pos c1]
   refine ⟨⟨by decide, trivial⟩, kind_ok fun k m hk => ?_⟩
   walk_at "w"
   exact ⟨by decide, trivial, m, some k, (fun x e => by cases e; exact hk), rfl⟩
  ·rw [if_neg c1]
   exact ⟨trivial, m, none, (fun x e => by cases e), rfl⟩
 obtain ⟨m, k, hk, rfl⟩ := hr
 refine ke (Q1 := fun r => ∃ (m : Dw) (may : Bool), (may = true → k.isSome = true) ∧ r = [dw m, .dat (zs name), .own (.lst L), .dat (ltD o), .dat (kdT k), .dat (zb may)]) ?_ fun r hr => ?_
 ·cases k with
  | none =>
   unfold kdT
   walk_at "w"
   exact ⟨by decide, trivial, m, false, (fun e => by cases e), rfl⟩
  | some k =>
   unfold kdT
   walk_at "w"
   rw [show isNone k.told = false by cases k <;> rfl]
   walk_at "w"
   refine ⟨⟨by decide, trivial⟩, vm (by decide) fun r m x0 x1 => ?_⟩
   walk_at "w"
   exact ⟨by decide, trivial, m, _, (fun _ => rfl), rfl⟩
 obtain ⟨m, may, hmay, rfl⟩ := hr
 walk_at "w"
 refine ⟨⟨by decide, trivial⟩, vm (by decide) fun r1 m x0 x1 => ?_⟩
 walk_at "w"
 refine ⟨⟨by decide, trivial⟩, vm (by decide) fun r2 m y0 y1 => ?_⟩
 walk_at "w"
 rw [← eL]
 exact ⟨za (by decide), by decide, by decide, h ⟨name, o, k, may, (r1 == 0), (r2 == 0)⟩ m ⟨hn, ho, hmay, hk⟩ rfl hno⟩
end
theorem kb4 (ns : List Str) (k : Nat) (h : k ≤ ns.length) : cutG (ns.map zs) none (some (k : Int)) = (ns.take k).map zs := by
 rw [zbd (by rw [List.length_map]; exact h), List.map_take]
theorem drop_sl (ns : List Str) (k : Nat) : cutG (ns.map zs) (some (k : Int)) none = (ns.drop k).map zs := by
 rw [xbd, List.map_drop]
theorem map_pre {α β : Type} {f : α → β} {xs : List α} {ys : List β} {i : Nat} {x : α} {y : β} (h : xs.map f = ys.take i) (hy : ys[i]? = some y) (e : f x = y) : (xs ++ [x]).map f = ys.take (i + 1) := by
 rw [List.map_append, h, ym hy, ← e]
 rfl
def WsI (nk : List Str) (ws : List Wx) (s : Dw × List Wx) : Prop := s.2 = ws ∧ ws.map (·.name) = nk.take ws.length ∧ (∀ w ∈ ws, okWx w) ∧ (∀ (i j : Nat) (w v : Wx) (z : Str), ws[i]? = some w → ws[j]? = some v → w.letter = some z → v.letter = some z → i = j)
theorem wsI_step {nk : List Str} {s2 : List Wx} {m m2 : Dw} {z : Str} {w : Wx} (hI : WsI nk s2 (m, s2)) (hz : nk[s2.length]? = some z) (hw : okWx w) (hwn : w.name = z) (hwl : ∀ x, w.letter = some x → some x ∉ s2.map (·.letter)) : WsI nk (s2 ++ [w]) (m2, s2 ++ [w]) := by
 obtain ⟨_, i1, i2, i3⟩ := hI
 refine ⟨rfl, ?_, fun v hv => ?_, ?_⟩
 ·rw [List.length_append]
  exact map_pre i1 hz hwn
 ·rcases List.mem_append.mp hv with q | q
  ·exact i2 v q
  ·rw [List.mem_singleton.mp q]; exact hw
 ·have hkey : ∀ (i : Nat) (v : Wx) (x : Str), s2[i]? = some v → v.letter = some x → w.letter = some x → False := fun i v x a b c => hwl x c (List.mem_map.mpr ⟨v, List.mem_of_getElem? a, b⟩)
  intro i j v u x hi2 hj2 hv hu
  rcases Nat.lt_or_ge i s2.length with a | a <;> rcases Nat.lt_or_ge j s2.length with b | b
  ·rw [List.getElem?_append_left a] at hi2
   rw [List.getElem?_append_left b] at hj2
   exact i3 i j v u x hi2 hj2 hv hu
  ·rw [List.getElem?_append_left a] at hi2
   rw [List.getElem?_append_right b] at hj2
   obtain rfl := List.mem_singleton.mp (List.mem_of_getElem? hj2)
   exact (hkey i v x hi2 hv hu).elim
  ·rw [List.getElem?_append_right a] at hi2
   rw [List.getElem?_append_left b] at hj2
   obtain rfl := List.mem_singleton.mp (List.mem_of_getElem? hi2)
   exact (hkey j u x hj2 hu hv).elim
  ·have h1 := (List.getElem?_eq_some_iff.mp hi2).1
   have h2 := (List.getElem?_eq_some_iff.mp hj2).1
   rw [List.length_append, List.length_singleton] at h1 h2
   omega
section
variable {A : Ads}
theorem wish_any {m : Dw} {z : Str} {s2 : List Wx} (h1 : vj z) (h2 : (s2.map (·.letter)).length ≤ 100) (Q : Rv → En → Prop) (E : Exn → En → Prop) (ρ : En) (e : ρ = [dw m, .dat (zs z), .own (.lst ((s2.map (·.letter)).map ltD))]) (h : ∀ (w : Wx) (m : Dw), okWx w → w.name = z → (∀ x, w.letter = some x → some x ∉ s2.map (·.letter)) → Q (.dat w.told) [dw m, .dat (zs z), .own (.lst ((s2.map (·.letter) ++ [w.letter]).map ltD))]) : wp (y7 A) Q E ρ := by
 rw [e]
 exact l_wish_ok h1 h2 h
set_option maxHeartbeats 1000000 in
theorem qb4 {nk : List Str} {d1 d2 d3 d4 : D} {m : Dw} {Q : List D × En → Prop} (hl : nk.length ≤ 100) (hok : ∀ z ∈ nk, vj z)
  (h : ∀ (ws : List Wx) (m : Dw) (s2 : List Wx), ws.length = nk.length → WsI nk ws (m, s2) → Q (ws.map Wx.told, [dw m, .dat d1, .dat d2, .dat d3, .dat d4, .own (.lst ((s2.map (·.letter)).map ltD)), .no, .no, .no, .no, .no, .no])) :
  wpO (k9 [11] (aN 11) fYes (wd 3 (y7 A) (uM 0 (uD (fVar 11) (uM 5 uNil)))) (nk.map zs) [] [dw m, .dat d1, .dat d2, .dat d3, .dat d4, .own (.lst []), .no, .no, .no, .no, .no, .no]) Q := by
 refine PL.ja9 (σ := Dw × List Wx) (R := fun s => [dw s.1, .dat d1, .dat d2, .dat d3, .dat d4, .own (.lst ((s.2.map (·.letter)).map ltD)), .no, .no, .no, .no, .no, .no]) Wx.told (WsI nk) (m, []) rfl ⟨rfl, rfl, (fun w h => nomatch h), fun i j w v z hi => by simp at hi⟩ (by rw [List.length_map]; exact za (by omega)) (fun ws s d hd hI => ?_) fun ws s hws hI => ?_
 ·obtain ⟨z, hz, ed⟩ := ybb hd
  obtain ⟨m, s2⟩ := s
  have e2 : s2 = ws := hI.1
  subst e2
  have hi := (List.getElem?_eq_some_iff.mp hz).1
  have hz1 := hok z (List.mem_of_getElem? hz)
  have hsl : (s2.map (·.letter)).length ≤ 100 := by rw [List.length_map]; omega
  rw [ed]
  clear hd ed h
  walk_at "w"
  refine ⟨by decide, ⟨by decide, trivial⟩, ?_⟩
  have key : ∀ (Q : Rv → En → Prop) (E : Exn → En → Prop) (ρ : En), ρ = [dw m, .dat (zs z), .own (.lst ((s2.map (·.letter)).map ltD))] → (∀ (w : Wx) (m : Dw), okWx w → w.name = z → (∀ x, w.letter = some x → some x ∉ s2.map (·.letter)) → Q (.dat w.told) [dw m, .dat (zs z), .own (.lst ((s2.map (·.letter) ++ [w.letter]).map ltD))]) → wp (y7 A) Q E ρ := wish_any hz1 hsl
  clear hsl hz1 hok
  refine key _ _ _ rfl ?_
  clear key
  intro w m2 hw hwn hwl
  walk_at "w"
  exact ⟨w, (m2, s2 ++ [w]), rfl, wsI_step hI hz hw hwn hwl, by simp only [List.map_append, List.map_cons, List.map_nil]⟩
 ·obtain ⟨m, s2⟩ := s
  exact h ws m s2 (by rw [hws, List.length_map]) hI
end
section
variable {A : Ads} {Q : Rv → En → Prop} {QF : Fl → En → Prop} {E : Exn → En → Prop}
theorem l_table_ok {n : Dw} {W P : Nat} (hW : W ≤ 5) (hP : P ≤ 4) (h : ∀ (tb : Tb) (m : Dw), TbOk tb → Q (.dat tb.told) [dw m, .dat (zi W), .dat (zi P)]) : wp (vau A) Q E [dw n, .dat (zi W), .dat (zi P)] := by
 unfold vau qb3
 rw [PL.wp_run]
 refine ke (Q1 := fun r => ∃ (m : Dw) (k : Nat), k ≤ W ∧ r = [dw m, .dat (zi W), .dat (zi P), .dat (zi k), .no, .no, .no, .no, .no, .no, .no, .no]) ?_ fun r hr => ?_
 ·walk_at "w"
  refine ⟨⟨by decide, trivial⟩, vm (by omega) fun r m x0 x1 => ?_⟩
  obtain ⟨k, rfl⟩ := Int.eq_ofNat_of_zero_le x0
  walk_at "w"
  exact ⟨by decide, trivial, m, k, by omega, rfl⟩
 obtain ⟨m, k, hk, rfl⟩ := hr
 refine ke (Q1 := fun r => ∃ (m : Dw) (ns : List Str), k ≤ ns.length ∧ ns.length ≤ k + P ∧ (∀ z ∈ ns, vj z) ∧ ns.Nodup ∧ r = [dw m, .dat (zi W), .dat (zi P), .dat (zi k), .dat (.lst (ns.map zs)), .no, .no, .no, .no, .no, .no, .no]) ?_ fun r hr => ?_
 ·walk_at "w"
  refine ⟨⟨by decide, trivial⟩, vm (by omega) fun r m x0 x1 => ?_⟩
  obtain ⟨p, rfl⟩ := Int.eq_ofNat_of_zero_le x0
  walk_at "w"
  rw [show ((k : Int) + (p : Int)) = ((k + p : Nat) : Int) by omega]
  refine ⟨⟨by decide, trivial⟩, names_ok (by omega) fun ns m hl hok hnd => ?_⟩
  walk_at "w"
  exact ⟨by decide, trivial, m, ns, by omega, by omega, hok, hnd, rfl⟩
 obtain ⟨m, ns, hk1, hk2, hok, hnd, rfl⟩ := hr
 refine ke (Q1 := fun r => r = [dw m, .dat (zi W), .dat (zi P), .dat (zi k), .dat (.lst (ns.map zs)), .own (.lst []), .no, .no, .no, .no, .no, .no]) ?_ fun r hr => ?_
 ·walk_at "w"
  exact ⟨Nat.zero_le _, by decide, trivial, trivial⟩
 subst hr
 have hlt : (ns.take k).length = k := by rw [List.length_take]; omega
 refine ke (Q1 := fun r => ∃ (m : Dw) (ws : List Wx), ws.map (·.name) = ns.take k ∧ (∀ w ∈ ws, okWx w) ∧ (∀ (i j : Nat) (w v : Wx) (z : Str), ws[i]? = some w → ws[j]? = some v → w.letter = some z → v.letter = some z → i = j) ∧ ∃ c5, r = [dw m, .dat (zi W), .dat (zi P), .dat (zi k), .dat (.lst (ns.map zs)), c5, .dat (.tup (ws.map Wx.told)), .no, .no, .no, .no, .no]) ?_ fun r hr => ?_
 ·walk_at "w"
  rw [kb4 ns k hk1]
  refine qb4 (by omega) (fun z hz => hok z (List.mem_of_mem_take hz)) fun ws m s2 hws hI => ?_
  obtain ⟨_, i1, i2, i3⟩ := hI
  rw [hws, List.take_length] at i1
  walk_at "w"
  exact ⟨by decide, trivial, m, ws, i1, i2, i3, _, rfl⟩
 obtain ⟨m, ws, hwn, hwk, hwt, c5, rfl⟩ := hr
 refine ke (Q1 := fun r => r = [dw m, .dat (zi W), .dat (zi P), .dat (zi k), .dat (.lst (ns.map zs)), c5, .dat (.tup (ws.map Wx.told)), .dat (.lst [zs "one", zs "maybe", zs "some", zs "any", zs "any"]), .no, .no, .no, .no]) ?_ fun r hr => ?_
 ·walk_at "w"
  exact ⟨za (by decide), by decide, trivial, trivial⟩
 subst hr
 refine ke (Q1 := fun r => ∃ (m : Dw) (ps : List Pl), ps.map (·.name) = ns.drop k ∧ (∀ p ∈ ps, okPl p) ∧ r = [dw m, .dat (zi W), .dat (zi P), .dat (zi k), .dat (.lst (ns.map zs)), c5, .dat (.tup (ws.map Wx.told)), .dat (.lst [zs "one", zs "maybe", zs "some", zs "any", zs "any"]), .dat (.tup (ps.map Pl.told)), .no, .no, .no]) ?_ fun r hr => ?_
 ·walk_at "w"
  rw [drop_sl ns k]
  refine PL.ja9 (σ := Dw) (R := fun s => [dw s, .dat (zi W), .dat (zi P), .dat (zi k), .dat (.lst (ns.map zs)), c5, .dat (.tup (ws.map Wx.told)), .dat (.lst [zs "one", zs "maybe", zs "some", zs "any", zs "any"]), .no, .no, .no, .no]) Pl.told (fun ps _ => ps.map (·.name) = (ns.drop k).take ps.length ∧ (∀ p ∈ ps, okPl p)) m rfl ⟨rfl, (fun w h => nomatch h)⟩ (by rw [List.length_map, List.length_drop]; exact za (by omega)) (fun ps m d hd hI => ?_) fun ps m hps hI => ?_
  ·obtain ⟨z, hz, ed⟩ := ybb hd
   obtain ⟨i1, i2⟩ := hI
   rw [ed]
   clear hd ed
   walk_at "w"
   refine ⟨by decide, ⟨by decide, trivial⟩, kind_ok fun kd m hkd => ?_⟩
   walk_at "w"
   refine ⟨⟨by decide, trivial⟩, jy (show 0 < 5 by decide) (show 5 ≤ 1000000 by decide) fun d m hd => ?_⟩
   obtain ⟨of, rfl⟩ : ∃ of : Of, d = zs of.s := by
    simp only [List.mem_cons, List.not_mem_nil, or_false] at hd
    rcases hd with rfl | rfl | rfl | rfl | rfl
    ·exact ⟨.one, rfl⟩
    ·exact ⟨.maybe, rfl⟩
    ·exact ⟨.some_, rfl⟩
    ·exact ⟨.any_, rfl⟩
    ·exact ⟨.any_, rfl⟩
   clear hd
   walk_at "w"
   refine ⟨za (by decide), ⟨z, kd, of⟩, m, rfl, ⟨?_, fun p hp => ?_⟩, rfl⟩
   ·rw [List.length_append]
    exact map_pre i1 hz rfl
   ·rcases List.mem_append.mp hp with q | q
    ·exact i2 p q
    ·rw [List.mem_singleton.mp q]
     exact ⟨hok z (List.mem_of_mem_drop (List.mem_of_getElem? hz)), hkd⟩
  ·obtain ⟨i1, i2⟩ := hI
   rw [hps, List.length_map, List.take_length] at i1
   walk_at "w"
   exact ⟨by decide, trivial, m, ps, i1, i2, rfl⟩
 obtain ⟨m, ps, hpn, hpk, rfl⟩ := hr
 have hoS : ∀ z ∈ ns.take k, okS z := fun z hz => qf (hok z (List.mem_of_mem_take hz)).2
 refine ke (Q1 := fun r => ∃ (m : Dw) (bs : List (Str × Str)), bs.length ≤ 4 ∧ vb8 (ns.take k) bs ∧ r = [dw m, .dat (zi W), .dat (zi P), .dat (zi k), .dat (.lst (ns.map zs)), c5, .dat (.tup (ws.map Wx.told)), .dat (.lst [zs "one", zs "maybe", zs "some", zs "any", zs "any"]), .dat (.tup (ps.map Pl.told)), .dat (.tup (bs.map prD)), .no, .no]) ?_ fun r hr => ?_
 ·walk_at "w"
  rw [kb4 ns k hk1]
  refine ⟨za (by decide), ⟨by decide, trivial⟩, jy (show 0 < 6 by decide) (show 6 ≤ 1000000 by decide) fun d m hd => ?_⟩
  obtain ⟨q, rfl, hq⟩ : ∃ q : Nat, d = zi q ∧ q ≤ 4 := by
   simp only [List.mem_cons, List.not_mem_nil, or_false] at hd
   rcases hd with rfl | rfl | rfl | rfl | rfl | rfl
   ·exact ⟨0, rfl, by decide⟩
   ·exact ⟨0, rfl, by decide⟩
   ·exact ⟨0, rfl, by decide⟩
   ·exact ⟨1, rfl, by decide⟩
   ·exact ⟨1, rfl, by decide⟩
   ·exact ⟨2, rfl, by decide⟩
  clear hd
  walk_at "w"
  refine ⟨⟨by decide, trivial⟩, xby (k := q) (by omega) hq hoS fun bs m hbl hbs => ?_⟩
  walk_at "w"
  exact ⟨by decide, trivial, m, bs, hbl, hbs, rfl⟩
 obtain ⟨m, bs, hbl, hbs, rfl⟩ := hr
 refine ke (Q1 := fun r => ∃ (m : Dw) (ds : List (Str × Str)), ds.length ≤ 4 ∧ vb8 (ns.take k) ds ∧ r = [dw m, .dat (zi W), .dat (zi P), .dat (zi k), .dat (.lst (ns.map zs)), c5, .dat (.tup (ws.map Wx.told)), .dat (.lst [zs "one", zs "maybe", zs "some", zs "any", zs "any"]), .dat (.tup (ps.map Pl.told)), .dat (.tup (bs.map prD)), .dat (.tup (ds.map prD)), .no]) ?_ fun r hr => ?_
 ·walk_at "w"
  rw [kb4 ns k hk1]
  refine ⟨za (by decide), ⟨by decide, trivial⟩, jy (show 0 < 5 by decide) (show 5 ≤ 1000000 by decide) fun d m hd => ?_⟩
  obtain ⟨q, rfl, hq⟩ : ∃ q : Nat, d = zi q ∧ q ≤ 4 := by
   simp only [List.mem_cons, List.not_mem_nil, or_false] at hd
   rcases hd with rfl | rfl | rfl | rfl | rfl
   ·exact ⟨0, rfl, by decide⟩
   ·exact ⟨0, rfl, by decide⟩
   ·exact ⟨1, rfl, by decide⟩
   ·exact ⟨2, rfl, by decide⟩
   ·exact ⟨3, rfl, by decide⟩
  clear hd
  walk_at "w"
  refine ⟨⟨by decide, trivial⟩, xby (k := q) (by omega) hq hoS fun ds m hdl hds => ?_⟩
  walk_at "w"
  exact ⟨by decide, trivial, m, ds, hdl, hds, rfl⟩
 obtain ⟨m, ds, hdl, hds, rfl⟩ := hr
 have hwl : ws.length = k := by
  have := congrArg List.length hwn
  rw [List.length_map, hlt] at this
  exact this
 have hpl : ps.length ≤ 4 := by
  have := congrArg List.length hpn
  rw [List.length_map, List.length_drop] at this
  omega
 have hT : TbOk ⟨ws, ps, bs, ds⟩ := ⟨by show ws.length ≤ 5; omega, hwk, by show ps.length ≤ 4; omega, hpk, by
  show (ws.map (·.name) ++ ps.map (·.name)).Nodup
  rw [hwn, hpn, List.take_append_drop]; exact hnd, hwt, by
  show vbv (ws.map (·.name)) bs
  rw [hwn]; exact prs_ok hbl hbs hoS, by
  show vbv (ws.map (·.name)) ds
  rw [hwn]; exact prs_ok hdl hds hoS⟩
 walk_at "w"
 exact ⟨za (by decide), by decide, h ⟨ws, ps, bs, ds⟩ m hT⟩
end
theorem strs_sh {ws : List Str} (h : ∀ w ∈ ws, okS w) : ∀ d ∈ ws.map zs, Sh 0 d := fun d m => by
 obtain ⟨w, hw, rfl⟩ := List.mem_map.mp m
 exact Sh.str (h w hw)
theorem Kd.told_sh {k : Kd} (hk : k.ok) : Sh 2 k.told := by
 have hl : okS "any" ∧ okS "number" ∧ okS "among" ∧ okS "begins" := by decide +kernel
 cases k with
 | any => exact Sh.mono (Sh.tup (n := 0) (fun d m => by rw [List.mem_singleton.mp m]; exact Sh.str hl.1) (by decide)) (by decide)
 | num a b =>
  refine Sh.mono (Sh.tup (n := 0) (fun d m => ?_) (by decide)) (by decide)
  simp only [List.mem_cons, List.not_mem_nil, or_false] at m
  rcases m with rfl | rfl | rfl
  ·exact Sh.str hl.2.1
  ·exact Sh.int
  ·exact Sh.int
 | amg ws =>
  refine Sh.tup (n := 1) (fun d m => ?_) (by decide)
  simp only [List.mem_cons, List.not_mem_nil, or_false] at m
  rcases m with rfl | rfl
  ·exact Sh.mono (Sh.str hl.2.2.1) (by decide)
  ·exact Sh.tup (n := 0) (strs_sh fun w hw => good_okS (good_iff.mp (hk.2.2 w hw).1).2) (by decide)
 | beg z =>
  refine Sh.mono (Sh.tup (n := 0) (fun d m => ?_) (by decide)) (by decide)
  simp only [List.mem_cons, List.not_mem_nil, or_false] at m
  rcases m with rfl | rfl
  ·exact Sh.str hl.2.2.2
  ·exact Sh.str (qf hk.2)
theorem kdT_sh {k : Option Kd} (hk : ∀ x, k = some x → x.ok) : Sh 2 (kdT k) := by
 cases k with
 | none => exact Sh.mono Sh.non (by decide)
 | some x => exact Kd.told_sh (hk x rfl)
theorem ltD_sh {o : Option Str} (h : ∀ z, o = some z → okLt z) : Sh 0 (ltD o) := by
 cases o with
 | none => exact Sh.non
 | some z => exact Sh.str (qf (h z rfl).2)
theorem Wx.told_sh {w : Wx} (hw : okWx w) : Sh 3 w.told := by
 refine Sh.tup (n := 2) (fun d m => ?_) (by decide)
 simp only [List.mem_cons, List.not_mem_nil, or_false] at m
 rcases m with rfl | rfl | rfl | rfl | rfl | rfl | rfl
 ·exact Sh.mono (Sh.str (by decide +kernel)) (by decide)
 ·exact Sh.mono (Sh.str (qf hw.n.2)) (by decide)
 ·exact Sh.mono (ltD_sh hw.l) (by decide)
 ·exact kdT_sh hw.k
 ·exact Sh.mono Sh.bl (by decide)
 ·exact Sh.mono Sh.bl (by decide)
 ·exact Sh.mono Sh.bl (by decide)
theorem Of.okS (o : Of) : PL.okS o.s := by cases o <;> decide +kernel
theorem Pl.told_sh {p : Pl} (hp : okPl p) : Sh 3 p.told := by
 refine Sh.tup (n := 2) (fun d m => ?_) (by decide)
 simp only [List.mem_cons, List.not_mem_nil, or_false] at m
 rcases m with rfl | rfl | rfl | rfl
 ·exact Sh.mono (Sh.str (by decide +kernel)) (by decide)
 ·exact Sh.mono (Sh.str (qf hp.1.2)) (by decide)
 ·exact Kd.told_sh hp.2
 ·exact Sh.mono (Sh.str (Of.okS _)) (by decide)
theorem prs_sh {nms : List Str} {bs : List (Str × Str)} (h : vbv nms bs) : ∀ d ∈ bs.map prD, Sh 1 d := fun d m => by
 obtain ⟨p, hp, rfl⟩ := List.mem_map.mp m
 have := h.m p hp
 exact pr_sh this.2.2.2.1 this.2.2.2.2
theorem ws_sh {tb : Tb} (hT : TbOk tb) : ∀ d ∈ tb.ws.map Wx.told, Sh 3 d := fun d m => by
 obtain ⟨w, hw, rfl⟩ := List.mem_map.mp m
 exact Wx.told_sh (hT.wk w hw)
theorem Tb.told_sh {tb : Tb} (hT : TbOk tb) : Sh 5 tb.told := by
 refine Sh.tup (n := 4) (fun d m => ?_) (by decide)
 simp only [List.mem_cons, List.not_mem_nil, or_false] at m
 rcases m with rfl | rfl | rfl | rfl
 ·exact Sh.tup (ws_sh hT) (by decide)
 ·exact Sh.tup (n := 3) (fun d m => by
   obtain ⟨p, hp, rfl⟩ := List.mem_map.mp m
   exact Pl.told_sh (hT.pk p hp)) (by decide)
 ·exact Sh.mono (Sh.tup (prs_sh hT.bs) (by decide)) (by decide)
 ·exact Sh.mono (Sh.tup (prs_sh hT.ds) (by decide)) (by decide)
section
variable {A : Ads} {Q : Rv → En → Prop} {QF : Fl → En → Prop} {E : Exn → En → Prop}
theorem kbw {k : Option Kd} (h : Q (.dat (kdT k)) [.dat (kdD A k)]) : wp (v7 A) Q E [.dat (kdD A k)] := by
 unfold v7 qbe
 cases k with
 | none =>
  unfold kdD kdT at h
  unfold kdD
  walk_at "w"
  exact h
 | some k =>
  unfold kdD kdT at h
  unfold kdD
  cases k with
  | any =>
   unfold Kd.obj Kd.told at h
   unfold Kd.obj
   walk_at "w"
   unfold yi qq
   walk_at "w"
   exact ⟨by decide, za (by decide), h⟩
  | num a b =>
   unfold Kd.obj Kd.told at h
   unfold Kd.obj
   walk_at "w"
   unfold qm vr
   walk_at "w"
   exact ⟨by decide, za (by decide), h⟩
  | amg ws =>
   unfold Kd.obj Kd.told at h
   unfold Kd.obj
   walk_at "w"
   unfold qo yx
   walk_at "w"
   exact ⟨by decide, za (by decide), h⟩
  | beg z =>
   unfold Kd.obj Kd.told at h
   unfold Kd.obj
   walk_at "w"
   unfold jm yr
   walk_at "w"
   exact ⟨by decide, za (by decide), h⟩
theorem zbw {w : Wx} (h : Q (.dat w.told) [.dat (w.obj A)]) : wp (wm A) Q E [.dat (w.obj A)] := by
 unfold wm vbe
 unfold Wx.obj at h ⊢
 walk_at "w"
 refine ⟨⟨by decide, trivial⟩, kbw ?_⟩
 walk_at "w"
 exact ⟨za (by decide), h⟩
theorem vbh {p : Pl} (h : Q (.dat p.told) [.dat (p.obj A)]) : wp (zk A) Q E [.dat (p.obj A)] := by
 unfold zk ya0
 obtain ⟨nm, k, o⟩ := p
 unfold Pl.obj Pl.told at h
 unfold Pl.obj
 cases k with
 | any =>
  unfold Kd.obj Kd.told at h
  unfold Kd.obj
  walk_at "w"
  unfold yi qq
  walk_at "w"
  exact ⟨by decide, za (by decide), za (by decide), h⟩
 | num a b =>
  unfold Kd.obj Kd.told at h
  unfold Kd.obj
  walk_at "w"
  unfold qm vr
  walk_at "w"
  exact ⟨by decide, za (by decide), za (by decide), h⟩
 | amg ws =>
  unfold Kd.obj Kd.told at h
  unfold Kd.obj
  walk_at "w"
  unfold qo yx
  walk_at "w"
  exact ⟨by decide, za (by decide), za (by decide), h⟩
 | beg z =>
  unfold Kd.obj Kd.told at h
  unfold Kd.obj
  walk_at "w"
  unfold jm yr
  walk_at "w"
  exact ⟨by decide, za (by decide), za (by decide), h⟩
end
structure LTb where
 ws : List (Wx × D)
 ps : List (Pl × D)
 bs : List (Str × Str)
 ds : List (Str × Str)
def LTb.tb (t : LTb) : Tb := ⟨t.ws.map (·.1), t.ps.map (·.1), t.bs, t.ds⟩
section
variable {A : Ads}
def LTb.obj (A : Ads) (t : LTb) : D := qg A (.tup (t.ws.map (·.2))) (.tup (t.ps.map (·.2))) (.tup (t.bs.map prD)) (.tup (t.ds.map prD))
structure LTb.Ok (A : Ads) (t : LTb) : Prop where
 w : ∀ p ∈ t.ws, un1 p.2 = p.1.obj A
 p : ∀ p ∈ t.ps, un1 p.2 = p.1.obj A
theorem wx_un1 {w : Wx} : un1 (w.obj A) = w.obj A := by
 obtain ⟨n, l, k, a, b, c⟩ := w
 cases l <;> cases k with
 | none => rfl
 | some k => cases k <;> rfl
theorem pl_un1 {p : Pl} : un1 (p.obj A) = p.obj A := by
 obtain ⟨n, k, o⟩ := p
 cases k <;> rfl
def Tb.lt (A : Ads) (tb : Tb) : LTb := ⟨tb.ws.map fun w => (w, w.obj A), tb.ps.map fun w => (w, w.obj A), tb.bs, tb.ds⟩
theorem Tb.lt_ok {tb : Tb} : (tb.lt A).Ok A := ⟨fun p m => by
 obtain ⟨w, _, rfl⟩ := List.mem_map.mp m
 exact wx_un1, fun p m => by
 obtain ⟨w, _, rfl⟩ := List.mem_map.mp m
 exact pl_un1⟩
theorem Tb.lt_tb {tb : Tb} : (tb.lt A).tb = tb := by
 obtain ⟨ws, ps, bs, ds⟩ := tb
 unfold Tb.lt LTb.tb
 dsimp only
 rw [List.map_map, List.map_map]
 congr 1
 ·exact List.map_id _
 ·exact List.map_id _
theorem Tb.lt_obj {tb : Tb} : (tb.lt A).obj A = tb.obj A := by
 unfold Tb.lt LTb.obj Tb.obj
 dsimp only
 rw [List.map_map, List.map_map]
 rfl
end
section
variable {A : Ads} {Q : Rv → En → Prop} {QF : Fl → En → Prop} {E : Exn → En → Prop}
theorem zbh {t : LTb} (ht : t.Ok A) (hT : TbOk t.tb) (h : Q (.dat t.tb.told) [.dat (t.obj A)]) : wp (jh A) Q E [.dat (t.obj A)] := by
 have hwl := hT.wl
 have hpl := hT.pl
 unfold LTb.tb at hwl hpl
 rw [List.length_map] at hwl hpl
 unfold jh ka0
 unfold LTb.obj at h ⊢
 unfold LTb.tb Tb.told at h
 rw [List.map_map, List.map_map] at h
 walk_at "w"
 rw [PL.vi t.ws (fun p => p.2) (fun p => p.1.told) (za (by omega)) fun w m => ?_]
 ·walk_at "w"
  refine ⟨by decide, ?_⟩
  rw [PL.vi t.ps (fun p => p.2) (fun p => p.1.told) (za (by omega)) fun p m => ?_]
  ·walk_at "w"
   exact ⟨za (by decide), h⟩
  ·walk_at "w"
   refine ⟨by decide, ?_⟩
   rw [ht.p p m]
   have key : ∀ (Q : Rv → En → Prop) (E : Exn → En → Prop) (ρ : En), ρ = [.dat (p.1.obj A)] → Q (.dat p.1.told) [.dat (p.1.obj A)] → wp (zk A) Q E ρ := fun Q E ρ e h => by
    rw [e]; exact vbh h
   rw [show p.1.obj A = zy A (zs p.1.name) (p.1.k.obj A) (zs p.1.o.s) from rfl] at key ⊢
   walk_at "w"
   refine ⟨by decide, key _ _ _ rfl ?_⟩
   walk_at "w"
   exact ⟨trivial, trivial⟩
 ·walk_at "w"
  refine ⟨by decide, ?_⟩
  rw [ht.w w m]
  have key : ∀ (Q : Rv → En → Prop) (E : Exn → En → Prop) (ρ : En), ρ = [.dat (w.1.obj A)] → Q (.dat w.1.told) [.dat (w.1.obj A)] → wp (wm A) Q E ρ := fun Q E ρ e h => by
   rw [e]; exact zbw h
  rw [show w.1.obj A = xw A (zs w.1.name) (ltD w.1.letter) (kdD A w.1.kind) (zb w.1.may) (zb w.1.many) (zb w.1.must) from rfl] at key ⊢
  walk_at "w"
  refine ⟨by decide, key _ _ _ rfl ?_⟩
  walk_at "w"
  exact ⟨trivial, trivial⟩
end
section
variable {A : Ads} {Q : Rv → En → Prop} {QF : Fl → En → Prop} {E : Exn → En → Prop}
theorem wish_find {t : LTb} {n : Str} (ht : t.Ok A) (hT : TbOk t.tb) (hn : okS n) (hit : ∀ p ∈ t.ws, p.1.name = n → ∀ r, Q (.dat p.2) (.dat (t.obj A) :: .dat (zs n) :: r)) (miss : (∀ p ∈ t.ws, p.1.name ≠ n) → ∀ r, E ⟨A.c_NoName, none⟩ (.dat (t.obj A) :: .dat (zs n) :: r)) : wp (yn A) Q E [.dat (t.obj A), .dat (zs n)] := by
 unfold yn za0
 unfold LTb.obj at hit miss ⊢
 walk_at "w"
 generalize (D.tup (t.ps.map fun p => p.2)) = dP at hit miss ⊢
 refine xt (fun i r => (∀ p ∈ t.ws.take i, p.1.name ≠ n) ∧ ∃ c, r = [.dat (qg A (.tup (t.ws.map fun p => p.2)) dP (.tup (t.bs.map prD)) (.tup (t.ds.map prD))), .dat (zs n), c]) ⟨(fun p m => by rw [List.take_zero] at m; exact nomatch m), _, rfl⟩ (fun i d r hd hI => ?_) (fun r hI => ?_)
 ·obtain ⟨h1, c, rfl⟩ := hI
  obtain ⟨p, hp, rfl⟩ := ybb hd
  have hm := List.mem_of_getElem? hp
  have hpk : okWx p.1 := hT.wk p.1 (List.mem_map.mpr ⟨p, hm, rfl⟩)
  have hpn := qf hpk.n.2
  have hu := ht.w p hm
  have h9 := hit p hm
  clear hit miss hd
  revert hu h9
  generalize p.2 = d
  intro hu h9
  walk_at "w"
  refine ⟨by decide, ?_⟩
  rw [hu, show p.1.obj A = xw A (zs p.1.name) (ltD p.1.letter) (kdD A p.1.kind) (zb p.1.may) (zb p.1.many) (zb p.1.must) from rfl]
  walk_at "w"
  rw [yaw hpn hn]
  walk_at "w"
  by_cases c1 : p.1.name = n
  ·rw [beq_iff_eq.mpr c1]
   walk_at "w"
   exact h9 c1 _
  ·rw [beq_eq_false_iff_ne.mpr c1]
   walk_at "w"
   refine ⟨fun q m => ?_, _, rfl⟩
   rw [ym hp] at m
   rcases List.mem_append.mp m with m | m
   ·exact h1 q m
   ·rw [List.mem_singleton.mp m]; exact c1
 ·obtain ⟨h1, c, rfl⟩ := hI
  rw [List.length_map, List.take_length] at h1
  walk_at "w"
  exact miss h1 _
theorem place_find {t : LTb} {n : Str} (ht : t.Ok A) (hT : TbOk t.tb) (hn : okS n) (hit : ∀ p ∈ t.ps, p.1.name = n → ∀ r, Q (.dat p.2) (.dat (t.obj A) :: .dat (zs n) :: r)) (miss : (∀ p ∈ t.ps, p.1.name ≠ n) → ∀ r, E ⟨A.c_NoName, none⟩ (.dat (t.obj A) :: .dat (zs n) :: r)) : wp (yl A) Q E [.dat (t.obj A), .dat (zs n)] := by
 unfold yl jau
 unfold LTb.obj at hit miss ⊢
 walk_at "w"
 generalize (D.tup (t.ws.map fun p => p.2)) = dP at hit miss ⊢
 refine xt (fun i r => (∀ p ∈ t.ps.take i, p.1.name ≠ n) ∧ ∃ c, r = [.dat (qg A dP (.tup (t.ps.map fun p => p.2)) (.tup (t.bs.map prD)) (.tup (t.ds.map prD))), .dat (zs n), c]) ⟨(fun p m => by rw [List.take_zero] at m; exact nomatch m), _, rfl⟩ (fun i d r hd hI => ?_) (fun r hI => ?_)
 ·obtain ⟨h1, c, rfl⟩ := hI
  obtain ⟨p, hp, rfl⟩ := ybb hd
  have hm := List.mem_of_getElem? hp
  have hpk : okPl p.1 := hT.pk p.1 (List.mem_map.mpr ⟨p, hm, rfl⟩)
  have hpn := qf hpk.1.2
  have hu := ht.p p hm
  have h9 := hit p hm
  clear hit miss hd
  revert hu h9
  generalize p.2 = d
  intro hu h9
  walk_at "w"
  refine ⟨by decide, ?_⟩
  rw [hu, show p.1.obj A = zy A (zs p.1.name) (p.1.k.obj A) (zs p.1.o.s) from rfl]
  walk_at "w"
  rw [yaw hpn hn]
  walk_at "w"
  by_cases c1 : p.1.name = n
  ·rw [beq_iff_eq.mpr c1]
   walk_at "w"
   exact h9 c1 _
  ·rw [beq_eq_false_iff_ne.mpr c1]
   walk_at "w"
   refine ⟨fun q m => ?_, _, rfl⟩
   rw [ym hp] at m
   rcases List.mem_append.mp m with m | m
   ·exact h1 q m
   ·rw [List.mem_singleton.mp m]; exact c1
 ·obtain ⟨h1, c, rfl⟩ := hI
  rw [List.length_map, List.take_length] at h1
  walk_at "w"
  exact miss h1 _
theorem found_wish {t : LTb} {n : Str} (ht : t.Ok A) (hT : TbOk t.tb) (hn : okS n) (hit : ∀ p ∈ t.ws, p.1.name = n → Q (.dat p.2) [.dat (zs "wish"), .dat (t.obj A), .dat (zs n)]) (miss : (∀ p ∈ t.ws, p.1.name ≠ n) → Q (rvB true) [.dat (zs "wish"), .dat (t.obj A), .dat (zs n)]) : wp (zf A) Q E [.dat (zs "wish"), .dat (t.obj A), .dat (zs n)] := by
 have key : ∀ (Q : Rv → En → Prop) (E : Exn → En → Prop) (ρ : En), ρ = [.dat (t.obj A), .dat (zs n)] → (∀ p ∈ t.ws, p.1.name = n → ∀ r, Q (.dat p.2) (.dat (t.obj A) :: .dat (zs n) :: r)) → ((∀ p ∈ t.ws, p.1.name ≠ n) → ∀ r, E ⟨A.c_NoName, none⟩ (.dat (t.obj A) :: .dat (zs n) :: r)) → wp (yn A) Q E ρ := fun Q E ρ e h1 h2 => by
  rw [e]; exact wish_find ht hT hn h1 h2
 unfold zf xbe
 have e0 : t.obj A = qg A (.tup (t.ws.map fun p => p.2)) (.tup (t.ps.map fun p => p.2)) (.tup (t.bs.map prD)) (.tup (t.ds.map prD)) := rfl
 rw [e0] at key hit miss ⊢
 walk_at "w"
 refine ⟨by decide, ?_⟩
 rw [show eqD (zs "wish") (D.s (V.str "wish")) = some (rvB true) from by rw [show (D.s (V.str "wish")) = zs "wish" from rfl, yaw (by decide +kernel) (by decide +kernel)]; rfl]
 walk_at "w"
 refine ⟨by decide, ⟨by decide, trivial⟩, key _ _ _ rfl (fun p hp e r => ?_) (fun hm r => ?_)⟩
 ·have h1 := hit p hp e
  clear hit miss key
  walk_at "w"
  exact ⟨by decide, h1⟩
 ·have h1 := miss hm
  clear hit miss key
  walk_at "w"
  exact ⟨⟨by decide, by decide⟩, za (n := 4) (by decide), h1⟩
theorem jb7 {t : LTb} {n : Str} (ht : t.Ok A) (hT : TbOk t.tb) (hn : okS n) (hit : ∀ p ∈ t.ps, p.1.name = n → Q (.dat p.2) [.dat (zs "place"), .dat (t.obj A), .dat (zs n)]) (miss : (∀ p ∈ t.ps, p.1.name ≠ n) → Q (rvB true) [.dat (zs "place"), .dat (t.obj A), .dat (zs n)]) : wp (zf A) Q E [.dat (zs "place"), .dat (t.obj A), .dat (zs n)] := by
 have key : ∀ (Q : Rv → En → Prop) (E : Exn → En → Prop) (ρ : En), ρ = [.dat (t.obj A), .dat (zs n)] → (∀ p ∈ t.ps, p.1.name = n → ∀ r, Q (.dat p.2) (.dat (t.obj A) :: .dat (zs n) :: r)) → ((∀ p ∈ t.ps, p.1.name ≠ n) → ∀ r, E ⟨A.c_NoName, none⟩ (.dat (t.obj A) :: .dat (zs n) :: r)) → wp (yl A) Q E ρ := fun Q E ρ e h1 h2 => by
  rw [e]; exact place_find ht hT hn h1 h2
 unfold zf xbe
 have e0 : t.obj A = qg A (.tup (t.ws.map fun p => p.2)) (.tup (t.ps.map fun p => p.2)) (.tup (t.bs.map prD)) (.tup (t.ds.map prD)) := rfl
 rw [e0] at key hit miss ⊢
 walk_at "w"
 refine ⟨by decide, ?_⟩
 rw [show eqD (zs "place") (D.s (V.str "wish")) = some (rvB false) from by rw [show (D.s (V.str "wish")) = zs "wish" from rfl, yaw (by decide +kernel) (by decide +kernel)]; rfl]
 walk_at "w"
 refine ⟨by decide, ⟨by decide, trivial⟩, key _ _ _ rfl (fun p hp e r => ?_) (fun hm r => ?_)⟩
 ·have h1 := hit p hp e
  clear hit miss key
  walk_at "w"
  exact ⟨by decide, h1⟩
 ·have h1 := miss hm
  clear hit miss key
  walk_at "w"
  exact ⟨⟨by decide, by decide⟩, za (n := 4) (by decide), h1⟩
end
def labW {α : Type} (f : α → D) : List α → List Addr → List (α × D)
 | [], _ => []
 | w :: ws, as => (w, .lab (as.headD 0) (f w)) :: labW f ws as.tail
theorem labW_1 {α : Type} {f : α → D} : ∀ {ws : List α} {as : List Addr}, (labW f ws as).map (·.1) = ws
 | [], _ => rfl
 | w :: ws, as => by rw [labW, List.map_cons, labW_1]
theorem ybz {α : Type} {f : α → D} : ∀ {ws : List α} {as : List Addr}, (labW f ws as).map (·.2) = labT (ws.map f) as
 | [], _ => rfl
 | w :: ws, as => by rw [labW, List.map_cons, ybz]; rfl
theorem vbz {α : Type} {f : α → D} : ∀ {ws : List α} {as : List Addr}, ∀ p ∈ labW f ws as, ∃ a, p.2 = .lab a (f p.1)
 | [], _, p, m => nomatch m
 | w :: ws, as, p, m => by
  rw [labW] at m
  rcases List.mem_cons.mp m with rfl | m
  ·exact ⟨_, rfl⟩
  ·exact vbz p m
def Tb.la (A : Ads) (tb : Tb) (as : List Addr) : LTb := ⟨labW (Wx.obj A) tb.ws as, labW (Pl.obj A) tb.ps (as.drop tb.ws.length), tb.bs, tb.ds⟩
theorem Tb.la_tb {A : Ads} {tb : Tb} {as : List Addr} : (tb.la A as).tb = tb := by
 obtain ⟨ws, ps, bs, ds⟩ := tb
 unfold Tb.la LTb.tb
 dsimp only
 rw [labW_1, labW_1]
theorem Tb.la_ok {A : Ads} {tb : Tb} {as : List Addr} : (tb.la A as).Ok A := ⟨fun p m => by
 obtain ⟨a, e⟩ := vbz p m
 rw [e]; rfl, fun p m => by
 obtain ⟨a, e⟩ := vbz p m
 rw [e]; rfl⟩
theorem la_lab7 {A : Ads} {tb : Tb} {as : List Addr} {r : En} : lab7 as (.dat (tb.obj A) :: r) = .dat ((tb.la A as).obj A) :: r := by
 show Cell.dat (qg A (.tup (labT (tb.ws.map (Wx.obj A)) as)) (.tup (labT (tb.ps.map (Pl.obj A)) (as.drop (tb.ws.map (Wx.obj A)).length))) (.tup (tb.bs.map prD)) (.tup (tb.ds.map prD))) :: r = _
 rw [List.length_map, ← ybz, ← ybz]
 rfl
theorem la_tab7 {A : Ads} {tb : Tb} {r : En} : Tab7 (.dat (tb.obj A) :: r) := ⟨_, _, _, _, _, _, _, _, rfl, fun d m => by
 obtain ⟨w, _, rfl⟩ := List.mem_map.mp m
 exact ⟨_, _, rfl⟩, fun d m => by
 obtain ⟨w, _, rfl⟩ := List.mem_map.mp m
 exact ⟨_, _, rfl⟩⟩
theorem jbi {bs : List (Str × Str)} : (bs.map prD).map un1 = bs.map prD := by
 rw [List.map_map]; rfl
theorem la_un2 {A : Ads} {tb : Tb} {as : List Addr} : un2 ((tb.la A as).obj A) = tb.obj A := by
 show qg A (.tup (((labW (Wx.obj A) tb.ws as).map (·.2)).map un1)) (.tup (((labW (Pl.obj A) tb.ps (as.drop tb.ws.length)).map (·.2)).map un1)) (.tup ((tb.bs.map prD).map un1)) (.tup ((tb.ds.map prD).map un1)) = _
 rw [ybz, ybz, jb4, jb4, jbi, jbi]
 rfl
theorem la_arg {A : Ads} {tb : Tb} {as : List Addr} {c2 c3 c4 c5 c6 c7 c8 : Cell} : argE 2 [.dat ((tb.la A as).obj A), .dat tb.told, c2, c3, c4, c5, c6, c7, c8] = [.dat (tb.obj A), .dat tb.told, .no, .no, .no, .no, .no, .no, .no] := by
 show [Cell.dat (un2 ((tb.la A as).obj A)), .dat tb.told, .no, .no, .no, .no, .no, .no, .no] = _
 rw [la_un2]
theorem cut_told {n l k a b c : D} : cutG [zs "wish", n, l, k, a, b, c] (some 1) (some 3) = [n, l] ∧ cutG [zs "wish", n, l, k, a, b, c] (some 4) none = [a, b, c] := by
 refine ⟨?_, ?_⟩
 ·show List.take (HT.sIx 7 7 (some ((3 : Nat) : Int)) - HT.sIx 7 0 (some ((1 : Nat) : Int))) (List.drop (HT.sIx 7 0 (some ((1 : Nat) : Int))) _) = _
  rw [HT.sIx_nat, HT.sIx_nat]
  rfl
 ·show cutG _ (some ((4 : Nat) : Int)) none = _
  rw [xbd]
  rfl
theorem cut7_end {a b c d : D} : cutG [a, b, c, d] (some 2) none = [c, d] := by
 show cutG _ (some ((2 : Nat) : Int)) none = _
 rw [xbd]
 rfl
theorem told_k {A : Ads} {Q : Rv → En → Prop} {E : Exn → En → Prop} {k : Kd} {r : En} (h : Q (.dat k.told) r) : qap "told" 1 (ky A) uNil Q E (k.obj A) r := by
 cases k with
 | any =>
  unfold Kd.told at h
  unfold Kd.obj
  walk_at "w"
  unfold yi qq
  walk_at "w"
  exact ⟨by decide, za (by decide), h⟩
 | num a b =>
  unfold Kd.told at h
  unfold Kd.obj
  walk_at "w"
  unfold qm vr
  walk_at "w"
  exact ⟨by decide, za (by decide), h⟩
 | amg ws =>
  unfold Kd.told at h
  unfold Kd.obj
  walk_at "w"
  unfold qo yx
  walk_at "w"
  exact ⟨by decide, za (by decide), h⟩
 | beg z =>
  unfold Kd.told at h
  unfold Kd.obj
  walk_at "w"
  unfold jm yr
  walk_at "w"
  exact ⟨by decide, za (by decide), h⟩
theorem ne_same {A : Ads} {a : Addr} {w : Wx} {d : D} : wb5 (zas A) (.lab a (w.obj A)) (.lab a d) = some (rvB false) := by
 show (if a = a ∧ (zas A).contains A.c_Wish = true then _ else _) = _
 rw [if_pos ⟨rfl, by simp [zas]⟩]
theorem ne_sameP {A : Ads} {a : Addr} {w : Pl} {d : D} : wb5 (zas A) (.lab a (w.obj A)) (.lab a d) = some (rvB false) := by
 show (if a = a ∧ (zas A).contains A.c_Place = true then _ else _) = _
 rw [if_pos ⟨rfl, by simp [zas]⟩]
theorem nth_name {α : Type} {f : α → Str} {l : List α} {i j : Nat} {p q : α} (hn : (l.map f).Nodup) (hi : l[i]? = some p) (hj : l[j]? = some q) (e : f p = f q) : i = j := by
 have h1 := (List.getElem?_eq_some_iff.mp hi).1
 have a : (l.map f)[i]? = some (f p) := by rw [List.getElem?_map, hi]; rfl
 have b : (l.map f)[j]? = some (f p) := by rw [List.getElem?_map, hj, e]; rfl
 exact (List.getElem?_inj (by rw [List.length_map]; exact h1) hn).mp (a.trans b.symm)
theorem nms_w {t : LTb} (hT : TbOk t.tb) {p q : Wx × D} (hp : p ∈ t.ws) (hq : q ∈ t.ws) (e : q.1.name = p.1.name) : q = p := by
 have hnd : (t.ws.map fun p => p.1.name).Nodup := by
  have := (List.nodup_append.mp hT.nd).1
  unfold LTb.tb zj at this
  rw [List.map_map] at this
  exact this
 obtain ⟨i, hi⟩ := List.getElem?_of_mem hp
 obtain ⟨j, hj⟩ := List.getElem?_of_mem hq
 obtain rfl := nth_name (f := fun p : Wx × D => p.1.name) hnd hj hi e
 exact Option.some.inj (hj.symm.trans hi)
theorem nms_p {t : LTb} (hT : TbOk t.tb) {p q : Pl × D} (hp : p ∈ t.ps) (hq : q ∈ t.ps) (e : q.1.name = p.1.name) : q = p := by
 have hnd : (t.ps.map fun p => p.1.name).Nodup := by
  have := (List.nodup_append.mp hT.nd).2.1
  unfold LTb.tb at this
  rw [List.map_map] at this
  exact this
 obtain ⟨i, hi⟩ := List.getElem?_of_mem hp
 obtain ⟨j, hj⟩ := List.getElem?_of_mem hq
 obtain rfl := nth_name (f := fun p : Pl × D => p.1.name) hnd hj hi e
 exact Option.some.inj (hj.symm.trans hi)
theorem nms_x {t : LTb} (hT : TbOk t.tb) {p : Wx × D} {q : Pl × D} (hp : p ∈ t.ws) (hq : q ∈ t.ps) : p.1.name ≠ q.1.name := by
 have := (List.nodup_append.mp hT.nd).2.2
 unfold LTb.tb zj at this
 dsimp only at this
 rw [List.map_map, List.map_map] at this
 exact this _ (List.mem_map.mpr ⟨p, hp, rfl⟩) _ (List.mem_map.mpr ⟨q, hq, rfl⟩)
section
variable {A : Ads} {Q : Rv → En → Prop} {QF : Fl → En → Prop} {E : Exn → En → Prop}
theorem right_ok {tb : Tb} (hT : TbOk tb) (h : Q (rvB true) [.dat (tb.obj A), .dat tb.told]) : wp (zae A) Q E [.dat (tb.obj A), .dat tb.told] := by
 unfold zae jb3
 rw [PL.wp_run]
 refine wp_labA (d := zb true) (r := [.dat (tb.obj A), .dat tb.told, .no, .no, .no, .no, .no, .no, .no]) la_tab7 (fun as => ?_) ?_
 ·have ht : (tb.la A as).Ok A := Tb.la_ok
  have hp : ∀ p ∈ (tb.la A as).ws, ∃ a, p.2 = .lab a (p.1.obj A) := fun p m => vbz p m
  have hq : ∀ p ∈ (tb.la A as).ps, ∃ a, p.2 = .lab a (p.1.obj A) := fun p m => vbz p m
  have hr : ∀ c2 c3 c4 c5 c6 c7 c8 : Cell, argE 2 [.dat ((tb.la A as).obj A), .dat tb.told, c2, c3, c4, c5, c6, c7, c8] = [.dat (tb.obj A), .dat tb.told, .no, .no, .no, .no, .no, .no, .no] := fun c2 c3 c4 c5 c6 c7 c8 => la_arg
  have e1 : tb = (tb.la A as).tb := Tb.la_tb.symm
  change wp _ _ _ (lab7 as (.dat (tb.obj A) :: [.dat tb.told, .no, .no, .no, .no, .no, .no, .no]))
  rw [la_lab7]
  have hQ : ∀ c2 c3 c4 c5 c6 c7 c8 : Cell, (fun (fl' : Fl) (r' : En) => fl' = .ret (.dat (zb true)) ∧ argE 2 r' = [.dat (tb.obj A), .dat tb.told, .no, .no, .no, .no, .no, .no, .no]) (.ret (.dat (zb true))) [.dat ((tb.la A as).obj A), .dat tb.told, c2, c3, c4, c5, c6, c7, c8] := fun c2 c3 c4 c5 c6 c7 c8 => ⟨rfl, hr ..⟩
  revert hQ
  generalize (fun (fl' : Fl) (r' : En) => fl' = .ret (.dat (zb true)) ∧ argE 2 r' = [.dat (tb.obj A), .dat tb.told, .no, .no, .no, .no, .no, .no, .no]) = QF
  generalize (fun (_ : Exn) (_ : En) => False) = E
  intro hQ
  clear hr h
  generalize tb.la A as = t at ht hp hq e1 hQ ⊢
  subst e1
  have hwl := hT.wl
  have hpl := hT.pl
  unfold LTb.tb at hwl hpl
  rw [List.length_map] at hwl hpl
  have key : ∀ (Q : Rv → En → Prop) (E : Exn → En → Prop) (ρ : En), ρ = [.dat (t.obj A)] → Q (.dat t.tb.told) [.dat (t.obj A)] → wp (jh A) Q E ρ := fun Q E ρ e h => by
   rw [e]; exact zbh ht hT h
  have eo : t.obj A = qg A (.tup (t.ws.map fun p => p.2)) (.tup (t.ps.map fun p => p.2)) (.tup (t.bs.map prD)) (.tup (t.ds.map prD)) := rfl
  have et : t.tb.told = .tup [.tup (t.ws.map fun p => p.1.told), .tup (t.ps.map fun p => p.1.told), .tup (t.bs.map prD), .tup (t.ds.map prD)] := by
   unfold LTb.tb Tb.told
   dsimp only
   rw [List.map_map, List.map_map]
   rfl
  have hsh := Tb.told_sh hT
  refine ke (Q1 := fun r => r = [.dat (t.obj A), .dat t.tb.told, .no, .no, .no, .no, .no, .no, .no]) ?_ fun r hr => ?_
  ·rw [eo] at key ⊢
   walk_at "w"
   refine ⟨by decide, key _ _ _ rfl ?_⟩
   walk_at "w"
   rw [PL.ne_self hsh]
   walk_at "w"
   refine ⟨by decide, key _ _ _ rfl ?_⟩
   walk_at "w"
   rw [et, show ∀ l, isiD A.K A.cs [D.tup l, D.s (.ty "tuple")] = some (rvB true) from fun l => rfl]
   walk_at "w"
   exact ⟨trivial, trivial⟩
  subst hr
  refine ke (Q1 := fun r => r = [.dat (t.obj A), .dat t.tb.told, .no, .no, .no, .no, .no, .no, .no]) ?_ fun r hr => ?_
  ·rw [eo]
   walk_at "w"
   exact ⟨trivial, trivial⟩
  subst hr
  have hs1 : Sh 4 (.lst (t.ws.map fun p => p.1.told)) := Sh.lst (n := 3) (fun d m => by
   obtain ⟨p, hp, rfl⟩ := List.mem_map.mp m
   exact Wx.told_sh (hT.wk p.1 (List.mem_map.mpr ⟨p, hp, rfl⟩))) (by decide)
  have hs2 : Sh 4 (.lst (t.ps.map fun p => p.1.told)) := Sh.lst (n := 3) (fun d m => by
   obtain ⟨p, hp, rfl⟩ := List.mem_map.mp m
   exact Pl.told_sh (hT.pk p.1 (List.mem_map.mpr ⟨p, hp, rfl⟩))) (by decide)
  have hs3 : Sh 3 (.tup [.tup (t.bs.map prD), .tup (t.ds.map prD)]) := Sh.tup (n := 2) (fun d m => by
   simp only [List.mem_cons, List.not_mem_nil, or_false] at m
   rcases m with rfl | rfl
   ·exact Sh.tup (prs_sh hT.bs) (by decide)
   ·exact Sh.tup (prs_sh hT.ds) (by decide)) (by decide)
  refine ke (Q1 := fun r => r = [.dat (t.obj A), .dat t.tb.told, .no, .no, .no, .no, .no, .no, .no]) ?_ fun r hr => ?_
  ·rw [eo, et]
   walk_at "w"
   refine ⟨za (n := 2) (by decide), ?_⟩
   rw [cut7_end, PL.ne_self hs3]
   walk_at "w"
   rw [PL.vi t.ws (fun p => p.2) (fun p => p.1.told) (za (by omega)) fun w m => ?_]
   ·walk_at "w"
    rw [PL.ne_self hs1]
    walk_at "w"
    exact ⟨trivial, trivial⟩
   ·walk_at "w"
    refine ⟨by decide, ?_⟩
    rw [ht.w w m]
    have key : ∀ (Q : Rv → En → Prop) (E : Exn → En → Prop) (ρ : En), ρ = [.dat (w.1.obj A)] → Q (.dat w.1.told) [.dat (w.1.obj A)] → wp (wm A) Q E ρ := fun Q E ρ e h => by
     rw [e]; exact zbw h
    rw [show w.1.obj A = xw A (zs w.1.name) (ltD w.1.letter) (kdD A w.1.kind) (zb w.1.may) (zb w.1.many) (zb w.1.must) from rfl] at key ⊢
    walk_at "w"
    refine ⟨by decide, key _ _ _ rfl ?_⟩
    walk_at "w"
    exact ⟨trivial, trivial⟩
  subst hr
  refine ke (Q1 := fun r => r = [.dat (t.obj A), .dat t.tb.told, .no, .no, .no, .no, .no, .no, .no]) ?_ fun r hr => ?_
  ·rw [eo, et]
   walk_at "w"
   rw [PL.vi t.ps (fun p => p.2) (fun p => p.1.told) (za (by omega)) fun w m => ?_]
   ·walk_at "w"
    rw [PL.ne_self hs2]
    walk_at "w"
    exact ⟨trivial, trivial⟩
   ·walk_at "w"
    refine ⟨by decide, ?_⟩
    rw [ht.p w m]
    have key : ∀ (Q : Rv → En → Prop) (E : Exn → En → Prop) (ρ : En), ρ = [.dat (w.1.obj A)] → Q (.dat w.1.told) [.dat (w.1.obj A)] → wp (zk A) Q E ρ := fun Q E ρ e h => by
     rw [e]; exact vbh h
    rw [show w.1.obj A = zy A (zs w.1.name) (w.1.k.obj A) (zs w.1.o.s) from rfl] at key ⊢
    walk_at "w"
    refine ⟨by decide, key _ _ _ rfl ?_⟩
    walk_at "w"
    exact ⟨trivial, trivial⟩
  subst hr
  have keyW : ∀ (n : Str) (Q : Rv → En → Prop) (E : Exn → En → Prop) (ρ : En), ρ = [.dat (zs "wish"), .dat (t.obj A), .dat (zs n)] → okS n → (∀ p ∈ t.ws, p.1.name = n → Q (.dat p.2) [.dat (zs "wish"), .dat (t.obj A), .dat (zs n)]) → ((∀ p ∈ t.ws, p.1.name ≠ n) → Q (rvB true) [.dat (zs "wish"), .dat (t.obj A), .dat (zs n)]) → wp (zf A) Q E ρ := fun n Q E ρ e hn h1 h2 => by
   rw [e]; exact found_wish ht hT hn h1 h2
  have keyP : ∀ (n : Str) (Q : Rv → En → Prop) (E : Exn → En → Prop) (ρ : En), ρ = [.dat (zs "place"), .dat (t.obj A), .dat (zs n)] → okS n → (∀ p ∈ t.ps, p.1.name = n → Q (.dat p.2) [.dat (zs "place"), .dat (t.obj A), .dat (zs n)]) → ((∀ p ∈ t.ps, p.1.name ≠ n) → Q (rvB true) [.dat (zs "place"), .dat (t.obj A), .dat (zs n)]) → wp (zf A) Q E ρ := fun n Q E ρ e hn h1 h2 => by
   rw [e]; exact jb7 ht hT hn h1 h2
  refine ke (Q1 := fun r => ∃ c2 c3, r = [.dat (t.obj A), .dat t.tb.told, c2, c3, .no, .no, .no, .no, .no]) ?_ fun r hr => ?_
  ·rw [PL.vax]
   rw [et]
   walk_at "w"
   rw [List.length_map, ← et]
   refine ⟨vq (by omega) (by omega), ?_⟩
   rw [Int.toNat_natCast]
   refine xt (fun i r => ∃ c2 c3, r = [.dat (t.obj A), .dat t.tb.told, c2, c3, .no, .no, .no, .no, .no]) ⟨_, _, rfl⟩ (fun i d r hd hI => ?_) (fun r hI => ?_)
   ·obtain ⟨hi, ed⟩ := jag hd
    obtain ⟨c2, c3, rfl⟩ := hI
    rw [show (0 : Int) + (i : Int) = ((i : Nat) : Int) by omega] at ed
    rw [ed, PL.xbv]
    refine ⟨by simp, ?_⟩
    clear hd ed
    have hpi := List.getElem?_eq_getElem hi
    generalize t.ws[i] = p at hpi
    have hpm := List.mem_of_getElem? hpi
    obtain ⟨a, ha⟩ := hp p hpm
    have hw : okWx p.1 := hT.wk p.1 (List.mem_map.mpr ⟨p, hpm, rfl⟩)
    have a1 : atI (t.ws.map fun p => p.2) ((i : Nat) : Int) = some (.lab a (p.1.obj A)) := by
     rw [zak (by omega), Int.toNat_natCast, List.getElem?_map, hpi, ← ha]; rfl
    have a2 : atI (t.ws.map fun p => p.1.told) ((i : Nat) : Int) = some p.1.told := by
     rw [zak (by omega), Int.toNat_natCast, List.getElem?_map, hpi]; rfl
    refine ke (Q1 := fun r => r = [.dat (t.obj A), .dat t.tb.told, .dat (zi (i : Nat)), .dat (.lab a (p.1.obj A)), .no, .no, .no, .no, .no]) ?_ fun r hr => ?_
    ·rw [eo]
     walk_at "w"
     rw [a1]
     walk_at "w"
     exact ⟨by decide, trivial, trivial⟩
    subst hr
    have ht2 : p.1.told = .tup [zs "wish", zs p.1.name, ltD p.1.letter, kdT p.1.kind, zb p.1.may, zb p.1.many, zb p.1.must] := rfl
    have hob : p.1.obj A = xw A (zs p.1.name) (ltD p.1.letter) (kdD A p.1.kind) (zb p.1.may) (zb p.1.many) (zb p.1.must) := rfl
    have hnS : okS p.1.name := qf hw.n.2
    have hs5 : Sh 1 (.tup [zs p.1.name, ltD p.1.letter, zb p.1.may, zb p.1.many, zb p.1.must]) := Sh.tup (n := 0) (fun d m => by
     simp only [List.mem_cons, List.not_mem_nil, or_false] at m
     rcases m with rfl | rfl | rfl | rfl | rfl
     ·exact Sh.str hnS
     ·exact ltD_sh hw.l
     ·exact Sh.bl
     ·exact Sh.bl
     ·exact Sh.bl) (by decide)
    refine ke (Q1 := fun r => r = [.dat (t.obj A), .dat t.tb.told, .dat (zi (i : Nat)), .dat (.lab a (p.1.obj A)), .no, .no, .no, .no, .no]) ?_ fun r hr => ?_
    ·rw [hob, et]
     walk_at "w"
     rw [a2, ht2]
     walk_at "w"
     rw [(cut_told ..).1, (cut_told ..).2]
     refine ⟨za (n := 5) (by decide), za (n := 5) (by decide), ?_⟩
     rw [show ∀ a b c d e : D, neD (D.tup [a, b, c, d, e]) (D.tup ([a, b] ++ [c, d, e])) = neD (D.tup [a, b, c, d, e]) (D.tup [a, b, c, d, e]) from fun _ _ _ _ _ => rfl, PL.ne_self hs5]
     walk_at "w"
     exact ⟨trivial, trivial⟩
    subst hr
    refine ke (Q1 := fun r => r = [.dat (t.obj A), .dat t.tb.told, .dat (zi (i : Nat)), .dat (.lab a (p.1.obj A)), .no, .no, .no, .no, .no]) ?_ fun r hr => ?_
    ·rw [hob, et]
     walk_at "w"
     rw [a2, ht2]
     walk_at "w"
     rw [show ∀ a b c d e f g : D, atI [a, b, c, d, e, f, g] 3 = some d from fun _ _ _ _ _ _ _ => rfl]
     have hkn : isNone (kdD A p.1.kind) = isNone (kdT p.1.kind) := by
      cases p.1.kind with
      | none => rfl
      | some k => exact kd_none.trans told_none.symm
     walk_at "w"
     rw [hkn, beq_self_eq_true]
     exact ⟨trivial, trivial⟩
    subst hr
    refine ke (Q1 := fun r => r = [.dat (t.obj A), .dat t.tb.told, .dat (zi (i : Nat)), .dat (.lab a (p.1.obj A)), .no, .no, .no, .no, .no]) ?_ fun r hr => ?_
    ·rw [hob, et]
     walk_at "w"
     cases hk : p.1.kind with
     | none =>
      unfold kdD
      walk_at "w"
      exact ⟨trivial, trivial⟩
     | some k =>
      unfold kdD
      dsimp only
      rw [kd_none]
      walk_at "w"
      refine told_k ?_
      walk_at "w"
      rw [a2, ht2, hk]
      unfold kdT
      walk_at "w"
      rw [show ∀ a b c d e f g : D, atI [a, b, c, d, e, f, g] 3 = some d from fun _ _ _ _ _ _ _ => rfl]
      walk_at "w"
      rw [PL.ne_self (Kd.told_sh (hw.k k hk))]
      walk_at "w"
      exact ⟨trivial, trivial⟩
    subst hr
    refine ke (Q1 := fun r => r = [.dat (t.obj A), .dat t.tb.told, .dat (zi (i : Nat)), .dat (.lab a (p.1.obj A)), .no, .no, .no, .no, .no]) ?_ fun r hr => ?_
    ·rw [hob]
     walk_at "w"
     refine ⟨⟨by decide, trivial⟩, keyW _ _ _ _ rfl hnS (fun q hq e => ?_) (fun hm => absurd rfl (hm p hpm))⟩
     obtain rfl := nms_w hT hpm hq e
     rw [ha]
     walk_at "w"
     rw [← hob, ne_same]
     walk_at "w"
     exact ⟨trivial, trivial⟩
    subst hr
    rw [hob]
    walk_at "w"
    refine ⟨⟨by decide, trivial⟩, keyP _ _ _ _ rfl hnS (fun q hq e => absurd e.symm (nms_x hT hpm hq)) (fun _ => ?_)⟩
    walk_at "w"
    exact ⟨_, _, rfl⟩
   ·obtain ⟨c2, c3, rfl⟩ := hI
    exact ⟨rfl, _, _, rfl⟩
  obtain ⟨c2, c3, rfl⟩ := hr
  refine ke (Q1 := fun r => ∃ c2 c3 c4, r = [.dat (t.obj A), .dat t.tb.told, c2, c3, c4, .no, .no, .no, .no]) ?_ fun r hr => ?_
  ·rw [PL.vax]
   rw [et]
   walk_at "w"
   rw [List.length_map, ← et]
   refine ⟨vq (by omega) (by omega), ?_⟩
   rw [Int.toNat_natCast]
   refine xt (fun i r => ∃ c2 c3 c4, r = [.dat (t.obj A), .dat t.tb.told, c2, c3, c4, .no, .no, .no, .no]) ⟨_, _, _, rfl⟩ (fun i d r hd hI => ?_) (fun r hI => ?_)
   ·obtain ⟨hi, ed⟩ := jag hd
    obtain ⟨c2, c3, c4, rfl⟩ := hI
    rw [show (0 : Int) + (i : Int) = ((i : Nat) : Int) by omega] at ed
    rw [ed, PL.xbv]
    refine ⟨by simp, ?_⟩
    clear hd ed
    have hpi := List.getElem?_eq_getElem hi
    generalize t.ps[i] = p at hpi
    have hpm := List.mem_of_getElem? hpi
    obtain ⟨a, ha⟩ := hq p hpm
    have hw : okPl p.1 := hT.pk p.1 (List.mem_map.mpr ⟨p, hpm, rfl⟩)
    have a1 : atI (t.ps.map fun p => p.2) ((i : Nat) : Int) = some (.lab a (p.1.obj A)) := by
     rw [zak (by omega), Int.toNat_natCast, List.getElem?_map, hpi, ← ha]; rfl
    have a2 : atI (t.ps.map fun p => p.1.told) ((i : Nat) : Int) = some p.1.told := by
     rw [zak (by omega), Int.toNat_natCast, List.getElem?_map, hpi]; rfl
    refine ke (Q1 := fun r => r = [.dat (t.obj A), .dat t.tb.told, .dat (zi (i : Nat)), c3, .dat (.lab a (p.1.obj A)), .no, .no, .no, .no]) ?_ fun r hr => ?_
    ·rw [eo]
     walk_at "w"
     rw [a1]
     walk_at "w"
     exact ⟨by decide, trivial, trivial⟩
    subst hr
    have ht2 : p.1.told = .tup [zs "place", zs p.1.name, p.1.k.told, zs p.1.o.s] := rfl
    have hob : p.1.obj A = zy A (zs p.1.name) (p.1.k.obj A) (zs p.1.o.s) := rfl
    have hnS : okS p.1.name := qf hw.1.2
    have hs5 : Sh 1 (.tup [zs p.1.name, zs p.1.o.s]) := Sh.tup (n := 0) (fun d m => by
     simp only [List.mem_cons, List.not_mem_nil, or_false] at m
     rcases m with rfl | rfl
     ·exact Sh.str hnS
     ·exact Sh.str (Of.okS _)) (by decide)
    refine ke (Q1 := fun r => r = [.dat (t.obj A), .dat t.tb.told, .dat (zi (i : Nat)), c3, .dat (.lab a (p.1.obj A)), .no, .no, .no, .no]) ?_ fun r hr => ?_
    ·rw [hob, et]
     walk_at "w"
     rw [a2, ht2]
     walk_at "w"
     refine ⟨za (n := 2) (by decide), ?_⟩
     rw [a2, ht2]
     walk_at "w"
     refine ⟨za (n := 2) (by decide), ?_⟩
     rw [PL.ne_self hs5]
     walk_at "w"
     refine told_k ?_
     walk_at "w"
     rw [a2, ht2]
     walk_at "w"
     rw [PL.ne_self (Kd.told_sh hw.2)]
     walk_at "w"
     exact ⟨trivial, trivial⟩
    subst hr
    rw [hob]
    walk_at "w"
    refine ⟨⟨by decide, trivial⟩, keyP _ _ _ _ rfl hnS (fun q hq e => ?_) (fun hm => absurd rfl (hm p hpm))⟩
    obtain rfl := nms_p hT hpm hq e
    rw [ha]
    walk_at "w"
    rw [← hob, ne_sameP]
    walk_at "w"
    refine ⟨⟨by decide, trivial⟩, keyW _ _ _ _ rfl hnS (fun q hq e => absurd e (nms_x hT hq hpm)) (fun _ => ?_)⟩
    walk_at "w"
    exact ⟨_, _, _, rfl⟩
   ·obtain ⟨c2, c3, c4, rfl⟩ := hI
    exact ⟨rfl, _, _, _, rfl⟩
  obtain ⟨c2, c3, c4, rfl⟩ := hr
  refine ke (Q1 := fun r => r = [.dat (t.obj A), .dat t.tb.told, c2, c3, c4, .dat (.lst ((t.ws.map fun p => p.1.name).map zs)), .no, .no, .no]) ?_ fun r hr => ?_
  ·rw [et]
   walk_at "w"
   rw [PL.vi t.ws (fun p => p.1.told) (fun p => zs p.1.name) (za (by omega)) fun w m => ?_]
   ·walk_at "w"
    exact ⟨by decide, trivial, by rw [List.map_map]; rfl⟩
   ·unfold Wx.told
    walk_at "w"
    exact ⟨by decide, by walk_at "fin", by walk_at "fin"⟩
  subst hr
  refine ke (Q1 := fun r => r = [.dat (t.obj A), .dat t.tb.told, c2, c3, c4, .dat (.lst ((t.ws.map fun p => p.1.name).map zs)), .dat (.lst ((t.ps.map fun p => p.1.name).map zs)), .no, .no]) ?_ fun r hr => ?_
  ·rw [et]
   walk_at "w"
   rw [PL.vi t.ps (fun p => p.1.told) (fun p => zs p.1.name) (za (by omega)) fun w m => ?_]
   ·walk_at "w"
    exact ⟨by decide, trivial, by rw [List.map_map, List.map_map]; rfl⟩
   ·unfold Pl.told
    walk_at "w"
    exact ⟨by decide, by walk_at "fin", by walk_at "fin"⟩
  subst hr
  refine ke (Q1 := fun r => ∃ c7, r = [.dat (t.obj A), .dat t.tb.told, c2, c3, c4, .dat (.lst ((t.ws.map fun p => p.1.name).map zs)), .dat (.lst ((t.ps.map fun p => p.1.name).map zs)), c7, .no]) ?_ fun r hr => ?_
  ·rw [PL.vax]
   walk_at "w"
   refine ⟨by rw [List.length_map, List.length_map, List.length_map, List.length_map]; exact za (by omega), ?_⟩
   rw [← List.map_append]
   refine xt (fun i r => ∃ c7, r = [.dat (t.obj A), .dat t.tb.told, c2, c3, c4, .dat (.lst ((t.ws.map fun p => p.1.name).map zs)), .dat (.lst ((t.ps.map fun p => p.1.name).map zs)), c7, .no]) ⟨_, rfl⟩ (fun i d r hd hI => ?_) (fun r hI => ?_)
   ·obtain ⟨c7, rfl⟩ := hI
    obtain ⟨z, hz, rfl⟩ := ybb hd
    have hzm := List.mem_of_getElem? hz
    have hza : z.length ≤ 8 ∧ wo lettersS z = true := by
     rcases List.mem_append.mp hzm with m | m
     ·obtain ⟨p, hp, rfl⟩ := List.mem_map.mp m
      exact ⟨(hT.wk p.1 (List.mem_map.mpr ⟨p, hp, rfl⟩)).n.1.2, (hT.wk p.1 (List.mem_map.mpr ⟨p, hp, rfl⟩)).n.2⟩
     ·obtain ⟨p, hp, rfl⟩ := List.mem_map.mp m
      exact ⟨(hT.pk p.1 (List.mem_map.mpr ⟨p, hp, rfl⟩)).1.1.2, (hT.pk p.1 (List.mem_map.mpr ⟨p, hp, rfl⟩)).1.2⟩
    have hzl := za (n := z.length) (by omega)
    have hy := qf (jbd (l := none) (h := some (-1)) hza.2)
    clear hd hz hzm
    rw [PL.xbv]
    refine ⟨by simp, ?_⟩
    refine ke (Q1 := fun r => r = [.dat (t.obj A), .dat t.tb.told, c2, c3, c4, .dat (.lst ((t.ws.map fun p => p.1.name).map zs)), .dat (.lst ((t.ps.map fun p => p.1.name).map zs)), .dat (zs z), .no]) ?_ fun r hr => ?_
    ·walk_at "w"
     refine ⟨hzl, ?_⟩
     generalize cutS z none (some (-1)) = y at hy ⊢
     rw [jbb]
     walk_at "w"
     by_cases c1 : y ∈ t.ws.map fun p => p.1.name
     ·rw [show inW y (t.ws.map fun p => p.1.name) = true from inW_iff.mpr c1]
      walk_at "w"
      first | exact ⟨trivial, trivial⟩ | exact ⟨hzl, trivial, trivial⟩
     ·rw [show inW y (t.ws.map fun p => p.1.name) = false from by rw [Bool.eq_false_iff]; exact fun z => c1 (inW_iff.mp z)]
      walk_at "w"
      refine ⟨hzl, ⟨by decide, trivial⟩, keyW _ _ _ _ rfl hy (fun q hq e => absurd (List.mem_map.mpr ⟨q, hq, e⟩) c1) (fun _ => ?_)⟩
      walk_at "w"
      exact ⟨trivial, trivial⟩
    subst hr
    walk_at "w"
    refine ⟨hzl, ?_⟩
    generalize cutS z none (some (-1)) = y at hy ⊢
    rw [jbb]
    walk_at "w"
    by_cases c1 : y ∈ t.ps.map fun p => p.1.name
    ·rw [show inW y (t.ps.map fun p => p.1.name) = true from inW_iff.mpr c1]
     walk_at "w"
     exact ⟨_, rfl⟩
    ·rw [show inW y (t.ps.map fun p => p.1.name) = false from by rw [Bool.eq_false_iff]; exact fun z => c1 (inW_iff.mp z)]
     walk_at "w"
     refine ⟨hzl, ⟨by decide, trivial⟩, keyP _ _ _ _ rfl hy (fun q hq e => absurd (List.mem_map.mpr ⟨q, hq, e⟩) c1) (fun _ => ?_)⟩
     walk_at "w"
     exact ⟨_, rfl⟩
   ·obtain ⟨c7, rfl⟩ := hI
    exact ⟨rfl, _, rfl⟩
  obtain ⟨c7, rfl⟩ := hr
  walk_at "w"
  refine ⟨⟨by decide, trivial⟩, keyW "nosuchname" _ _ _ rfl (by decide +kernel) (fun q hq e => ?_) (fun _ => ?_)⟩
  ·have h1 := ((hT.wk q.1 (List.mem_map.mpr ⟨q, hq, rfl⟩)).n).1.2
   rw [e] at h1
   exact absurd h1 (by decide +kernel)
  walk_at "w"
  refine ⟨⟨by decide, trivial⟩, keyP "" _ _ _ rfl (by decide +kernel) (fun q hq e => ?_) (fun _ => ?_)⟩
  ·have h1 := ((hT.pk q.1 (List.mem_map.mpr ⟨q, hq, rfl⟩)).1).1.1
   rw [e] at h1
   exact absurd h1 (by decide +kernel)
  walk_at "w"
  exact hQ ..
 ·walk_at "w"
  exact h
end
section
variable {A : Ads} {Q : Rv → En → Prop} {QF : Fl → En → Prop} {E : Exn → En → Prop}
theorem told0 {tb : Tb} (hT : TbOk tb) (h : Q (.dat tb.told) [.dat (tb.obj A)]) : wp (jh A) Q E [.dat (tb.obj A)] := by
 have := zbh (A := A) (Q := Q) (E := E) (t := tb.lt A) Tb.lt_ok (by rw [Tb.lt_tb]; exact hT) (by rw [Tb.lt_tb, Tb.lt_obj]; exact h)
 rw [Tb.lt_obj] at this
 exact this
theorem xav {ns : List Str} : vbv ns [] := ⟨by decide, (fun w m => nomatch m), List.nodup_nil, (fun w m => nomatch m)⟩
theorem tb0_ok : TbOk ⟨[], [], [], []⟩ := ⟨by decide, (fun w m => nomatch m), by decide, (fun w m => nomatch m), List.nodup_nil, fun i j w v z hi => by simp at hi, xav, xav⟩
def tbB (a b : Str) : Tb := ⟨[⟨a, none, none, false, false, false⟩, ⟨b, some "q", none, false, false, false⟩], [], [], []⟩
def tbP (a : Str) : Tb := ⟨[], [⟨a, .any, .any_⟩], [], []⟩
theorem tbB_ok {a b : Str} (ha : vj a) (hb : vj b) (hn : a ≠ b) : TbOk (tbB a b) := ⟨(by decide : 2 ≤ 5), fun w m => by
  simp only [tbB, List.mem_cons, List.not_mem_nil, or_false] at m
  rcases m with rfl | rfl
  ·exact ⟨ha, (fun z h => by cases h), (fun h => by cases h), (fun k h => by cases h)⟩
  ·exact ⟨hb, (fun z h => by cases h; exact ⟨by decide +kernel, by decide +kernel⟩), (fun h => by cases h), (fun k h => by cases h)⟩,
 (by decide : 0 ≤ 4), (fun p m => nomatch m), by
  show [a, b].Nodup
  simp [hn], fun i j w v z hi hj hw hv => by
  have key : ∀ (i : Nat) (w : Wx), (tbB a b).ws[i]? = some w → w.letter = some z → i = 1 := fun i w hi hw => by
   match i with
   | 0 => cases hi; cases hw
   | 1 => rfl
   | i + 2 => cases hi
  rw [key i w hi hw, key j v hj hv], xav, xav⟩
theorem tbP_ok {a : Str} (ha : vj a) : TbOk (tbP a) := ⟨(by decide : 0 ≤ 5), (fun p m => nomatch m), (by decide : 1 ≤ 4), fun p m => by
  rw [List.mem_singleton.mp m]
  exact ⟨ha, trivial⟩, by
  show [a].Nodup
  simp, (fun i j w v z hi => by simp [tbP] at hi), xav, xav⟩
theorem sif_or {c : PL.P Bool} {g h : PL.P Fl} {ρ : En} (P1 : En → Prop) (hc : wp c (fun _ r => P1 r) E ρ) (h1 : ∀ r, P1 r → wp g QF E r) (h2 : ∀ r, P1 r → wp h QF E r) : wp (sIf c g h) QF E ρ := by
 rw [PL.ybv]
 refine PL.wp_mono hc (fun b r p => ?_) fun _ _ e => e
 split
 ·exact h1 r p
 ·exact h2 r p
theorem law_true {ns : List Int} (hn : ns.length ≤ 63) : wp (F_law A) (fun r _ => r = rvB true) EF [.dat (.ro (ns.map fun i => D.s (.int i)))] := by
 unfold F_law b_law
 rw [PL.wp_run]
 refine zaa (fun r => ∃ c1 c2 c3 c4 c5 c6 c7 c8 c9, r = [.dat (.ro (ns.map zi)), c1, c2, c3, c4, c5, c6, c7, c8, c9]) ?_ fun r hr => ?_
 ·rw [PL.vax]
  walk_at "w"
  rw [List.length_map]
  refine ⟨?_, ?_⟩
  ·split <;> split <;> exact vq (by omega) (by omega)
  generalize (if (if (ns.length : Int) < 30 then (ns.length : Int) else 30) > 1 then (if (ns.length : Int) < 30 then (ns.length : Int) else 30) else 1).toNat = K
  refine xt (fun i r => ∃ c1 c2 c3 c4 c5 c6 c7 c8 c9, r = [.dat (.ro (ns.map zi)), c1, c2, c3, c4, c5, c6, c7, c8, c9]) ⟨_, _, _, _, _, _, _, _, _, rfl⟩ (fun i d r hd hI => ?_) (fun r hI => ?_)
  ·obtain ⟨hi, ed⟩ := jag hd
   obtain ⟨c1, c2, c3, c4, c5, c6, c7, c8, c9, rfl⟩ := hI
   have h0i : (0 : Int) + (i : Int) = ((i : Nat) : Int) := by omega
   rw [h0i] at ed
   rw [ed, PL.xbv]
   refine ⟨by simp, ?_⟩
   clear hd ed
   refine zaa (fun r => ∃ m, r = [.dat (.ro (ns.map zi)), .dat (zi (i : Nat)), dw m, c3, c4, c5, c6, c7, c8, c9]) ?_ fun r hr => ?_
   ·walk_at "w"
    refine ⟨⟨by decide, trivial⟩, cell_ok fun c => ?_⟩
    walk_at "w"
    exact ⟨za (by decide), by decide, ⟨c, 0⟩, rfl⟩
   obtain ⟨m, rfl⟩ := hr
   refine zaa (fun r => ∃ m tb, TbOk tb ∧ r = [.dat (.ro (ns.map zi)), .dat (zi (i : Nat)), dw m, .dat tb.told, c4, c5, c6, c7, c8, c9]) ?_ fun r hr => ?_
   ·walk_at "w"
    refine ⟨⟨by decide, trivial⟩, l_table_ok (W := 5) (P := 4) (by decide) (by decide) fun tb m hT => ?_⟩
    walk_at "w"
    exact ⟨by decide, m, tb, hT, rfl⟩
   obtain ⟨m, tb, hT, rfl⟩ := hr
   refine zaa (fun r => r = [.dat (.ro (ns.map zi)), .dat (zi (i : Nat)), dw m, .dat tb.told, .dat (tb.obj A), c5, c6, c7, c8, c9]) ?_ fun r hr => ?_
   ·walk_at "w"
    refine ⟨⟨by decide, trivial⟩, vb4 hT ?_⟩
    walk_at "w"
    first | exact ⟨by decide, rfl⟩ | exact ⟨by decide, trivial⟩
   subst hr
   refine zaa (fun r => r = [.dat (.ro (ns.map zi)), .dat (zi (i : Nat)), dw m, .dat tb.told, .dat (tb.obj A), c5, c6, c7, c8, c9]) ?_ fun r hr => ?_
   ·walk_at "w"
    refine ⟨⟨by decide, trivial⟩, right_ok hT ?_⟩
    walk_at "w"
    refine ⟨⟨by decide, trivial⟩, right_ok hT ?_⟩
    walk_at "w"
   subst hr
   generalize tb.told = d3
   generalize tb.obj A = d4
   clear hT
   refine sif_or (fun r => ∃ m, r = [.dat (.ro (ns.map zi)), .dat (zi (i : Nat)), dw m, .dat d3, .dat d4, c5, c6, c7, c8, c9]) ?_ (fun r hr => ?_) (fun r hr => ?_)
   ·walk_at "w"
    refine ⟨⟨by decide, trivial⟩, vm (by decide) fun r m x0 x1 => ?_⟩
    walk_at "w"
    exact ⟨m, rfl⟩
   ·obtain ⟨m, rfl⟩ := hr
    refine zaa (fun r => ∃ m a b c, vj a ∧ vj b ∧ vj c ∧ a ≠ b ∧ r = [.dat (.ro (ns.map zi)), .dat (zi (i : Nat)), dw m, .dat d3, .dat d4, .dat (.lst [zs a, zs b, zs c]), c6, c7, c8, c9]) ?_ fun r hr => ?_
    ·walk_at "w"
     refine ⟨⟨by decide, trivial⟩, names_ok (k := 3) (by decide) fun nm m hl hok hnd => ?_⟩
     obtain ⟨a, b, c, rfl⟩ : ∃ a b c, nm = [a, b, c] := by
      match nm, hl with
      | [a, b, c], _ => exact ⟨a, b, c, rfl⟩
     walk_at "w"
     refine ⟨by decide, m, a, b, c, hok a (by simp), hok b (by simp), hok c (by simp), fun e => ?_, rfl⟩
     subst e
     simp at hnd
    obtain ⟨m, a, b, c, ha, hb, hc, hab, rfl⟩ := hr
    have hB := tbB_ok ha hb hab
    have hP := tbP_ok hc
    have keyI : ∀ (tb : Tb) (hT : TbOk tb) (Q : Rv → En → Prop) (E : Exn → En → Prop) (ρ : En), ρ = [.own (.ob A.c_Table []), .dat (wxD A tb.ws), .dat (plD A tb.ps), .dat (.tup (tb.bs.map prD)), .dat (.tup (tb.ds.map prD))] → (∀ r, Q (.dat (.s .non)) (.own (.ob A.c_Table [("wishes", wxD A tb.ws), ("places", plD A tb.ps), ("bars", .tup (tb.bs.map prD)), ("needs", .tup (tb.ds.map prD))]) :: r)) → wp (xh A) Q E ρ := fun tb hT Q E ρ e h => by
     rw [e]; exact tabX_ok hT h
    have keyT : ∀ (tb : Tb) (hT : TbOk tb) (Q : Rv → En → Prop) (E : Exn → En → Prop) (ρ : En), ρ = [.dat (tb.obj A)] → Q (.dat tb.told) [.dat (tb.obj A)] → wp (jh A) Q E ρ := fun tb hT Q E ρ e h => by
     rw [e]; exact told0 hT h
    refine zaa (fun r => r = [.dat (.ro (ns.map zi)), .dat (zi (i : Nat)), dw m, .dat d3, .dat d4, .dat (.lst [zs a, zs b, zs c]), .dat ((tbB a b).obj A), c7, c8, c9]) ?_ fun r hr => ?_
    ·walk_at "w"
     unfold wh x7
     walk_at "w"
     refine ⟨trivial, ⟨trivial, by decide⟩, ⟨trivial, by decide⟩, ⟨trivial, by decide⟩, ⟨trivial, by decide⟩, ⟨trivial, by decide⟩, ⟨trivial, by decide⟩, by decide, trivial, ⟨trivial, by decide⟩, ⟨trivial, by decide⟩, ⟨trivial, by decide⟩, ⟨trivial, by decide⟩, ⟨trivial, by decide⟩, ⟨trivial, by decide⟩, by decide, za (n := 2) (by decide), Nat.zero_le _, Nat.zero_le _, Nat.zero_le _, trivial, keyI (tbB a b) hB _ _ _ rfl (fun r => ?_)⟩
     walk_at "w"
     exact ⟨by decide, rfl⟩
    subst hr
    refine zaa (fun r => r = [.dat (.ro (ns.map zi)), .dat (zi (i : Nat)), dw m, .dat d3, .dat d4, .dat (.lst [zs a, zs b, zs c]), .dat ((tbB a b).obj A), .dat (Wx.told ⟨a, none, none, false, false, false⟩), c8, c9]) ?_ fun r hr => ?_
    ·walk_at "w"
     exact ⟨za (n := 7) (by decide), by decide, rfl⟩
    subst hr
    refine zaa (fun r => r = [.dat (.ro (ns.map zi)), .dat (zi (i : Nat)), dw m, .dat d3, .dat d4, .dat (.lst [zs a, zs b, zs c]), .dat ((tbB a b).obj A), .dat (Wx.told ⟨a, none, none, false, false, false⟩), .dat (Wx.told ⟨b, some "q", none, false, false, false⟩), c9]) ?_ fun r hr => ?_
    ·walk_at "w"
     exact ⟨za (n := 7) (by decide), by decide, rfl⟩
    subst hr
    refine zaa (fun r => r = [.dat (.ro (ns.map zi)), .dat (zi (i : Nat)), dw m, .dat d3, .dat d4, .dat (.lst [zs a, zs b, zs c]), .dat ((tbB a b).obj A), .dat (Wx.told ⟨a, none, none, false, false, false⟩), .dat (Wx.told ⟨b, some "q", none, false, false, false⟩), c9]) ?_ fun r hr => ?_
    ·have eB : (tbB a b).obj A = qg A (wxD A (tbB a b).ws) (.tup []) (.tup []) (.tup []) := rfl
     rw [eB]
     walk_at "w"
     refine ⟨⟨by decide, trivial⟩, keyT (tbB a b) hB _ _ _ rfl ?_⟩
     walk_at "w"
     refine ⟨za (n := 2) (by decide), Nat.zero_le _, Nat.zero_le _, Nat.zero_le _, za (n := 4) (by decide), ?_⟩
     rw [show (D.tup [D.tup [Wx.told ⟨a, none, none, false, false, false⟩, Wx.told ⟨b, some "q", none, false, false, false⟩], D.tup [], D.tup [], D.tup []]) = (tbB a b).told from rfl, PL.ne_self (Tb.told_sh hB)]
     walk_at "w"
     refine ⟨Nat.zero_le _, Nat.zero_le _, Nat.zero_le _, Nat.zero_le _, trivial, keyI ⟨[], [], [], []⟩ tb0_ok _ _ _ rfl (fun r => ?_)⟩
     walk_at "w"
     refine ⟨⟨by decide, trivial⟩, keyT ⟨[], [], [], []⟩ tb0_ok _ _ _ rfl ?_⟩
     walk_at "w"
     refine ⟨Nat.zero_le _, Nat.zero_le _, Nat.zero_le _, Nat.zero_le _, za (n := 4) (by decide), ?_⟩
     rw [show (D.tup [D.tup [], D.tup [], D.tup [], D.tup []]) = (⟨[], [], [], []⟩ : Tb).told from rfl, PL.ne_self (Tb.told_sh tb0_ok)]
     walk_at "w"
    subst hr
    refine zaa (fun r => r = [.dat (.ro (ns.map zi)), .dat (zi (i : Nat)), dw m, .dat d3, .dat d4, .dat (.lst [zs a, zs b, zs c]), .dat ((tbB a b).obj A), .dat (Wx.told ⟨a, none, none, false, false, false⟩), .dat (Wx.told ⟨b, some "q", none, false, false, false⟩), .dat ((tbP c).obj A)]) ?_ fun r hr => ?_
    ·walk_at "w"
     unfold xq jae
     walk_at "w"
     refine ⟨Nat.zero_le _, trivial, ⟨trivial, by decide⟩, ⟨trivial, by decide⟩, ⟨trivial, by decide⟩, by decide, za (n := 1) (by decide), Nat.zero_le _, Nat.zero_le _, trivial, keyI (tbP c) hP _ _ _ rfl (fun r => ?_)⟩
     walk_at "w"
     exact ⟨by decide, rfl⟩
    subst hr
    have eP : (tbP c).obj A = qg A (.tup []) (plD A (tbP c).ps) (.tup []) (.tup []) := rfl
    rw [eP]
    walk_at "w"
    refine ⟨⟨by decide, trivial⟩, keyT (tbP c) hP _ _ _ rfl ?_⟩
    walk_at "w"
    refine ⟨Nat.zero_le _, za (n := 1) (by decide), za (n := 4) (by decide), za (n := 1) (by decide), Nat.zero_le _, Nat.zero_le _, za (n := 4) (by decide), ?_⟩
    rw [show ∀ y : D, neD (tbP c).told y = neD (tbP c).told y from fun _ => rfl]
    rw [show (D.tup [D.tup [], D.tup [D.tup [zs "place", zs c, D.tup [zs "any"], zs "any"]], D.tup [], D.tup []]) = (tbP c).told from rfl, PL.ne_self (Tb.told_sh hP)]
    walk_at "w"
    exact ⟨_, _, _, _, _, _, _, _, _, rfl⟩
   ·obtain ⟨m, rfl⟩ := hr
    walk_at "w"
    exact ⟨_, _, _, _, _, _, _, _, _, rfl⟩
  ·exact hI
 ·obtain ⟨c1, c2, c3, c4, c5, c6, c7, c8, c9, rfl⟩ := hr
  walk_at "w"
end
end LW
theorem PySem.Challenge.cw_wishwords_k07_tables_told_holds : PySem.Challenge.rw_wishwords_k07_tables_told.Holds :=
 fin_ LW.law_true
