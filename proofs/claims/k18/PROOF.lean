import PyProof.Rows.All
import Wide.All
import OpenK.AllK
import Wide.FinOn
import HandS.Base
import HandS.Call
import HandS.List
import HandS.Comp
import HandS.Exc
import HandS.EndTab
import HandS.ExcIs
import KE.KDictKeyed
import HandS.TupAny
import HandS.TupMul
import HandS.IsInst
import HandS.StrMore
import HandS.Wide
import HandS.Style
import HandS.Text
import HandS.Iter
import HandS.Deep
import HandS.Ends
import HandS.Words
import HandS.ExcOwn
import PyProof.StrBlock2
import KE.SortData
import KE.KExcIs
import HandS.Zip
import HandS.WordsExc
import HandS.SortInts
import HandS.New0
import HandS.Nested
import KE.GoesMore
import HandS.SetFor
import HandS.Strs
import PyProof.SetRoads
import KE.IntTextLaws
import HandS.Dict
import HandS.Defaults
import HandS.TupSets
import KE.KeyNested
import HandS.Conv
import HandS.ExcInit
import HandS.ExcField
import KE.KIndexOf
import HandS.TryOnly
import HandS.RaiseMore
import KE.OsRunLaw
import HandS.TryMany
import HandS.Flow
import KE.KDictSum
import KE.KDictDisplayH
import KE.KDictPairs
import KE.KDictCopyH
import HandS.SortKw
import KE.SortKeyHeap
import PyProof.NeKinds
import PyProof.AutoSeq1
import KE.DataCmp
import KE.KTryMore
import PySem.Challenge.RW_wishwords_k18_laid_by_number
set_option Elab.async false
set_option linter.all false
set_option maxRecDepth 100000
set_option maxHeartbeats 4000000
theorem pTW : PySem.Challenge.rw_wishwords_k18_laid_by_number.row.prog.tablesWhole = true := by decide +kernel
namespace HX
open PySem PySem.W PySem.Calls PyProof.Rows
def kT (K : Params → Frag) (ts : List Addr) : Params → Frag := fun P => K P ++ ts.map fun p => (p, tabObj #[])
theorem in_of {K : Params → Frag} {ts as : List Addr} {e : ∀ P, as = (kT K ts P).map (·.1)} {w : World} {h : Heap} (Y : (kHook (kT K ts) as e).says w h) : (K w.params).In h := fun a o q => Y a o (by
  show List.lookup a (K w.params ++ _) = some o
  rw [List.lookup_append, q]; rfl)
def pick (l : List Stmt) (ks : List Nat) : List Stmt := ks.filterMap fun k => l[k]?
theorem cut3 {σ β γ : Type} {o : Option σ} {f : σ → Bool} {g : σ → β} {k : σ → γ} {b : Bool} {c : β} {d : γ} (h1 : o.map f = some b) (h2 : o.map g = some c) (h3 : o.map k = some d) : o.map (fun s => (f s, g s, k s)) = some (b, c, d) := by
  cases o with
  | none => cases h1
  | some s => cases h1; cases h2; cases h3; rfl
theorem tab_of {K : Params → Frag} {P : Addr} {as : List Addr} {e : ∀ P', as = (kT K [P] P').map (·.1)} {w : World} {h : Heap} (Y : (kHook (kT K [P]) as e).says w h) (n : (K w.params).lookup P = none) : h.get? P = some { cls := .none, data := .fields #[] } := Y P _ (by
  show List.lookup P (K w.params ++ _) = some _
  rw [List.lookup_append, n]
  show List.lookup P [(P, tabObj #[])] = some _
  rw [List.lookup_cons, beq_self_eq_true])
end HX
namespace HD
open PySem PySem.W PySem.Calls PyProof.Rows
set_option maxHeartbeats 0
abbrev prog : Program := PySem.Challenge.rw_wishwords_k18_laid_by_number.row.prog
noncomputable def view : Program := { prog with main := { prog.main with body := HX.pick prog.main.body [39] } }
def loose : List PySem.Str := [PySem.Str.ofString "may_again", PySem.Str.ofString "may_lack", PySem.Str.ofString "places_for", PySem.Str.ofString "may_close", PySem.Str.ofString "last_of", PySem.Str.ofString "lays", PySem.Str.ofString "lays_many", PySem.Str.ofString "WordError", PySem.Str.ofString "NoTable", PySem.Str.ofString "NoName", PySem.Str.ofString "LETTERS", PySem.Str.ofString "are_letters", PySem.Str.ofString "Kind", PySem.Str.ofString "AnyWord", PySem.Str.ofString "OFTENS", PySem.Str.ofString "MOST_WISHES", PySem.Str.ofString "MOST_OTHERS", PySem.Str.ofString "told_kind", PySem.Str.ofString "Wish", PySem.Str.ofString "Place", PySem.Str.ofString "is_named", PySem.Str.ofString "is_wish", PySem.Str.ofString "is_place", PySem.Str.ofString "is_pair", PySem.Str.ofString "need_part", PySem.Str.ofString "Table", PySem.Str.ofString "_law_mixed", PySem.Str.ofString "_law_cell_at", PySem.Str.ofString "_law_next", PySem.Str.ofString "_law_titles", PySem.Str.ofString "_law_pool", PySem.Str.ofString "_law_chosen", PySem.Str.ofString "_law_due"]
def asL : List Addr := [2, 3, 15, 17, 18, 20, 21, 22, 24, 25, 27, 28, 29, 31, 32, 34, 35, 36, 39, 40, 41, 43, 44, 46, 47, 48, 51, 52, 53, 56, 57, 58, 65, 66, 67, 68, 71, 78, 80, 81, 83, 84, 85, 86, 87, 90, 97, 98, 99, 102, 104, 105, 107, 108, 116, 118, 119, 121, 122, 123, 125, 126, 128, 129, 130, 131, 132, 133, 134, 137, 144, 146, 147, 149, 150, 151, 153, 154, 156, 157, 158, 159, 160, 163, 164, 166, 167, 169, 170, 178, 179, 181, 182, 184, 185, 186, 188, 189, 191, 192, 193, 194, 195, 196, 197, 207, 209, 210, 212, 213, 214, 216, 217, 219, 220, 221, 222, 223, 224, 225, 228, 230, 231, 233, 234, 235, 238, 239, 240, 242, 243, 245, 246, 247, 249, 250, 252, 253, 254, 256, 257, 259, 260, 268, 271, 272, 273, 275, 276, 278, 279, 280, 282, 283, 285, 286, 287, 290, 291, 292, 293, 294, 295, 296, 299, 301, 302, 304, 305, 306, 308, 309, 311, 312, 313, 315, 316, 318, 319, 320, 323, 324, 325, 327, 328, 330, 331, 332, 335, 336, 337, 339, 340, 342, 343, 344, 347, 348, 269]
section
local macro_rules | `(tactic| o_head ($f $k $a $e $t)) => `(tactic| exact (‹∀ p : Prop, p› _))
local macro_rules | `(tactic| o_head ($f $k $a $e)) => `(tactic| exact (‹∀ p : Prop, p› _))
theorem h0 (h : ∀ p : Prop, p) : PySem.Challenge.rw_wishwords_k18_laid_by_number.Holds := by
  w_on
  refine holds_law (h _) fun said => ?_
  k_head
end
noncomputable def run (w : World) (os : OsState) : Option SharedT := HeadRun.endF (HeadRun.stepQ (HeadRun.denQ HeadRun.tabQ) prog w) 5620 prog w os
theorem look1 (w : World) (os : OsState) : (run w os).map (fun s => HeadRun.looksF prog (boot_heap w.params) s.abs) = some true := by kernel_rfl
noncomputable def seen (w : World) (s : SharedT) := HeadRun.seenQ view loose (importedModules prog.main.body) (fun s => xlAt view [] s && recOk PySem.Challenge.rw_wishwords_k18_laid_by_number.row.records s) s.abs
theorem look2 (w : World) (os : OsState) : (run w os).map (fun s => seen w s) = some (openGood view loose) := by kernel_rfl
theorem look3 (w : World) (os : OsState) : (run w os).map (fun s => asL.map (HeadRun.getT s)) = some ((HX.kT h0.heap_1 [269] w.params).map fun x => some x.2) := by kernel_rfl
theorem asE : ∀ P, asL = (HX.kT h0.heap_1 [269] P).map (·.1) := fun _ => by kernel_rfl
theorem left : LeftO prog view loose (fun s => xlAt view [] s && recOk PySem.Challenge.rw_wishwords_k18_laid_by_number.row.records s) (Hook.obs (kHook (HX.kT h0.heap_1 [269]) asL asE)) (Hook.val (kHook (HX.kT h0.heap_1 [269]) asL asE)) 6320 true :=
  HeadRun.left_oneK (M := 5620) (by kernel_rfl) (by rfl) (fun s => by kernel_rfl) (by rfl) fun w os => HX.cut3 (look1 w os) (look2 w os) (look3 w os)
end HD
namespace PL
open PySem L2
abbrev lamQ : Str := "Table.__init__.<locals>.<lambda>"
abbrev Sl := List (Option V)
inductive D where
 | s (x : V)
 | tup (ds : List D)
 | lst (ds : List D)
 | obj (c : Addr) (fs : List (Str × D))
 | ro (ds : List D)
 | lam (f : Addr) (φ : Heap → Prop) (zs : List V) (ks : List D)
 | dic (kvs : List (Key × D))
 | exc (c : Addr) (b : Bool) (fs : List (Str × D))
def ExO (a c : Addr) (d : Option Addr) : Heap → Prop := fun h => ∃ o vs, h.get? a = some o ∧ Zc (.ref c) d o ∧ o.data = .fields vs
mutual
def Is (K : PySem.W.Frag) (C : Hp) : D → V → Prop
 | .s x, v => v = x
 | .tup ds, v => ∃ a xs, v = .ref a ∧ SqT K C a xs ∧ Iss K C ds xs
 | .lst ds, v => ∃ a xs, v = .ref a ∧ C a = some (.lst xs) ∧ Iss K C ds xs
 | .obj c fs, v => ∃ a dx gs, v = .ref a ∧ C a = some (.ins c dx gs) ∧ Isf K C fs gs
 | .ro ds, v => ∃ a xs, v = .ref a ∧ SqL K C a xs ∧ Iss K C ds xs
 | .lam f φ zs ks, v => v = .ref f ∧ C f = some (.ext φ) ∧ Iss K C ks zs
 | .dic kvs, v => ∃ a o xs, v = .ref a ∧ C a = some (.frz o (.dK xs)) ∧ Isk K C kvs xs
 | .exc c b fs, v => ExcC K c ∧ ∃ a d gs, v = .ref a ∧ C a = some (.ext (ExO a c d)) ∧ ((b = false ∧ d = none) ∨ ∃ p, b = true ∧ d = some p ∧ C p = some (.xd gs)) ∧ Isf K C fs gs
def Iss (K : PySem.W.Frag) (C : Hp) : List D → List V → Prop
 | [], xs => xs = []
 | d :: ds, xs => ∃ x r, xs = x :: r ∧ Is K C d x ∧ Iss K C ds r
def Isf (K : PySem.W.Frag) (C : Hp) : List (Str × D) → List (Str × V) → Prop
 | [], xs => xs = []
 | (n, d) :: ds, xs => ∃ x r, xs = (n, x) :: r ∧ Is K C d x ∧ Isf K C ds r
def Isk (K : PySem.W.Frag) (C : Hp) : List (Key × D) → List (Key × V) → Prop
 | [], xs => xs = []
 | (n, d) :: ds, xs => ∃ x r, xs = (n, x) :: r ∧ Is K C d x ∧ Isk K C ds r
end
def NT (o : HO) : Prop := ∀ ps, o ≠ .tbl ps
theorem zk {xs : List V} : NT (.lst xs) := fun _ z => by cases z
theorem nt_tup {xs : List V} : NT (.tup xs) := fun _ z => by cases z
theorem nt_ins {c d : Addr} {fs : List (Str × V)} : NT (.ins c d fs) := fun _ z => by cases z
theorem yay {o : Obj} {u : HO} : NT (.frz o u) := fun _ z => by cases z
theorem nt_xd {fs : List (Str × V)} : NT (.xd fs) := fun _ z => by cases z
theorem nt_dK {fs : List (Key × V)} : NT (.dK fs) := fun _ z => by cases z
def Ex (H H' : Hp) : Prop := (∀ a o, H a = some o → NT o → H' a = some o) ∧ ∀ a, H' a = none → H a = none
def TabP (K : PySem.W.Frag) (P : Addr) : Prop := ∃ (C f : Addr) (o : Obj) (fd : FuncData) (c : Addr), PySem.W.nsIn K mainGlobals "Table" = some (some (.ref C)) ∧ PySem.W.findIn K (.ref C) "__init__" = some (some (.ref f)) ∧ K.lookup f = some o ∧ o.data = .func fd ∧ fd.code = .ref c ∧ PySem.W.codeHdIn K c P = true
abbrev TS1 (H : Hp) (P : Addr) : Prop := LamX.TabS H P lamQ
def NotCode (φ : Heap → Prop) : Prop := ∀ c q, HO.ext φ ≠ LamX.CodeO c q
def NX (o : HO) : Prop := NT o ∧ ∀ φ, o = .ext φ → NotCode φ
theorem xu {H : Hp} {P a : Addr} {o : HO} (h : TS1 H P) (ha : ∀ u, H a = some u → NX u) : TS1 (upd H a o) P := by
 obtain ⟨ps, h1, h2, h3⟩ := h
 refine ⟨ps, ?_, h2, fun pos cv hc => ?_⟩
 ·rw [upd_ne (fun z => by rw [z] at h1; exact (ha _ h1).1 ps rfl)]; exact h1
 ·obtain ⟨c, e1, e2⟩ := h3 pos cv hc
  refine ⟨c, e1, ?_⟩
  rw [upd_ne (fun z => by rw [z] at e2; exact (ha _ e2).2 _ rfl a lamQ rfl)]; exact e2
theorem xaf {H : Hp} {P a : Addr} {o : HO} (h : TS1 H P) (ha : H a = none) : TS1 (upd H a o) P := xu h fun u z => by rw [ha] at z; cases z
theorem Ex.refl (H : Hp) : Ex H H := ⟨fun _ _ h _ => h, fun _ h => h⟩
theorem Ex.trans {H H1 H2 : Hp} (a : Ex H H1) (b : Ex H1 H2) : Ex H H2 := ⟨fun x o h n => b.1 x o (a.1 x o h n) n, fun x h => a.2 x (b.2 x h)⟩
theorem Ex.new {H : Hp} {p : Addr} {o : HO} (h : H p = none) : Ex H (upd H p o) := ⟨fun a u e _ => by
 rw [upd_ne (ne_of_none e h)]
 exact e, fun a e => by
 by_cases q : a = p
 ·rw [q, upd_same] at e; cases e
 ·rw [upd_ne q] at e; exact e⟩
theorem Ex.none {H H' : Hp} {p : Addr} (e : Ex H H') (h : H' p = none) : H p = none := e.2 p h
theorem ex_rd {H H' : Hp} {a : Addr} {u : HO} (e : Ex H H') (n : NT u) (h : Rd H a u) : Rd H' a u := by
 rcases h with h | ⟨o, h⟩
 ·exact Or.inl (e.1 a _ h n)
 ·exact Or.inr ⟨o, e.1 a _ h yay⟩
theorem ex_l {K : PySem.W.Frag} {H H' : Hp} {a : Addr} {xs : List V} (e : Ex H H') (h : SqL K H a xs) : SqL K H' a xs := by
 rcases h with h | h
 ·exact Or.inl (ex_rd e zk h)
 ·exact Or.inr h
theorem ex_t {K : PySem.W.Frag} {H H' : Hp} {a : Addr} {xs : List V} (e : Ex H H') (h : SqT K H a xs) : SqT K H' a xs := by
 rcases h with h | h
 ·exact Or.inl (ex_rd e nt_tup h)
 ·exact Or.inr h
mutual
theorem Is.mono {K : PySem.W.Frag} {C C' : Hp} (e : Ex C C') : ∀ (d : D) (v : V), Is K C d v → Is K C' d v
 | .s x, v, h => by unfold Is at h ⊢; exact h
 | .tup ds, v, h => by
  unfold Is at h ⊢
  obtain ⟨a, xs, h1, h2, h3⟩ := h
  exact ⟨a, xs, h1, ex_t e h2, Iss.mono e ds xs h3⟩
 | .lst ds, v, h => by
  unfold Is at h ⊢
  obtain ⟨a, xs, h1, h2, h3⟩ := h
  exact ⟨a, xs, h1, e.1 _ _ h2 zk, Iss.mono e ds xs h3⟩
 | .obj c fs, v, h => by
  unfold Is at h ⊢
  obtain ⟨a, dx, gs, h1, h2, h3⟩ := h
  exact ⟨a, dx, gs, h1, e.1 _ _ h2 nt_ins, Isf.mono e fs gs h3⟩
 | .ro ds, v, h => by
  unfold Is at h ⊢
  obtain ⟨a, xs, h1, h2, h3⟩ := h
  exact ⟨a, xs, h1, ex_l e h2, Iss.mono e ds xs h3⟩
 | .lam f c zs ks, v, h => by
  unfold Is at h ⊢
  exact ⟨h.1, e.1 _ _ h.2.1 (fun ps z => by cases z), Iss.mono e ks zs h.2.2⟩
 | .dic kvs, v, h => by
  unfold Is at h ⊢
  obtain ⟨a, o, xs, h1, h2, h3⟩ := h
  exact ⟨a, o, xs, h1, e.1 _ _ h2 (fun ps z => by cases z), Isk.mono e kvs xs h3⟩
 | .exc c b fs, v, h => by
  unfold Is at h ⊢
  obtain ⟨h0, a, d, gs, h1, h2, h3, h4⟩ := h
  refine ⟨h0, a, d, gs, h1, e.1 _ _ h2 (fun ps z => by cases z), ?_, Isf.mono e fs gs h4⟩
  rcases h3 with h3 | ⟨p, q1, q2, q3⟩
  ·exact .inl h3
  ·exact .inr ⟨p, q1, q2, e.1 _ _ q3 (fun ps z => by cases z)⟩
theorem Iss.mono {K : PySem.W.Frag} {C C' : Hp} (e : Ex C C') : ∀ (ds : List D) (vs : List V), Iss K C ds vs → Iss K C' ds vs
 | [], vs, h => by unfold Iss at h ⊢; exact h
 | d :: ds, vs, h => by
  unfold Iss at h ⊢
  obtain ⟨x, r, h1, h2, h3⟩ := h
  exact ⟨x, r, h1, Is.mono e d x h2, Iss.mono e ds r h3⟩
theorem Isf.mono {K : PySem.W.Frag} {C C' : Hp} (e : Ex C C') : ∀ (ds : List (Str × D)) (vs : List (Str × V)), Isf K C ds vs → Isf K C' ds vs
 | [], vs, h => by unfold Isf at h ⊢; exact h
 | (n, d) :: ds, vs, h => by
  unfold Isf at h ⊢
  obtain ⟨x, r, h1, h2, h3⟩ := h
  exact ⟨x, r, h1, Is.mono e d x h2, Isf.mono e ds r h3⟩
theorem Isk.mono {K : PySem.W.Frag} {C C' : Hp} (e : Ex C C') : ∀ (ds : List (Key × D)) (vs : List (Key × V)), Isk K C ds vs → Isk K C' ds vs
 | [], vs, h => by unfold Isk at h ⊢; exact h
 | (n, d) :: ds, vs, h => by
  unfold Isk at h ⊢
  obtain ⟨x, r, h1, h2, h3⟩ := h
  exact ⟨x, r, h1, Is.mono e d x h2, Isk.mono e ds r h3⟩
end
section
variable {K : PySem.W.Frag} {C C' H H' : Hp}
theorem is_s {x : V} : Is K C (.s x) x := by unfold Is; rfl
theorem is_s_iff {x v : V} : Is K C (.s x) v ↔ v = x := by unfold Is; rfl
theorem kc : Iss K C [] [] := by unfold Iss; rfl
theorem yb {d : D} {ds : List D} {x : V} {xs : List V} (h : Is K C d x) (hs : Iss K C ds xs) : Iss K C (d :: ds) (x :: xs) := by unfold Iss; exact ⟨x, xs, rfl, h, hs⟩
theorem iss_nil_iff {xs : List V} : Iss K C [] xs ↔ xs = [] := by unfold Iss; rfl
theorem iss_cons_iff {d : D} {ds : List D} {xs : List V} : Iss K C (d :: ds) xs ↔ ∃ x r, xs = x :: r ∧ Is K C d x ∧ Iss K C ds r := by
 constructor
 ·intro h; unfold Iss at h; exact h
 ·intro h; unfold Iss; exact h
theorem xaz {ds : List D} {xs : List V} {a : Addr} (h : SqT K C a xs) (hs : Iss K C ds xs) : Is K C (.tup ds) (.ref a) := by unfold Is; exact ⟨a, xs, rfl, h, hs⟩
theorem is_lst {ds : List D} {xs : List V} {a : Addr} (h : C a = some (.lst xs)) (hs : Iss K C ds xs) : Is K C (.lst ds) (.ref a) := by unfold Is; exact ⟨a, xs, rfl, h, hs⟩
theorem is_tup_iff {ds : List D} {v : V} : Is K C (.tup ds) v ↔ ∃ a xs, v = .ref a ∧ SqT K C a xs ∧ Iss K C ds xs := by
 constructor
 ·intro h; unfold Is at h; exact h
 ·intro h; unfold Is; exact h
theorem is_lst_iff {ds : List D} {v : V} : Is K C (.lst ds) v ↔ ∃ a xs, v = .ref a ∧ C a = some (.lst xs) ∧ Iss K C ds xs := by
 constructor
 ·intro h; unfold Is at h; exact h
 ·intro h; unfold Is; exact h
theorem is_obj_iff {c : Addr} {fs : List (Str × D)} {v : V} : Is K C (.obj c fs) v ↔ ∃ a dx gs, v = .ref a ∧ C a = some (.ins c dx gs) ∧ Isf K C fs gs := by
 constructor
 ·intro h; unfold Is at h; exact h
 ·intro h; unfold Is; exact h
theorem is_ro_iff {ds : List D} {v : V} : Is K C (.ro ds) v ↔ ∃ a xs, v = .ref a ∧ SqL K C a xs ∧ Iss K C ds xs := by
 constructor
 ·intro h; unfold Is at h; exact h
 ·intro h; unfold Is; exact h
theorem is_lam_iff {f : Addr} {c : Heap → Prop} {zs : List V} {ks : List D} {v : V} : Is K C (.lam f c zs ks) v ↔ v = .ref f ∧ C f = some (.ext c) ∧ Iss K C ks zs := by
 constructor
 ·intro h; unfold Is at h; exact h
 ·intro h; unfold Is; exact h
theorem is_dic_iff {kvs : List (Key × D)} {v : V} : Is K C (.dic kvs) v ↔ ∃ a o xs, v = .ref a ∧ C a = some (.frz o (.dK xs)) ∧ Isk K C kvs xs := by
 constructor
 ·intro h; unfold Is at h; exact h
 ·intro h; unfold Is; exact h
theorem is_exc_iff {c : Addr} {b : Bool} {fs : List (Str × D)} {v : V} : Is K C (.exc c b fs) v ↔ ExcC K c ∧ ∃ a d gs, v = .ref a ∧ C a = some (.ext (ExO a c d)) ∧ ((b = false ∧ d = none) ∨ ∃ p, b = true ∧ d = some p ∧ C p = some (.xd gs)) ∧ Isf K C fs gs := by
 constructor
 ·intro h; unfold Is at h; exact h
 ·intro h; unfold Is; exact h
theorem kbn : Isf K C [] [] := by unfold Isf; rfl
theorem yba {n : Str} {d : D} {ds : List (Str × D)} {x : V} {xs : List (Str × V)} (h : Is K C d x) (hs : Isf K C ds xs) : Isf K C ((n, d) :: ds) ((n, x) :: xs) := by unfold Isf; exact ⟨x, xs, rfl, h, hs⟩
theorem isf_nil_iff {xs : List (Str × V)} : Isf K C [] xs ↔ xs = [] := by unfold Isf; rfl
theorem isf_cons_iff {n : Str} {d : D} {ds : List (Str × D)} {xs : List (Str × V)} : Isf K C ((n, d) :: ds) xs ↔ ∃ x r, xs = (n, x) :: r ∧ Is K C d x ∧ Isf K C ds r := by
 constructor
 ·intro h; unfold Isf at h; exact h
 ·intro h; unfold Isf; exact h
theorem Iss.length : ∀ {ds : List D} {xs : List V}, Iss K C ds xs → xs.length = ds.length
 | [], xs, h => by rw [iss_nil_iff.mp h]; rfl
 | d :: ds, xs, h => by
  obtain ⟨x, r, rfl, _, h3⟩ := iss_cons_iff.mp h
  rw [List.length_cons, List.length_cons, Iss.length h3]
theorem Iss.get : ∀ {ds : List D} {xs : List V} {i : Nat} {d : D}, Iss K C ds xs → ds[i]? = some d → ∃ x, xs[i]? = some x ∧ Is K C d x
 | [], xs, i, d, h, e => by simp at e
 | d0 :: ds, xs, 0, d, h, e => by
  obtain ⟨x, r, rfl, h2, _⟩ := iss_cons_iff.mp h
  simp at e; subst e
  exact ⟨x, rfl, h2⟩
 | d0 :: ds, xs, i + 1, d, h, e => by
  obtain ⟨x, r, rfl, _, h3⟩ := iss_cons_iff.mp h
  obtain ⟨y, h4, h5⟩ := Iss.get (i := i) (d := d) h3 (by simpa using e)
  exact ⟨y, by simpa using h4, h5⟩
theorem Iss.app : ∀ {ds es : List D} {xs ys : List V}, Iss K C ds xs → Iss K C es ys → Iss K C (ds ++ es) (xs ++ ys)
 | [], es, xs, ys, h, k => by rw [iss_nil_iff.mp h]; exact k
 | d :: ds, es, xs, ys, h, k => by
  obtain ⟨x, r, rfl, h2, h3⟩ := iss_cons_iff.mp h
  exact yb h2 (Iss.app h3 k)
theorem Iss.take : ∀ {ds : List D} {xs : List V} (n : Nat), Iss K C ds xs → Iss K C (ds.take n) (xs.take n)
 | ds, xs, 0, h => by simpa using kc
 | [], xs, n + 1, h => by rw [iss_nil_iff.mp h]; exact kc
 | d :: ds, xs, n + 1, h => by
  obtain ⟨x, r, rfl, h2, h3⟩ := iss_cons_iff.mp h
  exact yb h2 (Iss.take n h3)
theorem Iss.drop : ∀ {ds : List D} {xs : List V} (n : Nat), Iss K C ds xs → Iss K C (ds.drop n) (xs.drop n)
 | ds, xs, 0, h => h
 | [], xs, n + 1, h => by rw [iss_nil_iff.mp h]; exact kc
 | d :: ds, xs, n + 1, h => by
  obtain ⟨x, r, rfl, _, h3⟩ := iss_cons_iff.mp h
  exact Iss.drop n h3
theorem Iss.set : ∀ {ds : List D} {xs : List V} {d : D} {x : V} (n : Nat), Iss K C ds xs → Is K C d x → Iss K C (ds.set n d) (xs.set n x)
 | [], xs, d, x, n, h, k => by rw [iss_nil_iff.mp h]; exact kc
 | d0 :: ds, xs, d, x, 0, h, k => by
  obtain ⟨y, r, rfl, _, h3⟩ := iss_cons_iff.mp h
  exact yb k h3
 | d0 :: ds, xs, d, x, n + 1, h, k => by
  obtain ⟨y, r, rfl, h2, h3⟩ := iss_cons_iff.mp h
  exact yb h2 (Iss.set n h3 k)
theorem Isf.lookup : ∀ {fs : List (Str × D)} {gs : List (Str × V)} {n : Str} {d : D}, Isf K C fs gs → fs.lookup n = some d → ∃ x, gs.lookup n = some x ∧ Is K C d x
 | [], gs, n, d, h, e => by simp at e
 | (m, d0) :: fs, gs, n, d, h, e => by
  obtain ⟨x, r, rfl, h2, h3⟩ := isf_cons_iff.mp h
  rw [List.lookup_cons] at e ⊢
  cases hb : n == m with
  | true => rw [hb] at e; simp at e; subst e; exact ⟨x, rfl, h2⟩
  | false => rw [hb] at e; simp at e; exact Isf.lookup h3 e
end
mutual
def nkD : D → Option NestedKey
 | .s .non => some .none
 | .s (.bl b) => some (.num (if b = true then 1 else 0))
 | .s (.int i) => some (.num i)
 | .s (.str z) => some (.text z)
 | .tup ds => match nkDs ds with
  | some ks => some (.tup ks)
  | none => none
 | _ => none
def nkDs : List D → Option (List NestedKey)
 | [] => some []
 | d :: ds => match nkD d, nkDs ds with
  | some k, some ks => some (k :: ks)
  | _, _ => none
end
abbrev NEnt := List (NestedKey × Addr × Value)
def NDat (P : Program) (w : World) (a : Addr) (xs : NEnt) : Heap → Prop := fun h => ∃ o es ep, h.get? a = some o ∧ o.ExactDict ∧ o.data = .dict es ep ∧ es.toList = xs.map (entryOfKey (nestedKind P w))
theorem ndat_code (P : Program) (w : World) (a : Addr) (xs : NEnt) : NotCode (NDat P w a xs) := fun c q e => by
 have e2 : NDat P w a xs = fun h => ∃ (oc : Obj) (vs : Array Value) (t : Tok), h.get? c = some oc ∧ oc.data = .fields vs ∧ vs[1]? = some (.str q t) := by
  unfold LamX.CodeO at e
  injection e
 let ob : Obj := { cls := .type "dict", data := .dict (xs.map (entryOfKey (nestedKind P w))).toArray 0 }
 let fr : Obj := { cls := .none, data := .freed }
 let h : Heap := { objs := (List.replicate a fr ++ [ob]).toArray }
 have hg : h.get? a = some ob := by
  unfold Heap.get?
  have : h.objs[a]? = some ob := by
   show (List.replicate a fr ++ [ob]).toArray[a]? = some ob
   rw [List.getElem?_toArray, List.getElem?_append_right (by simp)]
   simp
  rw [this]
 have h1 : NDat P w a xs h := ⟨ob, _, _, hg, ⟨rfl, rfl, rfl⟩, rfl, by simp⟩
 rw [e2] at h1
 obtain ⟨oc, vs, t, g1, g2, _⟩ := h1
 have hne : ∀ b, b ≠ a → h.get? b = none := fun b hb => by
  unfold Heap.get?
  by_cases c1 : b < a
  ·have : h.objs[b]? = some fr := by
    show (List.replicate a fr ++ [ob]).toArray[b]? = some fr
    rw [List.getElem?_toArray, List.getElem?_append_left (by simpa using c1)]
    simp [c1]
   rw [this]
  ·have : h.objs[b]? = none := by
    show (List.replicate a fr ++ [ob]).toArray[b]? = none
    rw [List.getElem?_toArray, List.getElem?_eq_none_iff, List.length_append, List.length_replicate, List.length_singleton]
    have h3 : a ≤ b := Nat.le_of_not_lt c1
    exact Nat.succ_le_of_lt (Nat.lt_of_le_of_ne h3 fun z => hb z.symm)
   rw [this]
 by_cases hc : c = a
 ·rw [hc, hg] at g1
  cases g1
  cases g2
 ·rw [hne c hc] at g1
  cases g1
def NKs (K : PySem.W.Frag) (C : Hp) : List (D × D) → NEnt → Prop
 | [], xs => xs = []
 | (kd, vd) :: r, xs => ∃ k ka u v t, xs = (k, ka, u) :: t ∧ nkD kd = some k ∧ k.depth ≤ 8 ∧ Is K C kd (.ref ka) ∧ RelV v u ∧ Is K C vd v ∧ NKs K C r t
theorem NKs.mono {K : PySem.W.Frag} {C C' : Hp} (e : Ex C C') : ∀ (ds : List (D × D)) (xs : NEnt), NKs K C ds xs → NKs K C' ds xs
 | [], xs, h => h
 | (kd, vd) :: ds, xs, h => by
  obtain ⟨k, ka, u, v, t, h1, h2, h3, h4, h5, h6, h7⟩ := h
  exact ⟨k, ka, u, v, t, h1, h2, h3, Is.mono e kd _ h4, h5, Is.mono e vd v h6, NKs.mono e ds t h7⟩
inductive M where
 | lst (ds : List D)
 | dk (kvs : List (Key × D))
 | dt (kvs : List (List Key × D))
 | ob (c : Addr) (fs : List (Str × D))
 | dn (P : Program) (w : World) (kvs : List (D × D))
def Iskv {κ : Type} (K : PySem.W.Frag) (C : Hp) : List (κ × D) → List (κ × V) → Prop
 | [], xs => xs = []
 | (n, d) :: ds, xs => ∃ x r, xs = (n, x) :: r ∧ Is K C d x ∧ Iskv K C ds r
theorem Iskv.mono {κ : Type} {K : PySem.W.Frag} {C C' : Hp} (e : Ex C C') : ∀ (ds : List (κ × D)) (vs : List (κ × V)), Iskv K C ds vs → Iskv K C' ds vs
 | [], vs, h => h
 | (n, d) :: ds, vs, h => by
  obtain ⟨x, r, h1, h2, h3⟩ := h
  exact ⟨x, r, h1, Is.mono e d x h2, Iskv.mono e ds r h3⟩
def MIs (K : PySem.W.Frag) (C : Hp) : M → HO → Prop
 | .lst ds, o => ∃ xs, o = .lst xs ∧ Iss K C ds xs
 | .dk kvs, o => ∃ xs, o = .dK xs ∧ Iskv K C kvs xs
 | .dt kvs, o => ∃ xs, o = .dT xs ∧ Iskv K C kvs xs
 | .ob c fs, o => ∃ dx gs, o = .ins c dx gs ∧ Isf K C fs gs
 | .dn P w kvs, o => ∃ a xs, o = .ext (NDat P w a xs) ∧ (a == sysModules) = false ∧ (xs.map (·.1)).Nodup ∧ NKs K C kvs xs
theorem isk_iff {K : PySem.W.Frag} {C : Hp} : ∀ {ds : List (Key × D)} {vs : List (Key × V)}, Isk K C ds vs ↔ Iskv K C ds vs
 | [], vs => by unfold Isk Iskv; exact Iff.rfl
 | (n, d) :: ds, vs => by
  unfold Isk Iskv
  constructor
  ·rintro ⟨x, r, h1, h2, h3⟩; exact ⟨x, r, h1, h2, isk_iff.mp h3⟩
  ·rintro ⟨x, r, h1, h2, h3⟩; exact ⟨x, r, h1, h2, isk_iff.mpr h3⟩
theorem MIs.nx {K : PySem.W.Frag} {C : Hp} {m : M} {o : HO} (h : MIs K C m o) : NX o := by
 cases m with
 | lst ds => obtain ⟨xs, rfl, _⟩ := h; exact ⟨zk, fun _ z => by cases z⟩
 | dk ds => obtain ⟨xs, rfl, _⟩ := h; exact ⟨nt_dK, fun _ z => by cases z⟩
 | dt ds => obtain ⟨xs, rfl, _⟩ := h; exact ⟨(fun _ z => nomatch z), (fun _ z => nomatch z)⟩
 | ob c fs => obtain ⟨dx, gs, rfl, _⟩ := h; exact ⟨nt_ins, fun _ z => by cases z⟩
 | dn P w kvs => obtain ⟨a, xs, rfl, _⟩ := h; exact ⟨(fun _ z => nomatch z), fun φ z => by cases z; exact ndat_code P w a xs⟩
theorem MIs.mono {K : PySem.W.Frag} {C C' : Hp} {m : M} {o : HO} (e : Ex C C') (h : MIs K C m o) : MIs K C' m o := by
 cases m with
 | lst ds => obtain ⟨xs, h1, h2⟩ := h; exact ⟨xs, h1, Iss.mono e ds xs h2⟩
 | dk ds => obtain ⟨xs, h1, h2⟩ := h; exact ⟨xs, h1, Iskv.mono e ds xs h2⟩
 | dt ds => obtain ⟨xs, h1, h2⟩ := h; exact ⟨xs, h1, Iskv.mono e ds xs h2⟩
 | ob c fs => obtain ⟨dx, gs, h1, h2⟩ := h; exact ⟨dx, gs, h1, Isf.mono e fs gs h2⟩
 | dn P w kvs => obtain ⟨a, xs, h1, h2, h3, h4⟩ := h; exact ⟨a, xs, h1, h2, h3, NKs.mono e kvs xs h4⟩
inductive Cell where
 | no
 | dat (d : D)
 | own (m : M)
abbrev En := List Cell
inductive Rv where
 | dat (d : D)
 | new (m : M)
 | bor (i : Nat)
structure Exn where
 c : Addr
 fs : Option (List (Str × D))
inductive Out (α : Type) where
 | ok (a : α) (r : En)
 | ex (e : Exn) (r : En)
def qd (σ : Sl) (ρ : En) (a : Addr) : Prop := ∃ (i : Nat) (m : M), ρ[i]? = some (.own m) ∧ σ[i]? = some (some (.ref a))
def CellOk (K : PySem.W.Frag) (C H : Hp) (v : Option V) : Cell → Prop
 | .no => True
 | .dat d => ∃ x, v = some x ∧ Is K C d x
 | .own m => ∃ p o, v = some (.ref p) ∧ C p = none ∧ H p = some o ∧ MIs K C m o
structure EnvOk (K : PySem.W.Frag) (C H : Hp) (σ : Sl) (ρ : En) : Prop where
 len : σ.length = ρ.length
 ext : Ex C H
 cell : ∀ (i : Nat) (c : Cell), ρ[i]? = some c → ∃ v, σ[i]? = some v ∧ CellOk K C H v c
 inj : ∀ (i j : Nat) (m n : M) (a : Addr), ρ[i]? = some (.own m) → ρ[j]? = some (.own n) → σ[i]? = some (some (.ref a)) → σ[j]? = some (some (.ref a)) → i = j
 tab : ∀ P, TabP K P → TS1 H P
structure Step (C H C' H' : Hp) (A : Addr → Prop) : Prop where
 core : Ex C C'
 ext : Ex C' H'
 keep : ∀ b o, H b = some o → NT o → ¬ A b → H' b = some o
 new : ∀ b, C b = none → C' b ≠ none → H b = none ∨ A b
 dom : ∀ b, H' b = none → H b = none
 tabs : ∀ P, TS1 H P → TS1 H' P
theorem Step.refl {C H : Hp} {A : Addr → Prop} (e : Ex C H) : Step C H C H A := ⟨Ex.refl C, e, fun _ _ h _ _ => h, fun b h k => absurd h k, fun _ h => h, fun _ h => h⟩
theorem Step.trans {C H C1 H1 C2 H2 : Hp} {A B : Addr → Prop} (s : Step C H C1 H1 A) (t : Step C1 H1 C2 H2 B) (hB : ∀ a, B a → A a ∨ H a = none) : Step C H C2 H2 A := by
 refine ⟨s.core.trans t.core, t.ext, fun b o h nt na => ?_, fun b h k => ?_, fun b h => s.dom b (t.dom b h), fun P h => t.tabs P (s.tabs P h)⟩
 ·refine t.keep b o (s.keep b o h nt na) nt fun hb => ?_
  rcases hB b hb with z | z
  ·exact na z
  ·rw [z] at h; cases h
 ·cases e : C1 b with
  | none =>
   rcases t.new b e k with z | z
   ·exact .inl (s.dom b z)
   ·rcases hB b z with y | y
    ·exact .inr y
    ·exact .inl y
  | some o => exact s.new b h (by rw [e]; exact fun z => by cases z)
theorem Step.weak {C H C' H' : Hp} {A B : Addr → Prop} (s : Step C H C' H' A) (h : ∀ a, A a → B a ∨ H a = none) : Step C H C' H' B := by
 refine ⟨s.core, s.ext, fun b o e nt nb => s.keep b o e nt fun a => ?_, fun b e k => ?_, s.dom, s.tabs⟩
 ·rcases h b a with z | z
  ·exact nb z
  ·rw [z] at e; cases e
 ·rcases s.new b e k with z | z
  ·exact .inl z
  ·rcases h b z with y | y
   ·exact .inr y
   ·exact .inl y
structure Post (K : PySem.W.Frag) (σ : Sl) (C H : Hp) (ρ : En) (C' H' : Hp) (ρ' : En) : Prop where
 step : Step C H C' H' (qd σ ρ)
 own : ∀ a, qd σ ρ' a → qd σ ρ a
 env : EnvOk K C' H' σ ρ'
theorem Post.refl {K : PySem.W.Frag} {σ : Sl} {C H : Hp} {ρ : En} (e : EnvOk K C H σ ρ) : Post K σ C H ρ C H ρ := ⟨Step.refl e.ext, fun _ h => h, e⟩
theorem Post.trans {K : PySem.W.Frag} {σ : Sl} {C H C1 H1 C2 H2 : Hp} {ρ ρ1 ρ2 : En} (a : Post K σ C H ρ C1 H1 ρ1) (b : Post K σ C1 H1 ρ1 C2 H2 ρ2) : Post K σ C H ρ C2 H2 ρ2 :=
 ⟨a.step.trans b.step fun x h => .inl (a.own x h), fun x h => a.own x (b.own x h), b.env⟩
def VOk (K : PySem.W.Frag) (H0 C H : Hp) (σ : Sl) (ρ : En) (v : V) : Rv → Prop
 | .dat d => Is K C d v
 | .new m => ∃ p o, v = .ref p ∧ C p = none ∧ H p = some o ∧ MIs K C m o ∧ ¬ qd σ ρ p ∧ H0 p = none
 | .bor i => σ[i]? = some (some v) ∧ ∃ c, ρ[i]? = some c
theorem VOk.mono {K : PySem.W.Frag} {σ : Sl} {H0 C H C' H' : Hp} {ρ ρ' : En} {v : V} {r : Rv} (h : VOk K H0 C H σ ρ v r) (e : EnvOk K C H σ ρ) (p : Post K σ C H ρ C' H' ρ') : VOk K H0 C' H' σ ρ' v r := by
 cases r with
 | dat d => exact Is.mono p.step.core d v h
 | new m =>
  obtain ⟨a, o, h1, h2, h3, h4, h5, h6⟩ := h
  refine ⟨a, o, h1, ?_, p.step.keep a o h3 h4.nx.1 h5, h4.mono p.step.core, fun z => h5 (p.own a z), h6⟩
  cases q : C' a with
  | none => rfl
  | some u =>
   rcases p.step.new a h2 (by rw [q]; exact fun z => by cases z) with z | z
   ·rw [z] at h3; cases h3
   ·exact absurd z h5
 | bor i =>
  obtain ⟨h1, c, h2⟩ := h
  refine ⟨h1, ?_⟩
  have l1 : i < ρ.length := (List.getElem?_eq_some_iff.mp h2).1
  have l2 : i < ρ'.length := by rw [← p.env.len, e.len]; exact l1
  exact ⟨ρ'[i], List.getElem?_eq_getElem l2⟩
theorem VOk.back {K : PySem.W.Frag} {σ : Sl} {H0 H1 C H : Hp} {ρ : En} {v : V} {r : Rv} (h : VOk K H1 C H σ ρ v r) (d : ∀ b, H1 b = none → H0 b = none) : VOk K H0 C H σ ρ v r := by
 cases r with
 | dat d' => exact h
 | new m => obtain ⟨a, o, h1, h2, h3, h4, h5, h6⟩ := h; exact ⟨a, o, h1, h2, h3, h4, h5, d a h6⟩
 | bor i => exact h
def mdat : M → Option D
 | .lst ds => some (.lst ds)
 | .dk _ => none
 | .dt _ => none
 | .ob c fs => some (.obj c fs)
 | .dn _ _ _ => none
def cdat : Cell → Option D
 | .no => none
 | .dat d => some d
 | .own m => mdat m
def peek (ρ : En) : Rv → Option D
 | .dat d => some d
 | .new m => mdat m
 | .bor i => match ρ[i]? with
  | some c => cdat c
  | none => none
def grab (ρ : En) : Rv → Option (D × En)
 | .dat d => some (d, ρ)
 | .new m => match mdat m with
  | some d => some (d, ρ)
  | none => none
 | .bor i => match ρ[i]? with
  | some (.dat d) => some (d, ρ)
  | some (.own m) => match mdat m with
   | some d => some (d, ρ.set i (.dat d))
   | none => none
  | _ => none
theorem upd_core {C H : Hp} {a : Addr} {o : HO} (e : Ex C H) (ha : H a = some o) : Ex (upd C a o) H := ⟨fun b u h n => by
 by_cases hb : b = a
 ·subst hb; rw [upd_same] at h; cases h; exact ha
 ·rw [upd_ne hb] at h; exact e.1 b u h n, fun b h => by
 by_cases hb : b = a
 ·subst hb; rw [ha] at h; cases h
 ·rw [upd_ne hb]; exact e.2 b h⟩
theorem Post.froze {K : PySem.W.Frag} {C H : Hp} {σ : Sl} {ρ ρ' : En} {a : Addr} {o : HO} (e : EnvOk K C H σ ρ) (hc : C a = none) (ha : H a = some o) (hl : ρ'.length = ρ.length)
  (hr : ∀ (i : Nat) (c : Cell), ρ'[i]? = some c → (ρ[i]? = some c ∧ ∀ m, c = .own m → σ[i]? ≠ some (some (.ref a))) ∨ (∃ d, c = .dat d ∧ σ[i]? = some (some (.ref a)) ∧ Is K (upd C a o) d (.ref a))) (hA : qd σ ρ a ∨ True) :
  EnvOk K (upd C a o) H σ ρ' := by
 have x : Ex C (upd C a o) := Ex.new hc
 refine ⟨by rw [hl]; exact e.len, upd_core e.ext ha, fun i c h => ?_, fun i j m n b h1 h2 h3 h4 => ?_, e.tab⟩
 ·rcases hr i c h with ⟨h1, h2⟩ | ⟨d, rfl, h1, h2⟩
  ·obtain ⟨v, hv, ok⟩ := e.cell i c h1
   refine ⟨v, hv, ?_⟩
   cases c with
   | no => trivial
   | dat d => obtain ⟨y, hy, z⟩ := ok; exact ⟨y, hy, Is.mono x d y z⟩
   | own m =>
    obtain ⟨p, u, q1, q2, q3, q4⟩ := ok
    refine ⟨p, u, q1, ?_, q3, q4.mono x⟩
    have np : p ≠ a := fun z => h2 m rfl (by rw [hv, q1, z])
    rw [upd_ne np]; exact q2
  ·exact ⟨_, h1, _, rfl, h2⟩
 ·rcases hr i _ h1 with ⟨k1, _⟩ | ⟨d, z, _⟩
  ·rcases hr j _ h2 with ⟨k2, _⟩ | ⟨d, z, _⟩
   ·exact e.inj i j m n b k1 k2 h3 h4
   ·cases z
  ·cases z
theorem grab_ok {K : PySem.W.Frag} {H0 C H : Hp} {σ : Sl} {ρ ρ' : En} {v : V} {r : Rv} {d : D} (e : EnvOk K C H σ ρ) (h : VOk K H0 C H σ ρ v r) (g : grab ρ r = some (d, ρ')) :
  ∃ C', Is K C' d v ∧ EnvOk K C' H σ ρ' ∧ Ex C C' ∧ (∀ a, qd σ ρ' a → qd σ ρ a) ∧ (∀ b, C b = none → C' b ≠ none → H b = none ∨ qd σ ρ b ∨ H0 b = none) := by
 cases r with
 | dat d' => cases g; exact ⟨C, h, e, Ex.refl C, fun _ z => z, fun b h1 h2 => absurd h1 h2⟩
 | new m =>
  obtain ⟨a, o, rfl, h2, h3, h4, h5, h6⟩ := h
  have g' : mdat m = some d ∧ ρ = ρ' := by
   cases q : mdat m with
   | none => simp only [grab, q] at g; cases g
   | some d' => simp only [grab, q] at g; cases g; exact ⟨rfl, rfl⟩
  obtain ⟨g1, rfl⟩ := g'
  refine ⟨upd C a o, ?_, ?_, Ex.new h2, fun _ z => z, fun b k1 k2 => ?_⟩
  ·cases m with
   | lst ds =>
    obtain ⟨xs, rfl, q2⟩ := h4
    cases g1
    exact is_lst upd_same (Iss.mono (Ex.new h2) ds xs q2)
   | dk ds => cases g1
   | dt ds => cases g1
   | dn _ _ _ => cases g1
   | ob c fs =>
    obtain ⟨dx, gs, rfl, q2⟩ := h4
    cases g1
    exact is_obj_iff.mpr ⟨_, dx, gs, rfl, upd_same, Isf.mono (Ex.new h2) fs gs q2⟩
  ·exact Post.froze e h2 h3 rfl (fun i c q => .inl ⟨q, fun m' z s => h5 ⟨i, m', by rw [q, z], s⟩⟩) (.inr trivial)
  ·by_cases hb : b = a
   ·exact .inr (.inr (by rw [hb]; exact h6))
   ·rw [upd_ne hb] at k2; exact absurd k1 k2
 | bor i =>
  obtain ⟨h1, c, h2⟩ := h
  simp only [grab, h2] at g
  obtain ⟨x, hx, ok⟩ := e.cell i c h2
  rw [h1] at hx; cases hx
  cases c with
  | no => cases g
  | dat d' =>
   cases g
   obtain ⟨y, hy, z⟩ := ok
   cases hy
   exact ⟨C, z, e, Ex.refl C, fun _ z => z, fun b h1 h2 => absurd h1 h2⟩
  | own m =>
   obtain ⟨a, o, q1, q2, q3, q4⟩ := ok
   cases q1
   have g' : mdat m = some d ∧ ρ.set i (.dat d) = ρ' := by
    cases q : mdat m with
    | none => simp only [q] at g; cases g
    | some d' => simp only [q] at g; cases g; exact ⟨rfl, rfl⟩
   obtain ⟨g1, rfl⟩ := g'
   have isd : Is K (upd C a o) d (.ref a) := by
    cases m with
    | lst ds =>
     obtain ⟨xs, rfl, q5⟩ := q4
     cases g1
     exact is_lst upd_same (Iss.mono (Ex.new q2) ds xs q5)
    | dk ds => cases g1
    | dt ds => cases g1
    | dn _ _ _ => cases g1
    | ob c fs =>
     obtain ⟨dx, gs, rfl, q5⟩ := q4
     cases g1
     exact is_obj_iff.mpr ⟨_, dx, gs, rfl, upd_same, Isf.mono (Ex.new q2) fs gs q5⟩
   have il : i < ρ.length := (List.getElem?_eq_some_iff.mp h2).1
   refine ⟨upd C a o, isd, ?_, Ex.new q2, fun b ⟨j, m', z1, z2⟩ => ?_, fun b k1 k2 => ?_⟩
   ·refine Post.froze e q2 q3 (by rw [List.length_set]) (fun j c q => ?_) (.inr trivial)
    by_cases hj : i = j
    ·subst hj
     rw [List.getElem?_set_self il] at q; cases q
     exact .inr ⟨d, rfl, h1, isd⟩
    ·rw [List.getElem?_set_ne hj] at q
     exact .inl ⟨q, fun m' z s => hj (e.inj i j m m' a h2 (by rw [q, z]) h1 s)⟩
   ·by_cases hj : i = j
    ·subst hj
     rw [List.getElem?_set_self il] at z1; cases z1
    ·rw [List.getElem?_set_ne hj] at z1
     exact ⟨j, m', z1, z2⟩
   ·by_cases hb : b = a
    ·exact .inr (.inl ⟨i, m, h2, by rw [hb]; exact h1⟩)
    ·rw [upd_ne hb] at k2; exact absurd k1 k2
end PL
namespace PL
open PySem L2
abbrev P (α : Type) := En → Option (Out α)
def jd {α β : Type} (o : Option (Out α)) (k : α → P β) : Option (Out β) := match o with
 | none => none
 | some (.ex e r) => some (.ex e r)
 | some (.ok a r) => k a r
def P.bind {α β : Type} (f : P α) (k : α → P β) : P β := fun ρ => jd (f ρ) k
def P.ret {α : Type} (a : α) : P α := fun ρ => some (.ok a ρ)
def P.fail {α : Type} : P α := fun _ => none
def P.of {α : Type} (o : Option α) : P α := fun ρ => match o with
 | some a => some (.ok a ρ)
 | none => none
def ExnOk (K : PySem.W.Frag) (C : Hp) (e : Exn) (d : Option Addr) : Prop := match e.fs with
 | none => d = none
 | some fs => ∃ a gs, d = some a ∧ C a = some (.xd gs) ∧ Isf K C fs gs
abbrev Rel (α' α : Type) := Hp → Hp → Sl → En → α' → α → Prop
abbrev Rd1 (α' : Type) := Hp → (α' → Hp → Prop) → Prop
def At {α' α : Type} (K : PySem.W.Frag) (W : WX) (R : Rel α' α) (σ : Sl) (C H : Hp) (ρ : En) (t : Rd1 α') (o : Option (Out α)) : Prop :=
 ∀ out Q, o = some out → (∀ a ρ', out = .ok a ρ' → ∀ v C' H', Post K σ C H ρ C' H' ρ' → R C' H' σ ρ' v a → Q v H') →
  (∀ e ρ', out = .ex e ρ' → ∀ d C' H', Post K σ C H ρ C' H' ρ' → ExnOk K C' e d → W (.ref e.c) d σ H') → t H Q
def Sd {α' α : Type} (K : PySem.W.Frag) (W : WX) (R : Hp → Rel α' α) (t : Sl → Rd1 α') (f : P α) : Prop :=
 ∀ σ C H ρ, EnvOk K C H σ ρ → At K W (R H) σ C H ρ (t σ) (f ρ)
section
variable {K : PySem.W.Frag} {W : WX} {σ : Sl} {C H : Hp} {ρ : En}
theorem At.bind {α' α β' β : Type} {Ra : Rel α' α} {Rb : Rel β' β} {ta : Rd1 α'} {tk : α' → Rd1 β'} {oa : Option (Out α)} {k : α → P β}
  (ha : At K W Ra σ C H ρ ta oa) (hk : ∀ a ρ1 v C1 H1, Post K σ C H ρ C1 H1 ρ1 → Ra C1 H1 σ ρ1 v a → At K W Rb σ C1 H1 ρ1 (tk v) (k a ρ1)) :
  At K W Rb σ C H ρ (fun H Q => ta H fun v H1 => tk v H1 Q) (jd oa k) := by
 intro out Q ho hok hex
 cases oa with
 | none => cases ho
 | some oa =>
  refine ha oa _ rfl (fun a ρ1 e v C1 H1 p r => ?_) (fun e ρ1 ee d C1 H1 p r => ?_)
  ·subst e
   refine hk a ρ1 v C1 H1 p r out Q ho (fun b ρ2 e2 w C2 H2 p2 r2 => hok b ρ2 e2 w C2 H2 (p.trans p2) r2) (fun e ρ2 e2 d C2 H2 p2 r2 => hex e ρ2 e2 d C2 H2 (p.trans p2) r2)
  ·subst ee
   have ho' : (Out.ex e ρ1 : Out β) = out := Option.some.inj ho
   exact hex e ρ1 ho'.symm d C1 H1 p r
theorem At.ret {α' α : Type} {R : Rel α' α} {v : α'} {a : α} (e : EnvOk K C H σ ρ) (r : R C H σ ρ v a) : At K W R σ C H ρ (fun H Q => Q v H) (some (.ok a ρ)) := by
 intro out Q ho hok hex
 cases ho
 exact hok a ρ rfl v C H (Post.refl e) r
theorem At.nil {α' α : Type} {R : Rel α' α} {t : Rd1 α'} : At K W R σ C H ρ t Option.none := by
 intro out Q ho
 cases ho
theorem At.imp {α' α : Type} {R : Rel α' α} {t t' : Rd1 α'} {o : Option (Out α)} (h : At K W R σ C H ρ t o) (i : ∀ Q, t H Q → t' H Q) : At K W R σ C H ρ t' o :=
 fun out Q ho hok hex => i Q (h out Q ho hok hex)
theorem At.of {α' α : Type} {R : Rel α' α} {t : Rd1 α'} {a : α} {ρ' : En} (h : ∀ Q : α' → Hp → Prop, (∀ v C' H', Post K σ C H ρ C' H' ρ' → R C' H' σ ρ' v a → Q v H') → t H Q) : At K W R σ C H ρ t (some (.ok a ρ')) := by
 intro out Q ho hok hex
 cases ho
 exact h Q (hok a ρ' rfl)
def VRel (K : PySem.W.Frag) (H0 : Hp) : Rel V Rv := fun C H σ ρ v r => VOk K H0 C H σ ρ v r
def DRel (K : PySem.W.Frag) (_ : Hp) : Rel V D := fun C _ _ _ v d => Is K C d v
def xak (K : PySem.W.Frag) (_ : Hp) : Rel (List V) (List D) := fun C _ _ _ vs ds => Iss K C ds vs
def BRel (_ : Hp) : Rel Bool Bool := fun _ _ _ _ v b => v = b
def IRel (_ : Hp) : Rel (Option Int) (Option Int) := fun _ _ _ _ v b => v = b
def Pk (K : PySem.W.Frag) (C H : Hp) : D → V → Prop
 | .lst ds, v => ∃ a xs, v = .ref a ∧ H a = some (.lst xs) ∧ Iss K C ds xs
 | .obj c fs, v => ∃ a dx gs, v = .ref a ∧ H a = some (.ins c dx gs) ∧ Isf K C fs gs
 | d, v => Is K C d v
theorem Pk.of {d : D} {v : V} (e : Ex C H) (h : Is K C d v) : Pk K C H d v := by
 cases d with
 | lst ds =>
  obtain ⟨a, xs, h1, h2, h3⟩ := is_lst_iff.mp h
  exact ⟨a, xs, h1, e.1 _ _ h2 zk, h3⟩
 | s x => exact h
 | tup ds => exact h
 | obj c fs =>
  obtain ⟨a, dx, gs, h1, h2, h3⟩ := is_obj_iff.mp h
  exact ⟨a, dx, gs, h1, e.1 _ _ h2 nt_ins, h3⟩
 | ro ds => exact h
 | lam f c zs ks => exact h
 | dic kvs => exact h
 | exc c b fs => exact h
theorem mis_pk {m : M} {d : D} {a : Addr} {o : HO} (e : mdat m = some d) (h : MIs K C m o) (ha : H a = some o) : Pk K C H d (.ref a) := by
 cases m with
 | lst ds =>
  obtain ⟨xs, h1, h2⟩ := h
  cases e
  subst h1
  exact ⟨a, xs, rfl, ha, h2⟩
 | dk ds => cases e
 | dt ds => cases e
 | dn _ _ _ => cases e
 | ob c fs =>
  obtain ⟨dx, gs, h1, h2⟩ := h
  cases e
  subst h1
  exact ⟨a, dx, gs, rfl, ha, h2⟩
theorem kf {H0 : Hp} {v : V} {r : Rv} {d : D} (e : EnvOk K C H σ ρ) (h : VOk K H0 C H σ ρ v r) (p : peek ρ r = some d) : Pk K C H d v := by
 cases r with
 | dat d' => cases p; exact Pk.of e.ext h
 | new m =>
  obtain ⟨a, o, rfl, h2, h3, h4, h5, h6⟩ := h
  exact mis_pk p h4 h3
 | bor i =>
  obtain ⟨h1, c, h2⟩ := h
  have p' : cdat c = some d := by
   have q : peek ρ (.bor i) = cdat c := by simp only [peek, h2]
   rw [← q]; exact p
  obtain ⟨x, hx, ok⟩ := e.cell i c h2
  rw [h1] at hx; cases hx
  cases c with
  | no => cases p'
  | dat d' => cases p'; obtain ⟨y, hy, z⟩ := ok; cases hy; exact Pk.of e.ext z
  | own m =>
   obtain ⟨q, o, h3, h4, h5, h6⟩ := ok
   cases h3
   exact mis_pk p' h6 h5
theorem EnvOk.step {C' H' : Hp} (e : EnvOk K C H σ ρ) (s : Step C H C' H' (fun _ => False)) : EnvOk K C' H' σ ρ := by
 refine ⟨e.len, s.ext, fun i c h => ?_, e.inj, fun P h => s.tabs P (e.tab P h)⟩
 obtain ⟨v, hv, ok⟩ := e.cell i c h
 refine ⟨v, hv, ?_⟩
 cases c with
 | no => trivial
 | dat d => obtain ⟨y, hy, z⟩ := ok; exact ⟨y, hy, Is.mono s.core d y z⟩
 | own m =>
  obtain ⟨p, o, q1, q2, q3, q4⟩ := ok
  refine ⟨p, o, q1, ?_, s.keep p o q3 q4.nx.1 (fun z => z), q4.mono s.core⟩
  cases q : C' p with
  | none => rfl
  | some u =>
   rcases s.new p q2 (by rw [q]; exact fun z => by cases z) with z | z
   ·rw [z] at q3; cases q3
   ·exact z.elim
theorem Post.of_step {C' H' : Hp} (e : EnvOk K C H σ ρ) (s : Step C H C' H' (fun _ => False)) : Post K σ C H ρ C' H' ρ :=
 ⟨s.weak fun _ z => z.elim, fun _ h => h, e.step s⟩
theorem Step.newD {p : Addr} {o : HO} (e : Ex C H) (h : H p = none) : Step C H (upd C p o) (upd H p o) (fun _ => False) := by
 have hc : C p = none := e.none h
 refine ⟨Ex.new hc, ⟨fun b u q n => ?_, fun b q => ?_⟩, fun b u q _ _ => ?_, fun b q1 q2 => ?_, fun b q => ?_, fun P q => xaf q h⟩
 ·by_cases hb : b = p
  ·subst hb; rw [upd_same] at q ⊢; exact q
  ·rw [upd_ne hb] at q ⊢; exact e.1 b u q n
 ·by_cases hb : b = p
  ·subst hb; rw [upd_same] at q; cases q
  ·rw [upd_ne hb] at q ⊢; exact e.2 b q
 ·rw [upd_ne (ne_of_none q h)]; exact q
 ·by_cases hb : b = p
  ·subst hb; exact .inl h
  ·rw [upd_ne hb] at q2; exact absurd q1 q2
 ·by_cases hb : b = p
  ·subst hb; rw [upd_same] at q; cases q
  ·rw [upd_ne hb] at q; exact q
theorem Step.newM {p : Addr} {o : HO} (e : Ex C H) (h : H p = none) : Step C H C (upd H p o) (fun _ => False) := by
 refine ⟨Ex.refl C, e.trans (Ex.new h), fun b u q _ _ => ?_, fun b q1 q2 => absurd q1 q2, fun b q => ?_, fun P q => xaf q h⟩
 ·rw [upd_ne (ne_of_none q h)]; exact q
 ·by_cases hb : b = p
  ·subst hb; exact h
  ·rw [upd_ne hb] at q; exact q
def RvOk (K : PySem.W.Frag) (C H0 C' H' : Hp) (v : V) : Rv → Prop
 | .dat d => Is K C' d v
 | .new m => ∃ p o, v = .ref p ∧ H0 p = none ∧ C' p = none ∧ H' p = some o ∧ MIs K C' m o
 | .bor _ => False
theorem RvOk.vok {H0 C' H' : Hp} {v : V} {r : Rv} (e : EnvOk K C H σ ρ) (h : RvOk K C H C' H' v r) (hd : ∀ b, H b = none → H0 b = none) : VOk K H0 C' H' σ ρ v r := by
 cases r with
 | dat d => exact h
 | new m =>
  obtain ⟨p, o, h1, h2, h3, h4, h5⟩ := h
  refine ⟨p, o, h1, h3, h4, h5, fun ⟨i, m', q1, q2⟩ => ?_, hd p h2⟩
  obtain ⟨v, hv, b, o', r1, r2, r3, _⟩ := e.cell i _ q1
  rw [q2] at hv; cases hv; cases r1
  rw [h2] at r3; cases r3
 | bor i => exact h.elim
def Giv (K : PySem.W.Frag) (C H : Hp) (r : Rv) (Q : VK) : Prop := ∀ v C' H', Step C H C' H' (fun _ => False) → RvOk K C H C' H' v r → Q v H'
theorem Giv.d {x : V} {Q : VK} (e : Ex C H) (g : Giv K C H (.dat (.s x)) Q) : Q x H := g x C H (Step.refl e) (show Is K C (.s x) x from is_s)
theorem Giv.same {d : D} {v : V} {Q : VK} (e : Ex C H) (g : Giv K C H (.dat d) Q) (h : Is K C d v) : Q v H := g v C H (Step.refl e) h
theorem Giv.lst {ds : List D} {xs : List V} {Q : VK} (e : Ex C H) (g : Giv K C H (.new (.lst ds)) Q) (h : Iss K C ds xs) {p : Addr} (hp : H p = none) : Q (.ref p) (upd H p (.lst xs)) :=
 g _ C _ (Step.newM e hp) ⟨p, _, rfl, hp, e.none hp, upd_same, xs, rfl, h⟩
theorem Giv.tup {ds : List D} {xs : List V} {Q : VK} (e : Ex C H) (g : Giv K C H (.dat (.tup ds)) Q) (h : Iss K C ds xs) {p : Addr} (hp : H p = none) : Q (.ref p) (upd H p (.tup xs)) :=
 g _ _ _ (Step.newD e hp) (xaz (SqT.of upd_same) (Iss.mono (Ex.new (e.none hp)) ds xs h))
def R2Ok (K : PySem.W.Frag) (r : R2) (op : D → D → Option Rv) : Prop :=
 ∀ C H, Ex C H → ∀ dx dy x y rv Q, op dx dy = some rv → Pk K C H dx x → Pk K C H dy y → Giv K C H rv Q → r x y H Q
def R1Ok (K : PySem.W.Frag) (r : V → Hp → VK → Prop) (op : D → Option Rv) : Prop :=
 ∀ C H, Ex C H → ∀ dx x rv Q, op dx = some rv → Pk K C H dx x → Giv K C H rv Q → r x H Q
inductive Pks (K : PySem.W.Frag) (C H : Hp) : List D → List V → Prop where
 | nil : Pks K C H [] []
 | cons {d : D} {v : V} {ds : List D} {vs : List V} (h : Pk K C H d v) (t : Pks K C H ds vs) : Pks K C H (d :: ds) (v :: vs)
def RCOk (K : PySem.W.Frag) (r : List V → Hp → VK → Prop) (op : List D → Option Rv) : Prop :=
 ∀ C H, Ex C H → ∀ ds vs rv Q, op ds = some rv → Pks K C H ds vs → Giv K C H rv Q → r vs H Q
theorem At.giv {H0 : Hp} {r : Rd1 V} {rv : Rv} (e : EnvOk K C H σ ρ) (hd : ∀ b, H b = none → H0 b = none) (h : ∀ Q, Giv K C H rv Q → r H Q) : At K W (VRel K H0) σ C H ρ r (some (.ok rv ρ)) :=
 At.of fun Q hq => h Q fun v C' H' s k => hq v C' H' (Post.of_step e s) (k.vok e hd)
end
def fVar (i : Nat) : P Rv := fun ρ => match ρ[i]? with
 | some (.dat d) => some (.ok (.dat d) ρ)
 | some (.own _) => some (.ok (.bor i) ρ)
 | _ => none
def fC (d : D) : P Rv := fun ρ => some (.ok (.dat d) ρ)
def pk1 (r : Rv) (k : D → P Rv) : P Rv := fun ρ => match peek ρ r with
 | some d => k d ρ
 | none => none
def fOp (op : D → D → Option Rv) (fa fb : P Rv) : P Rv := fa.bind fun ra => fb.bind fun rb => pk1 ra fun da => pk1 rb fun db => P.of (op da db)
def fUn (op : D → Option Rv) (fa : P Rv) : P Rv := fa.bind fun ra => pk1 ra fun da => P.of (op da)
section
variable {K : PySem.W.Frag} {W : WX} {σ : Sl} {C H : Hp} {ρ : En}
theorem At.pk1 {α' : Type} {R : Rel α' Rv} {t : Rd1 α'} {r : Rv} {k : D → P Rv} (h : ∀ d, peek ρ r = some d → At K W R σ C H ρ t (k d ρ)) : At K W R σ C H ρ t (pk1 r k ρ) := by
 unfold PL.pk1
 cases q : peek ρ r with
 | none => exact At.nil
 | some d => exact h d q
theorem At.pof {α' α : Type} {R : Rel α' α} {t : Rd1 α'} {o : Option α} (h : ∀ a, o = some a → At K W R σ C H ρ t (some (.ok a ρ))) : At K W R σ C H ρ t (P.of o ρ) := by
 unfold P.of
 cases q : o with
 | none => exact At.nil
 | some a => exact h a q
end
section
variable {K : PySem.W.Frag} {W : WX} {ta tb : TE} {fa fb : P Rv}
theorem sd_var {i : Nat} : Sd K W (VRel K) (tVar i) (fVar i) := by
 intro σ C H ρ e
 unfold fVar
 cases q : ρ[i]? with
 | none => exact At.nil
 | some c =>
  obtain ⟨v, hv, ok⟩ := e.cell i c q
  cases c with
  | no => exact At.nil
  | dat d =>
   obtain ⟨x, rfl, z⟩ := ok
   exact At.imp (At.ret (R := VRel K H) (v := x) e z) fun Q h => ⟨x, hv, h⟩
  | own m =>
   obtain ⟨p, o, rfl, _⟩ := ok
   exact At.imp (At.ret (R := VRel K H) (v := .ref p) e ⟨hv, _, q⟩) fun Q h => ⟨.ref p, hv, h⟩
theorem sd_c {x : V} : Sd K W (VRel K) (tC x) (fC (.s x)) := fun σ C H ρ e => At.ret (R := VRel K H) e (show Is K C (.s x) x from is_s)
theorem sd_op {r : R2} {op : D → D → Option Rv} (hr : R2Ok K r op) (ha : Sd K W (VRel K) ta fa) (hb : Sd K W (VRel K) tb fb) : Sd K W (VRel K) (tOp r ta tb) (fOp op fa fb) := by
 intro σ C H ρ e
 show At K W (VRel K H) σ C H ρ (fun H Q => ta σ H fun x H1 => tb σ H1 fun y H2 => r x y H2 Q) (jd (fa ρ) fun ra => fb.bind fun rb => pk1 ra fun da => pk1 rb fun db => P.of (op da db))
 refine At.bind (tk := fun x H1 Q => tb σ H1 fun y H2 => r x y H2 Q) (ha σ C H ρ e) fun ra ρ1 x C1 H1 p1 r1 => ?_
 refine At.bind (tk := fun y H2 Q => r x y H2 Q) (hb σ C1 H1 ρ1 p1.env) fun rb ρ2 y C2 H2 p2 r2 => ?_
 have r1' := VOk.mono r1 p1.env p2
 refine At.pk1 fun da q1 => At.pk1 fun db q2 => At.pof fun rv q3 => ?_
 exact At.giv p2.env (fun b h => p1.step.dom b (p2.step.dom b h)) fun Q g => hr C2 H2 p2.env.ext da db x y rv Q q3 (kf p2.env r1' q1) (kf p2.env r2 q2) g
theorem sd_un {r : V → Hp → VK → Prop} {op : D → Option Rv} (hr : R1Ok K r op) (ha : Sd K W (VRel K) ta fa) : Sd K W (VRel K) (tUn r ta) (fUn op fa) := by
 intro σ C H ρ e
 show At K W (VRel K H) σ C H ρ (fun H Q => ta σ H fun x H1 => r x H1 Q) (jd (fa ρ) fun ra => pk1 ra fun da => P.of (op da))
 refine At.bind (tk := fun x H1 Q => r x H1 Q) (ha σ C H ρ e) fun ra ρ1 x C1 H1 p1 r1 => ?_
 refine At.pk1 fun da q1 => At.pof fun rv q3 => ?_
 exact At.giv p1.env (fun b h => p1.step.dom b h) fun Q g => hr C1 H1 p1.env.ext da x rv Q q3 (kf p1.env r1 q1) g
end
def fNil : P (List Rv) := P.ret []
def zd (fa : P Rv) (fr : P (List Rv)) : P (List Rv) := fa.bind fun ra => fr.bind fun rs => P.ret (ra :: rs)
def xq (ρ : En) : List Rv → Option (List D)
 | [] => some []
 | r :: rs => match peek ρ r, xq ρ rs with
  | some d, some ds => some (d :: ds)
  | _, _ => none
def pks (rs : List Rv) {α : Type} (k : List D → P α) : P α := fun ρ => match xq ρ rs with
 | some ds => k ds ρ
 | none => none
def vNil : P (List D) := P.ret []
def grab1 (r : Rv) : P D := fun ρ => match grab ρ r with
 | some (d, ρ') => some (.ok d ρ')
 | none => none
def yj (fa : P Rv) : P D := fa.bind grab1
def jb (fa : P Rv) (fr : P (List D)) : P (List D) := (yj fa).bind fun d => fr.bind fun ds => P.ret (d :: ds)
def fTup (g : P (List D)) : P Rv := g.bind fun ds => P.of (if ds.length ≤ sizeLine then some (.dat (.tup ds)) else none)
def fLst (g : P (List D)) : P Rv := g.bind fun ds => P.of (if ds.length ≤ sizeLine then some (.new (.lst ds)) else none)
def fCB (op : List D → Option Rv) (fs : P (List Rv)) : P Rv := fs.bind fun rs => pks rs fun ds => P.of (op ds)
inductive VOks (K : PySem.W.Frag) (H0 C H : Hp) (σ : Sl) (ρ : En) : List V → List Rv → Prop where
 | nil : VOks K H0 C H σ ρ [] []
 | cons {v : V} {r : Rv} {vs : List V} {rs : List Rv} (h : VOk K H0 C H σ ρ v r) (t : VOks K H0 C H σ ρ vs rs) : VOks K H0 C H σ ρ (v :: vs) (r :: rs)
theorem VOks.mono {K : PySem.W.Frag} {σ : Sl} {H0 C H C' H' : Hp} {ρ ρ' : En} {vs : List V} {rs : List Rv} (h : VOks K H0 C H σ ρ vs rs) (e : EnvOk K C H σ ρ) (p : Post K σ C H ρ C' H' ρ') : VOks K H0 C' H' σ ρ' vs rs := by
 induction h with
 | nil => exact .nil
 | cons h t ih => exact .cons (h.mono e p) ih
theorem VOks.back {K : PySem.W.Frag} {σ : Sl} {H0 H1 C H : Hp} {ρ : En} {vs : List V} {rs : List Rv} (h : VOks K H1 C H σ ρ vs rs) (d : ∀ b, H1 b = none → H0 b = none) : VOks K H0 C H σ ρ vs rs := by
 induction h with
 | nil => exact .nil
 | cons h t ih => exact .cons (h.back d) ih
theorem qa8 {K : PySem.W.Frag} {σ : Sl} {H0 C H : Hp} {ρ : En} {vs : List V} {rs : List Rv} (e : EnvOk K C H σ ρ) (h : VOks K H0 C H σ ρ vs rs) : ∀ {ds : List D}, xq ρ rs = some ds → Pks K C H ds vs := by
 induction h with
 | nil => intro ds q; cases q; exact .nil
 | @cons v r vs rs h t ih =>
  intro ds q
  cases q1 : peek ρ r with
  | none => simp only [xq, q1] at q; cases q
  | some d =>
   cases q2 : xq ρ rs with
   | none => simp only [xq, q1, q2] at q; cases q
   | some ds' =>
    simp only [xq, q1, q2] at q
    cases q
    exact .cons (kf e h q1) (ih q2)
theorem At.pks {K : PySem.W.Frag} {W : WX} {σ : Sl} {C H : Hp} {ρ : En} {α' α : Type} {R : Rel α' α} {t : Rd1 α'} {rs : List Rv} {k : List D → P α} (h : ∀ ds, xq ρ rs = some ds → At K W R σ C H ρ t (k ds ρ)) : At K W R σ C H ρ t (pks rs k ρ) := by
 unfold PL.pks
 cases q : xq ρ rs with
 | none => exact At.nil
 | some d => exact h d q
def vax (K : PySem.W.Frag) (H0 : Hp) : Rel (List V) (List Rv) := fun C H σ ρ vs rs => VOks K H0 C H σ ρ vs rs
section
variable {K : PySem.W.Frag} {W : WX} {ta : TE} {tr : TA} {fa : P Rv} {fr : P (List Rv)} {gr : P (List D)}
theorem yc {α : Type} {c : Prop} [Decidable c] {a b : α} (h : (if c then some a else none) = some b) : c ∧ a = b := by
 by_cases hc : c
 ·rw [if_pos hc] at h; exact ⟨hc, Option.some.inj h⟩
 ·rw [if_neg hc] at h; cases h
theorem sd_nil : Sd K W (vax K) tNil fNil := fun σ C H ρ e => At.ret (R := vax K H) e VOks.nil
theorem sd_cons (ha : Sd K W (VRel K) ta fa) (hr : Sd K W (vax K) tr fr) : Sd K W (vax K) (tCons ta tr) (zd fa fr) := by
 intro σ C H ρ e
 show At K W (vax K H) σ C H ρ (fun H Q => ta σ H fun x H1 => tr σ H1 fun xs H2 => Q (x :: xs) H2) (jd (fa ρ) fun ra => fr.bind fun rs => P.ret (ra :: rs))
 refine At.bind (tk := fun x H1 Q => tr σ H1 fun xs H2 => Q (x :: xs) H2) (ha σ C H ρ e) fun ra ρ1 x C1 H1 p1 r1 => ?_
 refine At.bind (tk := fun xs H2 Q => Q (x :: xs) H2) (hr σ C1 H1 ρ1 p1.env) fun rs ρ2 vs C2 H2 p2 r2 => ?_
 exact At.ret (R := vax K H) (v := x :: vs) p2.env (VOks.cons (VOk.mono r1 p1.env p2) (r2.back p1.step.dom))
theorem kj (ha : Sd K W (VRel K) ta fa) : Sd K W (DRel K) ta (yj fa) := by
 intro σ C H ρ e out Q ho hok hex
 unfold yj P.bind at ho
 cases q : fa ρ with
 | none => rw [q] at ho; cases ho
 | some oa =>
  rw [q] at ho
  refine ha σ C H ρ e oa Q q (fun ra ρ1 e1 v C1 H1 p1 r1 => ?_) (fun x ρ1 e1 d C1 H1 p1 r1 => ?_)
  ·subst e1
   have ho : grab1 ra ρ1 = some out := ho
   unfold grab1 at ho
   cases q2 : grab ρ1 ra with
   | none => rw [q2] at ho; cases ho
   | some z =>
    obtain ⟨d, ρ2⟩ := z
    rw [q2] at ho
    cases ho
    obtain ⟨C2, h1, h2, h3, h4, h5⟩ := grab_ok p1.env r1 q2
    refine hok d ρ2 rfl v C2 H1 ⟨⟨p1.step.core.trans h3, h2.ext, p1.step.keep, fun b k1 k2 => ?_, p1.step.dom, p1.step.tabs⟩, fun a z => p1.own a (h4 a z), h2⟩ h1
    cases q3 : C1 b with
    | some o => exact p1.step.new b k1 (by rw [q3]; exact fun z => by cases z)
    | none =>
     rcases h5 b q3 k2 with z | z | z
     ·exact .inl (p1.step.dom b z)
     ·exact .inr (p1.own b z)
     ·exact .inl z
  ·subst e1
   cases ho
   exact hex x ρ1 rfl d C1 H1 p1 r1
theorem sg_nil : Sd K W (xak K) tNil vNil := fun σ C H ρ e => At.ret (R := xak K H) e kc
theorem q7 (ha : Sd K W (VRel K) ta fa) (hr : Sd K W (xak K) tr gr) : Sd K W (xak K) (tCons ta tr) (jb fa gr) := by
 intro σ C H ρ e
 show At K W (xak K H) σ C H ρ (fun H Q => ta σ H fun x H1 => tr σ H1 fun xs H2 => Q (x :: xs) H2) (jd (yj fa ρ) fun d => gr.bind fun ds => P.ret (d :: ds))
 refine At.bind (tk := fun x H1 Q => tr σ H1 fun xs H2 => Q (x :: xs) H2) (kj ha σ C H ρ e) fun d ρ1 x C1 H1 p1 r1 => ?_
 refine At.bind (tk := fun xs H2 Q => Q (x :: xs) H2) (hr σ C1 H1 ρ1 p1.env) fun ds ρ2 vs C2 H2 p2 r2 => ?_
 exact At.ret (R := xak K H) (v := x :: vs) p2.env (yb (Is.mono p2.step.core d x r1) r2)
theorem sd_tup {tg : TA} {g : P (List D)} (hg : Sd K W (xak K) tg g) : Sd K W (VRel K) (tTup tg) (fTup g) := by
 intro σ C H ρ e
 show At K W (VRel K H) σ C H ρ (fun H Q => tg σ H fun xs H1 => xs.length ≤ sizeLine ∧ ∀ p, H1 p = none → Q (.ref p) (upd H1 p (.tup xs))) (jd (g ρ) fun ds => P.of (if ds.length ≤ sizeLine then some (.dat (.tup ds)) else none))
 refine At.bind (tk := fun (xs : List V) (H1 : Hp) (Q : VK) => xs.length ≤ sizeLine ∧ ∀ p, H1 p = none → Q (.ref p) (upd H1 p (.tup xs))) (hg σ C H ρ e) fun ds ρ1 xs C1 H1 p1 r1 => ?_
 refine At.pof fun rv q => ?_
 obtain ⟨hl, rfl⟩ := yc q
 exact At.giv p1.env p1.step.dom fun Q g => ⟨by rw [r1.length]; exact hl, fun p hp => g.tup p1.env.ext r1 hp⟩
theorem sd_lst {tg : TA} {g : P (List D)} (hg : Sd K W (xak K) tg g) : Sd K W (VRel K) (tLst tg) (fLst g) := by
 intro σ C H ρ e
 show At K W (VRel K H) σ C H ρ (fun H Q => tg σ H fun xs H1 => xs.length ≤ sizeLine ∧ ∀ p, H1 p = none → Q (.ref p) (upd H1 p (.lst xs))) (jd (g ρ) fun ds => P.of (if ds.length ≤ sizeLine then some (.new (.lst ds)) else none))
 refine At.bind (tk := fun (xs : List V) (H1 : Hp) (Q : VK) => xs.length ≤ sizeLine ∧ ∀ p, H1 p = none → Q (.ref p) (upd H1 p (.lst xs))) (hg σ C H ρ e) fun ds ρ1 xs C1 H1 p1 r1 => ?_
 refine At.pof fun rv q => ?_
 obtain ⟨hl, rfl⟩ := yc q
 exact At.giv p1.env p1.step.dom fun Q g => ⟨by rw [r1.length]; exact hl, fun p hp => g.lst p1.env.ext r1 hp⟩
theorem sd_cb {r : List V → Hp → VK → Prop} {op : List D → Option Rv} (hr : RCOk K r op) {t : TA} {fs : P (List Rv)} (hs : Sd K W (vax K) t fs) : Sd K W (VRel K) (tCB r t) (fCB op fs) := by
 intro σ C H ρ e
 show At K W (VRel K H) σ C H ρ (fun H Q => t σ H fun vs H1 => r vs H1 Q) (jd (fs ρ) fun rs => pks rs fun ds => P.of (op ds))
 refine At.bind (tk := fun vs H1 Q => r vs H1 Q) (hs σ C H ρ e) fun rs ρ1 vs C1 H1 p1 r1 => ?_
 refine At.pks fun ds q1 => At.pof fun rv q3 => ?_
 exact At.giv p1.env p1.step.dom fun Q g => hr C1 H1 p1.env.ext ds vs rv Q q3 (qa8 p1.env r1 q1) g
end
end PL
namespace PL
open PySem L2
abbrev rvI (i : Int) : Rv := .dat (.s (.int i))
abbrev rvB (b : Bool) : Rv := .dat (.s (.bl b))
abbrev rvS (x : Str) : Rv := .dat (.s (.str x))
section
variable {K : PySem.W.Frag} {C H : Hp}
theorem pk_s {x v : V} : Pk K C H (.s x) v ↔ v = x := show Is K C (.s x) v ↔ v = x from is_s_iff
theorem j4 {ds : List D} {v : V} (e : Ex C H) : Pk K C H (.tup ds) v → ∃ a xs, v = .ref a ∧ SqT K H a xs ∧ Iss K C ds xs := fun h => by
 obtain ⟨a, xs, h1, h2, h3⟩ := is_tup_iff.mp h
 exact ⟨a, xs, h1, ex_t e h2, h3⟩
theorem pk_ro {ds : List D} {v : V} (e : Ex C H) : Pk K C H (.ro ds) v → ∃ a xs, v = .ref a ∧ SqL K H a xs ∧ Iss K C ds xs := fun h => by
 obtain ⟨a, xs, h1, h2, h3⟩ := is_ro_iff.mp h
 exact ⟨a, xs, h1, ex_l e h2, h3⟩
theorem pk_obj {c : Addr} {fs : List (Str × D)} {v : V} (e : Ex C H) : Pk K C H (.obj c fs) v → ∃ a dx gs, v = .ref a ∧ H a = some (.ins c dx gs) ∧ Isf K C fs gs := fun h => h
def addD : D → D → Option Rv
 | .s (.int i), .s (.int j) => some (rvI (i + j))
 | .s (.str a), .s (.str b) => if a.length + b.length ≤ sizeLine then some (rvS (a ++ b)) else none
 | .lst a, .lst b => if a.length + b.length ≤ sizeLine then some (.new (.lst (a ++ b))) else none
 | .tup a, .tup b => if a.length + b.length ≤ sizeLine then some (.dat (.tup (a ++ b))) else none
 | _, _ => none
def rAddX (K : PySem.W.Frag) : R2 := fun x y H Q => rI0 (fun i j => .int (i + j)) x y H Q ∨ (∃ i j, x = .str i ∧ y = .str j ∧ i.length + j.length ≤ sizeLine ∧ Q (.str (i ++ j)) H) ∨ rCat x y H Q ∨ rCatA K x y H Q
theorem op_addX {X : Cx} : OpR X (binaryOp .Add) (rAddX X.K) := op_add.or (op_add_str.or (op_cat.or op_catA))
theorem ok_add : R2Ok K (rAddX K) addD := by
 intro C H e dx dy x y rv Q h hx hy g
 unfold addD at h
 split at h
 ·cases pk_s.mp hx; cases pk_s.mp hy; cases h
  exact .inl ⟨_, _, rfl, rfl, g.d e⟩
 ·cases pk_s.mp hx; cases pk_s.mp hy
  obtain ⟨h1, rfl⟩ := yc h
  exact .inr (.inl ⟨_, _, rfl, rfl, h1, g.d e⟩)
 ·obtain ⟨a, xs, rfl, h1, h2⟩ := hx
  obtain ⟨b, ys, rfl, h3, h4⟩ := hy
  obtain ⟨h5, rfl⟩ := yc h
  exact .inr (.inr (.inl ⟨a, b, xs, ys, rfl, rfl, h1, h3, by rw [h2.length, h4.length]; exact h5, fun p hp => g.lst e (h2.app h4) hp⟩))
 ·have hx0 := hx
  have hy0 := hy
  obtain ⟨a, xs, rfl, h1, h2⟩ := j4 e hx
  obtain ⟨b, ys, rfl, h3, h4⟩ := j4 e hy
  obtain ⟨h5, rfl⟩ := yc h
  rename_i p q
  refine .inr (.inr (.inr ⟨a, b, xs, ys, rfl, rfl, h1, h3, by rw [h2.length, h4.length]; exact h5, fun z => ?_, fun z1 z => ?_, fun z1 z2 p hp => g.tup e (h2.app h4) hp⟩))
  ·have e0 : p = [] := by
    cases p with
    | nil => rfl
    | cons u r => rw [z] at h2; obtain ⟨_, _, q, _⟩ := iss_cons_iff.mp h2; cases q
   subst e0
   exact g.same e hy0
  ·have e0 : q = [] := by
    cases q with
    | nil => rfl
    | cons u r => rw [z] at h4; obtain ⟨_, _, q, _⟩ := iss_cons_iff.mp h4; cases q
   subst e0
   rw [List.append_nil] at g
   exact g.same e hx0
 ·cases h
def subD : D → D → Option Rv
 | .s (.int i), .s (.int j) => some (rvI (i - j))
 | _, _ => none
theorem ok_sub : R2Ok K (rI0 fun i j => .int (i - j)) subD := by
 intro C H e dx dy x y rv Q h hx hy g
 unfold subD at h
 split at h
 ·cases pk_s.mp hx; cases pk_s.mp hy; cases h
  exact ⟨_, _, rfl, rfl, g.d e⟩
 ·cases h
def modD : D → D → Option Rv
 | .s (.int i), .s (.int j) => if 0 < j then some (rvI (i % j)) else none
 | _, _ => none
theorem ok_mod : R2Ok K (rI (fun _ j => 0 < j) fun i j => .int (i % j)) modD := by
 intro C H e dx dy x y rv Q h hx hy g
 unfold modD at h
 split at h
 ·cases pk_s.mp hx; cases pk_s.mp hy
  obtain ⟨h1, rfl⟩ := yc h
  exact ⟨_, _, rfl, rfl, h1, g.d e⟩
 ·cases h
def xbi : D → D → Option Rv
 | .s (.int i), .s (.int j) => if 0 < j ∧ j < 1073741824 then some (rvI (i / j)) else none
 | _, _ => none
theorem ok_fdiv : R2Ok K (rI CDiv fun i j => .int (i / j)) xbi := by
 intro C H e dx dy x y rv Q h hx hy g
 unfold xbi at h
 split at h
 ·cases pk_s.mp hx; cases pk_s.mp hy
  obtain ⟨h1, rfl⟩ := yc h
  exact ⟨_, _, rfl, rfl, h1, g.d e⟩
 ·cases h
def va6 (a : Str) (j : Int) : Bool := decide (0 ≤ j) && decide (j ≤ 1000) && decide (a.length ≤ 1000)
theorem mulOk_of {a : Str} {j : Int} (h : va6 a j = true) : PySem.MulOk a j := by
 unfold va6 at h
 simp only [Bool.and_eq_true, decide_eq_true_eq] at h
 obtain ⟨⟨h1, h2⟩, h3⟩ := h
 have e1 : decide (j < -(2 ^ 63 : Int)) = false := decide_eq_false (by omega)
 have e2 : decide (j ≥ 2 ^ 63) = false := decide_eq_false (by omega)
 refine ⟨by rw [e1, e2]; rfl, fun n1 _ => ?_, fun n1 _ => ?_⟩
 ·have p : 0 < j := by omega
  intro q
  have q2 := (Int.ediv_lt_iff_lt_mul p).mp q
  have q3 : (a.length : Int) * j ≤ 1000 * 1000 := Int.mul_le_mul (by omega) h2 (by omega) (by decide)
  omega
 ·unfold Builtin.Str.tooLong
  have a1 : a.length * j.toNat ≤ 1000 * 1000 := Nat.mul_le_mul h3 (by omega)
  rw [sizeLine_eq]
  exact decide_eq_false (by omega)
def ybm (i j : Int) : Bool := decide (i.natAbs < 18446744073709551616) || decide (j.natAbs < 18446744073709551616)
theorem bits64 {i : Int} (h : i.natAbs < 18446744073709551616) : Builtin.Int.intBits i ≤ 64 := by
 unfold Builtin.Int.intBits
 split
 ·omega
 ·have := (Nat.log2_lt (n := i.natAbs) (k := 64) (by rename_i q; simpa using q)).mpr (by simpa using h)
  omega
theorem mulIB_ok {i j : Int} (h : ybm i j = true) : PySem.IntMulOk i j := by
 unfold ybm at h
 rcases Bool.or_eq_true_iff.mp h with z | z
 ·exact PySem.IntMulOk.of_left (bits64 (of_decide_eq_true z))
 ·exact PySem.IntMulOk.of_right (bits64 (of_decide_eq_true z))
theorem op_mulI {X : Cx} : OpR X (binaryOp .Mult) (rI PySem.IntMulOk fun i j => .int (i * j)) := opI fun _ _ _ _ _ _ _ hc q => PySem.P.mul_int q hc
def mulD : D → D → Option Rv
 | .s (.int i), .s (.int j) => if ybm i j = true then some (rvI (i * j)) else none
 | .s (.str a), .s (.int j) => if va6 a j = true then some (rvS (Txt.mul a j)) else none
 | .tup ds, .s (.int j) => if ds ≠ [] ∧ 2 ≤ j ∧ j ≤ 1000 ∧ ds.length ≤ 1000 then some (.dat (.tup (List.replicate j.toNat ds).flatten)) else none
 | _, _ => none
theorem op_mul_str {X : Cx} : OpR X (binaryOp .Mult) (fun x y H Q => ∃ i j, x = .str i ∧ y = .int j ∧ PySem.MulOk i j ∧ Q (.str (Txt.mul i j)) H) := by
 intro pins s σ H x y v u Q I rx ry h
 obtain ⟨i, j, rfl, rfl, hz, q⟩ := h
 obtain ⟨t, rfl⟩ := rx
 obtain ⟨t', rfl⟩ := ry
 exact PySem.SB.mul hz fun t' k => ⟨.str (Txt.mul i j), H, I.tok _, ⟨_, rfl⟩, q⟩
def rMulX (K : PySem.W.Frag) : R2 := fun x y H Q => rI PySem.IntMulOk (fun i j => .int (i * j)) x y H Q ∨ (∃ i j, x = .str i ∧ y = .int j ∧ PySem.MulOk i j ∧ Q (.str (Txt.mul i j)) H) ∨ rRepT K x y H Q
theorem op_mulX {X : Cx} : OpR X (binaryOp .Mult) (rMulX X.K) := op_mulI.or (op_mul_str.or op_repT)
theorem Iss.flat {ds : List D} {xs : List V} (h : Iss K C ds xs) : ∀ n : Nat, Iss K C (List.replicate n ds).flatten (List.replicate n xs).flatten
 | 0 => kc
 | n + 1 => by
  rw [List.replicate_succ, List.replicate_succ, List.flatten_cons, List.flatten_cons]
  exact h.app (Iss.flat h n)
theorem ok_mul : R2Ok K (rMulX K) mulD := by
 intro C H e dx dy x y rv Q h hx hy g
 unfold mulD at h
 split at h
 ·cases pk_s.mp hx; cases pk_s.mp hy
  obtain ⟨h1, rfl⟩ := yc h
  exact .inl ⟨_, _, rfl, rfl, mulIB_ok h1, g.d e⟩
 ·cases pk_s.mp hx; cases pk_s.mp hy
  obtain ⟨h1, rfl⟩ := yc h
  exact .inr (.inl ⟨_, _, rfl, rfl, mulOk_of h1, g.d e⟩)
 ·cases pk_s.mp hy
  obtain ⟨⟨h0, h1, h2, h3⟩, rfl⟩ := yc h
  obtain ⟨a, xs, rfl, k1, k2⟩ := j4 e hx
  refine .inr (.inr ⟨a, _, xs, rfl, rfl, k1, fun z => ?_, h1, h2, by rw [k2.length]; exact h3, fun p hp => g.tup e (k2.flat _) hp⟩)
  rw [z] at k2
  have z2 := k2.length
  exact h0 (List.eq_nil_of_length_eq_zero z2.symm)
 ·cases h
def negD : D → Option Rv
 | .s (.int i) => some (rvI (-i))
 | _ => none
theorem ok_neg : R1Ok K (rU fun i => .int (-i)) negD := by
 intro C H e dx x rv Q h hx g
 unfold negD at h
 split at h
 ·cases pk_s.mp hx; cases h
  exact ⟨_, rfl, g.d e⟩
 ·cases h
mutual
def toPy : D → Option PyData
 | .s .non => some .none
 | .s (.bl b) => some (.bool b)
 | .s (.int i) => some (.int i)
 | .s (.str x) => some (.str x)
 | .s _ => none
 | .tup ds => match w6 ds with
  | some l => some (.tuple l)
  | none => none
 | .lst ds => match w6 ds with
  | some l => some (.list l)
  | none => none
 | .ro ds => match w6 ds with
  | some l => some (.list l)
  | none => none
 | .obj _ _ => none
 | .lam _ _ _ _ => none
 | .dic _ => none
 | .exc _ _ _ => none
def w6 : List D → Option (List PyData)
 | [] => some []
 | d :: ds => match toPy d with
  | none => none
  | some a => match w6 ds with
   | some l => some (a :: l)
   | none => none
end
mutual
theorem xar (e : Ex C H) : ∀ (d : D) (v : V) (a : PyData), toPy d = some a → Is K C d v → Dp K H v a
 | .s x, v, a, h, i => by
  cases is_s_iff.mp i
  cases x with
  | non => simp only [toPy] at h; cases h; exact .non
  | bl b => simp only [toPy] at h; cases h; exact .bl b
  | int k => simp only [toPy] at h; cases h; exact .int k
  | str x => simp only [toPy] at h; cases h; exact .str x
  | _ => simp only [toPy] at h; cases h
 | .tup ds, v, a, h, i => by
  obtain ⟨p, xs, rfl, h2, h3⟩ := is_tup_iff.mp i
  simp only [toPy] at h
  cases q : w6 ds with
  | none => rw [q] at h; cases h
  | some l => rw [q] at h; cases h; exact .tup (ex_t e h2) (jaa e ds xs l q h3)
 | .lst ds, v, a, h, i => by
  obtain ⟨p, xs, rfl, h2, h3⟩ := is_lst_iff.mp i
  simp only [toPy] at h
  cases q : w6 ds with
  | none => rw [q] at h; cases h
  | some l => rw [q] at h; cases h; exact .lst (SqL.of (e.1 _ _ h2 zk)) (jaa e ds xs l q h3)
 | .ro ds, v, a, h, i => by
  obtain ⟨p, xs, rfl, h2, h3⟩ := is_ro_iff.mp i
  simp only [toPy] at h
  cases q : w6 ds with
  | none => rw [q] at h; cases h
  | some l => rw [q] at h; cases h; exact .lst (ex_l e h2) (jaa e ds xs l q h3)
 | .obj c fs, v, a, h, i => by simp only [toPy] at h; cases h
 | .lam f c zs ks, v, a, h, i => by simp only [toPy] at h; cases h
 | .dic kvs, v, a, h, i => by simp only [toPy] at h; cases h
 | .exc c b fs, v, a, h, i => by simp only [toPy] at h; cases h
theorem jaa (e : Ex C H) : ∀ (ds : List D) (vs : List V) (as : List PyData), w6 ds = some as → Iss K C ds vs → DpAll K H vs as
 | [], vs, as, h, i => by
  rw [iss_nil_iff.mp i]
  simp only [w6] at h
  cases h
  exact .nil
 | d :: ds, vs, as, h, i => by
  obtain ⟨x, r, rfl, h2, h3⟩ := iss_cons_iff.mp i
  simp only [w6] at h
  cases q : toPy d with
  | none => rw [q] at h; cases h
  | some a =>
   cases q2 : w6 ds with
   | none => rw [q, q2] at h; cases h
   | some l =>
    rw [q, q2] at h
    cases h
    exact .cons (xar e d x a q h2) (jaa e ds r l q2 h3)
end
theorem xax {d : D} {v : V} {a : PyData} (e : Ex C H) (h : toPy d = some a) (i : Pk K C H d v) : Dp K H v a := by
 cases d with
 | lst ds =>
  obtain ⟨p, xs, rfl, h2, h3⟩ := i
  simp only [toPy] at h
  cases q : w6 ds with
  | none => rw [q] at h; cases h
  | some l => rw [q] at h; cases h; exact .lst (SqL.of h2) (jaa e ds xs l q h3)
 | s x => exact xar e _ v a h i
 | tup ds => exact xar e _ v a h i
 | ro ds => exact xar e _ v a h i
 | obj c fs => simp only [toPy] at h; cases h
 | lam f c zs ks => simp only [toPy] at h; cases h
 | dic kvs => simp only [toPy] at h; cases h
 | exc c b fs => simp only [toPy] at h; cases h
def eqB (x y : D) : Option Bool := match toPy x with
 | none => none
 | some a => match toPy y with
  | none => none
  | some b => if (SeqAt.shaped a && SeqAt.shaped b) = true then some (PyData.eqv a b) else none
def eqD (x y : D) : Option Rv := match eqB x y with
 | some b => some (rvB b)
 | none => none
def neD (x y : D) : Option Rv := match eqB x y with
 | some b => some (rvB (!b))
 | none => none
theorem eqB_some {x y : D} {b : Bool} (h : eqB x y = some b) : ∃ a c, toPy x = some a ∧ toPy y = some c ∧ SeqAt.shaped a = true ∧ SeqAt.shaped c = true ∧ PyData.eqv a c = b := by
 unfold eqB at h
 cases q1 : toPy x with
 | none => rw [q1] at h; cases h
 | some a =>
  cases q2 : toPy y with
  | none => rw [q1, q2] at h; cases h
  | some c =>
   rw [q1, q2] at h
   obtain ⟨h1, h2⟩ := yc h
   obtain ⟨h3, h4⟩ := Bool.and_eq_true_iff.mp h1
   exact ⟨a, c, rfl, rfl, h3, h4, h2⟩
theorem ok_eq : R2Ok K (rEqD K) eqD := by
 intro C H e dx dy x y rv Q h hx hy g
 unfold eqD at h
 cases q : eqB dx dy with
 | none => rw [q] at h; cases h
 | some b =>
  rw [q] at h; cases h
  obtain ⟨a, c, h1, h2, h3, h4, rfl⟩ := eqB_some q
  exact ⟨a, c, xax e h1 hx, xax e h2 hy, h3, h4, g.d e⟩
theorem ok_ne : R2Ok K (rNeD K) neD := by
 intro C H e dx dy x y rv Q h hx hy g
 unfold neD at h
 cases q : eqB dx dy with
 | none => rw [q] at h; cases h
 | some b =>
  rw [q] at h; cases h
  obtain ⟨a, c, h1, h2, h3, h4, rfl⟩ := eqB_some q
  exact ⟨a, c, xax e h1 hx, xax e h2 hy, h3, h4, g.d e⟩
def strLt (a b : Str) : Bool := decide (a.cps.toList < b.cps.toList)
def leD : D → D → Option Rv
 | .s (.int i), .s (.int j) => some (rvB (decide (i ≤ j)))
 | _, _ => none
def gtD : D → D → Option Rv
 | .s (.int i), .s (.int j) => some (rvB (decide (j < i)))
 | _, _ => none
def geD : D → D → Option Rv
 | .s (.int i), .s (.int j) => some (rvB (decide (j ≤ i)))
 | _, _ => none
def rLtX : R2 := fun x y H Q => rI0 (fun i j => .bl (decide (i < j))) x y H Q ∨ (∃ i j, x = .str i ∧ y = .str j ∧ Q (.bl (decide (i.cps.toList < j.cps.toList))) H)
theorem op_ltX {X : Cx} : OpR X (compareOp .Lt) rLtX := op_lt.or op_lt_str
theorem ok_le : R2Ok K (rI0 fun i j => .bl (decide (i ≤ j))) leD := by
 intro C H e dx dy x y rv Q h hx hy g
 unfold leD at h
 split at h
 ·cases pk_s.mp hx; cases pk_s.mp hy; cases h
  exact ⟨_, _, rfl, rfl, g.d e⟩
 ·cases h
theorem ok_gt : R2Ok K (rI0 fun i j => .bl (decide (j < i))) gtD := by
 intro C H e dx dy x y rv Q h hx hy g
 unfold gtD at h
 split at h
 ·cases pk_s.mp hx; cases pk_s.mp hy; cases h
  exact ⟨_, _, rfl, rfl, g.d e⟩
 ·cases h
theorem ok_ge : R2Ok K (rI0 fun i j => .bl (decide (j ≤ i))) geD := by
 intro C H e dx dy x y rv Q h hx hy g
 unfold geD at h
 split at h
 ·cases pk_s.mp hx; cases pk_s.mp hy; cases h
  exact ⟨_, _, rfl, rfl, g.d e⟩
 ·cases h
def isNone : D → Bool
 | .s .non => true
 | _ => false
theorem vaz {d : D} {v : V} (h : Pk K C H d v) : decide (v = .non) = isNone d := by
 cases d with
 | s x =>
  have q := pk_s.mp h
  subst q
  cases v <;> simp [isNone]
 | tup ds => obtain ⟨a, xs, rfl, _⟩ := is_tup_iff.mp h; simp [isNone]
 | lst ds => obtain ⟨a, xs, rfl, _⟩ := h; simp [isNone]
 | ro ds => obtain ⟨a, xs, rfl, _⟩ := is_ro_iff.mp h; simp [isNone]
 | obj c fs => obtain ⟨a, dx, gs, rfl, _⟩ := h; simp [isNone]
 | lam f c zs ks => obtain ⟨rfl, _⟩ := is_lam_iff.mp (show Is K C (.lam f c zs ks) v from h); simp [isNone]
 | dic kvs => obtain ⟨a, _, xs, rfl, _⟩ := is_dic_iff.mp (show Is K C (.dic kvs) v from h); simp [isNone]
 | exc c b fs => obtain ⟨_, a, d, gs, rfl, _⟩ := is_exc_iff.mp (show Is K C (.exc c b fs) v from h); simp [isNone]
def isD (x y : D) : Option Rv := match y with
 | .s .non => some (rvB (isNone x))
 | .s (.bl b) => match x with
  | .s (.bl a) => some (rvB (decide (a = b)))
  | _ => none
 | _ => none
def kaz (x y : D) : Option Rv := match y with
 | .s .non => some (rvB (!isNone x))
 | .s (.bl b) => match x with
  | .s (.bl a) => some (rvB (!decide (a = b)))
  | _ => none
 | _ => none
def rIsX : R2 := fun x y H Q => (y = .non ∧ Q (.bl (decide (x = .non))) H) ∨ rIsB x y H Q
def rIsNotX : R2 := fun x y H Q => (y = .non ∧ Q (.bl (!decide (x = .non))) H) ∨ rNotB x y H Q
theorem op_isX {X : Cx} : OpR X (compareOp .Is) rIsX := op_isN.or op_isBl
theorem op_isNotX {X : Cx} : OpR X (compareOp .IsNot) rIsNotX := op_notN.or op_notBl
theorem ok_is : R2Ok K rIsX isD := by
 intro C H e dx dy x y rv Q h hx hy g
 unfold isD at h
 split at h
 ·cases pk_s.mp hy; cases h
  exact .inl ⟨rfl, by rw [vaz hx]; exact g.d e⟩
 ·split at h
  ·cases pk_s.mp hx; cases pk_s.mp hy; cases h
   exact .inr ⟨_, _, rfl, rfl, g.d e⟩
  ·cases h
 ·cases h
theorem ok_isNot : R2Ok K rIsNotX kaz := by
 intro C H e dx dy x y rv Q h hx hy g
 unfold kaz at h
 split at h
 ·cases pk_s.mp hy; cases h
  exact .inl ⟨rfl, by rw [vaz hx]; exact g.d e⟩
 ·split at h
  ·cases pk_s.mp hx; cases pk_s.mp hy; cases h
   exact .inr ⟨_, _, rfl, rfl, g.d e⟩
  ·cases h
 ·cases h
def flatD : D → Bool
 | .s x => flatV x
 | _ => false
def sV : D → V
 | .s x => x
 | _ => .non
def items : D → Option (List D)
 | .tup ds => some ds
 | .lst ds => some ds
 | .ro ds => some ds
 | _ => none
theorem wbb : ∀ {ds : List D} {xs : List V}, Iss K C ds xs → ds.all flatD = true → xs = ds.map sV ∧ xs.all flatV = true
 | [], xs, h, f => by rw [iss_nil_iff.mp h]; exact ⟨rfl, rfl⟩
 | d :: ds, xs, h, f => by
  obtain ⟨x, r, rfl, h2, h3⟩ := iss_cons_iff.mp h
  rw [List.all_cons, Bool.and_eq_true] at f
  obtain ⟨e1, e2⟩ := wbb h3 f.2
  cases d with
  | s y =>
   cases is_s_iff.mp h2
   refine ⟨by rw [List.map_cons, ← e1]; rfl, ?_⟩
   rw [List.all_cons, e2, Bool.and_true]
   exact f.1
  | _ => cases f.1
def kai (x : D) (ds : List D) : Option Bool := if (flatD x && ds.all flatD) = true then some (inV (sV x) (ds.map sV)) else none
def inB : D → D → Option Bool
 | .s (.str a), .s (.str z) => if a.length = 1 then some (decide (a.cps.getD 0 0 ∈ z.cps.toList)) else some (!(Builtin.Str.occurrences z a 0 z.length 1).isEmpty)
 | x, y => match items y with
  | some ds => kai x ds
  | none => none
def inD (x y : D) : Option Rv := match inB x y with
 | some b => some (rvB b)
 | none => none
def xbh (x y : D) : Option Rv := match inB x y with
 | some b => some (rvB (!b))
 | none => none
theorem kac {d : D} {v : V} {ds : List D} (e : Ex C H) (h : items d = some ds) (i : Pk K C H d v) : ∃ p xs, v = .ref p ∧ (SqL K H p xs ∨ SqT K H p xs) ∧ Iss K C ds xs := by
 cases d with
 | tup es =>
  cases h
  obtain ⟨a, xs, rfl, h1, h2⟩ := j4 e i
  exact ⟨a, xs, rfl, .inr h1, h2⟩
 | lst es =>
  cases h
  obtain ⟨a, xs, rfl, h1, h2⟩ := i
  exact ⟨a, xs, rfl, .inl (SqL.of h1), h2⟩
 | ro es =>
  cases h
  obtain ⟨a, xs, rfl, h1, h2⟩ := pk_ro e i
  exact ⟨a, xs, rfl, .inl h1, h2⟩
 | s x => cases h
 | obj c fs => cases h
 | lam f c zs ks => cases h
 | dic kvs => cases h
 | exc c b fs => cases h
def rInX (K : PySem.W.Frag) : R2 := fun x y H Q => (∃ i j, x = .str i ∧ y = .str j ∧ Q (.bl (!(Builtin.Str.occurrences j i 0 j.length 1).isEmpty)) H) ∨ (∃ (c : Nat) (z : Str), x = .str ⟨#[c]⟩ ∧ y = .str z ∧ Q (.bl (decide (c ∈ z.cps.toList))) H) ∨ rIn K false x y H Q
def rNotInX (K : PySem.W.Frag) : R2 := fun x y H Q => (∃ i j, x = .str i ∧ y = .str j ∧ Q (.bl (!(!(Builtin.Str.occurrences j i 0 j.length 1).isEmpty))) H) ∨ (∃ (c : Nat) (z : Str), x = .str ⟨#[c]⟩ ∧ y = .str z ∧ Q (.bl (!decide (c ∈ z.cps.toList))) H) ∨ rIn K true x y H Q
theorem op_inX {X : Cx} : OpR X (compareOp .In) (rInX X.K) := op_in_str.or (op_in_sign.or op_in_seq)
theorem op_notInX {X : Cx} : OpR X (compareOp .NotIn) (rNotInX X.K) := L2.op_notIn_str.or (op_notIn_sign.or op_notIn_seq)
theorem one_sign {a : Str} (h : a.length = 1) : a = ⟨#[a.cps.getD 0 0]⟩ := by
 obtain ⟨⟨l⟩⟩ := a
 match l, h with
 | [c], _ => rfl
theorem in_cases {dx dy : D} {b : Bool} (h : inB dx dy = some b) :
  (∃ a z, dx = .s (.str a) ∧ dy = .s (.str z) ∧ ((∃ c, a = ⟨#[c]⟩ ∧ b = decide (c ∈ z.cps.toList)) ∨ b = !(Builtin.Str.occurrences z a 0 z.length 1).isEmpty)) ∨
  (∃ ds, items dy = some ds ∧ kai dx ds = some b) := by
 unfold inB at h
 split at h
 ·rename_i a z
  refine .inl ⟨a, z, rfl, rfl, ?_⟩
  by_cases h1 : a.length = 1
  ·rw [if_pos h1] at h
   exact .inl ⟨_, one_sign h1, (Option.some.inj h).symm⟩
  ·rw [if_neg h1] at h
   exact .inr (Option.some.inj h).symm
 ·rename_i x y hne
  cases q : items dy with
  | none => rw [q] at h; cases h
  | some ds => rw [q] at h; exact .inr ⟨ds, rfl, h⟩
theorem jat {dx : D} {ds : List D} {b : Bool} (h : kai dx ds = some b) : ∃ x, dx = .s x ∧ flatV x = true ∧ ds.all flatD = true ∧ b = inV x (ds.map sV) := by
 unfold kai at h
 obtain ⟨h1, h2⟩ := yc h
 obtain ⟨h3, h4⟩ := Bool.and_eq_true_iff.mp h1
 cases dx with
 | s x => exact ⟨x, rfl, h3, h4, h2.symm⟩
 | _ => cases h3
theorem ok_in : R2Ok K (rInX K) inD := by
 intro C H e dx dy x y rv Q h hx hy g
 unfold inD at h
 cases q : inB dx dy with
 | none => rw [q] at h; cases h
 | some b =>
  rw [q] at h; cases h
  rcases in_cases q with ⟨a, z, rfl, rfl, ⟨c, rfl, rfl⟩ | rfl⟩ | ⟨ds, h1, h2⟩
  ·cases pk_s.mp hx; cases pk_s.mp hy
   exact .inr (.inl ⟨c, z, rfl, rfl, g.d e⟩)
  ·cases pk_s.mp hx; cases pk_s.mp hy
   exact .inl ⟨a, z, rfl, rfl, g.d e⟩
  ·obtain ⟨w, rfl, h3, h4, rfl⟩ := jat h2
   cases pk_s.mp hx
   obtain ⟨p, xs, rfl, h5, h6⟩ := kac e h1 hy
   obtain ⟨rfl, h7⟩ := wbb h6 h4
   exact .inr (.inr ⟨p, _, rfl, h5, h3, h7, g.d e⟩)
theorem ok_notIn : R2Ok K (rNotInX K) xbh := by
 intro C H e dx dy x y rv Q h hx hy g
 unfold xbh at h
 cases q : inB dx dy with
 | none => rw [q] at h; cases h
 | some b =>
  rw [q] at h; cases h
  rcases in_cases q with ⟨a, z, rfl, rfl, ⟨c, rfl, rfl⟩ | rfl⟩ | ⟨ds, h1, h2⟩
  ·cases pk_s.mp hx; cases pk_s.mp hy
   exact .inr (.inl ⟨c, z, rfl, rfl, g.d e⟩)
  ·cases pk_s.mp hx; cases pk_s.mp hy
   exact .inl ⟨a, z, rfl, rfl, g.d e⟩
  ·obtain ⟨w, rfl, h3, h4, rfl⟩ := jat h2
   cases pk_s.mp hx
   obtain ⟨p, xs, rfl, h5, h6⟩ := kac e h1 hy
   obtain ⟨rfl, h7⟩ := wbb h6 h4
   exact .inr (.inr ⟨p, _, rfl, h5, h3, h7, g.d e⟩)
def ixD : D → D → Option Rv
 | .s (.str z), .s (.int i) => if z.length ≤ sizeLine then (match atI z.cps.toList i with
  | some c => some (rvS ⟨#[c]⟩)
  | none => none) else none
 | x, .s (.int i) => match items x with
  | some ds => match atI ds i with
   | some d => some (.dat d)
   | none => none
  | none => none
 | _, _ => none
theorem Iss.atI {ds : List D} {xs : List V} {i : Int} {d : D} (h : Iss K C ds xs) (e : L2.atI ds i = some d) : ∃ x, L2.atI xs i = some x ∧ Is K C d x := by
 unfold L2.atI at e ⊢
 rw [h.length]
 cases q : ixN ds.length i with
 | none => rw [q] at e; cases e
 | some j => rw [q] at e; exact h.get e
theorem ok_ix : R2Ok K (rIx K) ixD := by
 intro C H e dx dy x y rv Q h hx hy g
 unfold ixD at h
 split at h
 ·cases pk_s.mp hx; cases pk_s.mp hy
  rename_i z i
  by_cases hz : z.length ≤ sizeLine
  ·rw [if_pos hz] at h
   cases q : L2.atI z.cps.toList i with
   | none => rw [q] at h; cases h
   | some c => rw [q] at h; cases h; exact .inr (.inr ⟨z, i, c, rfl, rfl, hz, q, g.d e⟩)
  ·rw [if_neg hz] at h; cases h
 ·cases pk_s.mp hy
  cases q : items dx with
  | none => rw [q] at h; cases h
  | some ds =>
   rw [q] at h
   dsimp only at h
   rename_i i _
   cases q2 : L2.atI ds i with
   | none => rw [q2] at h; cases h
   | some d =>
    rw [q2] at h
    cases h
    obtain ⟨p, xs, rfl, h5, h6⟩ := kac e q hx
    obtain ⟨w, h7, h8⟩ := h6.atI q2
    rcases h5 with h5 | h5
    ·exact .inl ⟨p, xs, i, w, rfl, rfl, h5, h7, g.same e h8⟩
    ·exact .inr (.inl ⟨p, xs, i, w, rfl, rfl, h5, h7, g.same e h8⟩)
 ·cases h
def cutG {α : Type} (xs : List α) (lo hi : Option Int) : List α := (xs.drop (HT.sIx xs.length 0 lo)).take (HT.sIx xs.length xs.length hi - HT.sIx xs.length 0 lo)
theorem Iss.cut {ds : List D} {xs : List V} (h : Iss K C ds xs) (lo hi : Option Int) : Iss K C (cutG ds lo hi) (cutV xs lo hi) := by
 unfold cutG cutV
 rw [h.length]
 exact (h.drop _).take _
def slD : D → Option Int → Option Int → Option Rv
 | .s (.str z), lo, hi => if z.length ≤ sizeLine then some (rvS (cutS z lo hi)) else none
 | .tup ds, lo, hi => some (.dat (.tup (cutG ds lo hi)))
 | .lst ds, lo, hi => some (.new (.lst (cutG ds lo hi)))
 | .ro ds, lo, hi => some (.new (.lst (cutG ds lo hi)))
 | _, _, _ => none
def rSlX (K : PySem.W.Frag) : V → Option Int → Option Int → Hp → VK → Prop := fun x lo hi H Q => rSlS x lo hi H Q ∨ rSlA K x lo hi H Q ∨ rSlL K x lo hi H Q
theorem sl_X {X : Cx} : SlR X (rSlX X.K) := sl_str.or (sl_tupA.or sl_list)
theorem ok_sl {C H : Hp} (e : Ex C H) {dx : D} {x : V} {lo hi : Option Int} {rv : Rv} {Q : VK} (h : slD dx lo hi = some rv) (hx : Pk K C H dx x) (g : Giv K C H rv Q) : rSlX K x lo hi H Q := by
 cases dx with
 | s y =>
  cases pk_s.mp hx
  cases x with
  | str z =>
   obtain ⟨h1, rfl⟩ := yc (show (if z.length ≤ sizeLine then some (rvS (cutS z lo hi)) else none) = some rv from h)
   exact .inl ⟨_, rfl, h1, g.d e⟩
  | _ => cases h
 | tup ds =>
  cases h
  have hx0 := hx
  obtain ⟨a, xs, rfl, h1, h2⟩ := j4 e hx
  refine .inr (.inl ⟨a, xs, rfl, h1, fun ⟨z1, z2⟩ => ?_, fun _ p hp => g.tup e (h2.cut lo hi) hp⟩)
  have q : cutG ds lo hi = ds := by
   unfold cutG
   rw [← h2.length, z1, z2, List.drop_zero, Nat.sub_zero, h2.length, List.take_length]
  rw [q] at g
  exact g.same e hx0
 | lst ds =>
  cases h
  obtain ⟨a, xs, rfl, h1, h2⟩ := hx
  exact .inr (.inr ⟨a, xs, rfl, SqL.of h1, fun p hp => g.lst e (h2.cut lo hi) hp⟩)
 | ro ds =>
  cases h
  obtain ⟨a, xs, rfl, h1, h2⟩ := pk_ro e hx
  exact .inr (.inr ⟨a, xs, rfl, h1, fun p hp => g.lst e (h2.cut lo hi) hp⟩)
 | obj c fs => cases h
 | lam f c zs ks => cases h
 | dic kvs => cases h
 | exc c b fs => cases h
end
end PL
namespace PL
open PySem L2
def asB (r : Rv) : P Bool := fun ρ => match peek ρ r with
 | some (.s (.bl b)) => some (.ok b ρ)
 | _ => none
def yd (f : P Rv) : P Bool := f.bind asB
def fAnd (g h : P Bool) : P Bool := g.bind fun b => if b = true then h else P.ret false
def fOr (g h : P Bool) : P Bool := g.bind fun b => if b = true then P.ret true else h
def fNot (g : P Bool) : P Bool := g.bind fun b => P.ret (!b)
def v7 (f g : P Rv) : P Rv := (yd f).bind fun b => if b = true then g else P.ret (rvB false)
def fOrV (f g : P Rv) : P Rv := (yd f).bind fun b => if b = true then P.ret (rvB true) else g
def fNotV (f : P Rv) : P Rv := (yd f).bind fun b => P.ret (rvB (!b))
def fIf (g : P Bool) (fa fb : P Rv) : P Rv := g.bind fun b => if b = true then fa else fb
def vat (op op' : D → D → Option Rv) (fa fb fc : P Rv) : P Rv := fa.bind fun ra => fb.bind fun rb => (pk1 ra fun da => pk1 rb fun db => P.of (op da db)).bind fun z => (asB z).bind fun k =>
 if k = true then fc.bind fun rc => pk1 rb fun db => pk1 rc fun dc => P.of (op' db dc) else P.ret (rvB false)
section
variable {K : PySem.W.Frag} {W : WX} {σ : Sl} {C H : Hp} {ρ : En}
theorem At.asB {α' α : Type} {Rb : Rel α' α} {H0 : Hp} {v : V} {r : Rv} {k : Bool → P α} {t : Rd1 α'} (e : EnvOk K C H σ ρ) (h : VOk K H0 C H σ ρ v r)
  (hk : ∀ b, v = .bl b → At K W Rb σ C H ρ t (k b ρ)) : At K W Rb σ C H ρ t (((PL.asB r).bind k) ρ) := by
 show At K W Rb σ C H ρ t (jd (PL.asB r ρ) k)
 unfold PL.asB
 cases q : peek ρ r with
 | none => exact At.nil
 | some d =>
  cases d with
  | s x =>
   cases x with
   | bl b => exact hk b (pk_s.mp (kf e h q))
   | _ => exact At.nil
  | _ => exact At.nil
end
section
variable {K : PySem.W.Frag} {W : WX} {ta tb tc : TE} {tt tu : TT} {fa fb fc : P Rv} {g h : P Bool}
theorem vaf (ha : Sd K W (VRel K) ta fa) : Sd K W BRel (tTest ta) (yd fa) := by
 intro σ C H ρ e
 show At K W (BRel H) σ C H ρ (fun H Q => ta σ H fun x H1 => ∃ k, x = .bl k ∧ Q k H1) (jd (fa ρ) asB)
 refine At.bind (tk := fun (x : V) (H1 : Hp) (Q : Bool → Hp → Prop) => ∃ k, x = .bl k ∧ Q k H1) (ha σ C H ρ e) fun ra ρ1 x C1 H1 p1 r1 => ?_
 unfold asB
 cases q : peek ρ1 ra with
 | none => exact At.nil
 | some d =>
  cases d with
  | s y =>
   cases y with
   | bl b => exact At.imp (At.ret (R := BRel H) (v := b) p1.env rfl) fun Q h => ⟨b, pk_s.mp (kf p1.env r1 q), h⟩
   | _ => exact At.nil
  | _ => exact At.nil
theorem sd_tb (ha : Sd K W (VRel K) ta fa) : Sd K W BRel (tB ta) (yd fa) := vaf ha
theorem sd_and (ha : Sd K W BRel tt g) (hb : Sd K W BRel tu h) : Sd K W BRel (tAnd tt tu) (fAnd g h) := by
 intro σ C H ρ e
 show At K W (BRel H) σ C H ρ (fun H Q => tt σ H fun c H1 => if c = true then tu σ H1 Q else Q false H1) (jd (g ρ) fun b => if b = true then h else P.ret false)
 refine At.bind (tk := fun (c : Bool) (H1 : Hp) (Q : Bool → Hp → Prop) => if c = true then tu σ H1 Q else Q false H1) (ha σ C H ρ e) fun b ρ1 x C1 H1 p1 r1 => ?_
 have r1 : x = b := r1
 subst r1
 cases x with
 | true => exact hb σ C1 H1 ρ1 p1.env
 | false => exact At.ret (R := BRel H) (v := false) p1.env rfl
theorem sd_or (ha : Sd K W BRel tt g) (hb : Sd K W BRel tu h) : Sd K W BRel (tOr tt tu) (fOr g h) := by
 intro σ C H ρ e
 show At K W (BRel H) σ C H ρ (fun H Q => tt σ H fun c H1 => if c = true then Q true H1 else tu σ H1 Q) (jd (g ρ) fun b => if b = true then P.ret true else h)
 refine At.bind (tk := fun (c : Bool) (H1 : Hp) (Q : Bool → Hp → Prop) => if c = true then Q true H1 else tu σ H1 Q) (ha σ C H ρ e) fun b ρ1 x C1 H1 p1 r1 => ?_
 have r1 : x = b := r1
 subst r1
 cases x with
 | false => exact hb σ C1 H1 ρ1 p1.env
 | true => exact At.ret (R := BRel H) (v := true) p1.env rfl
theorem sd_not (ha : Sd K W BRel tt g) : Sd K W BRel (tNot tt) (fNot g) := by
 intro σ C H ρ e
 show At K W (BRel H) σ C H ρ (fun H Q => tt σ H fun c H1 => Q (!c) H1) (jd (g ρ) fun b => P.ret (!b))
 refine At.bind (tk := fun (c : Bool) (H1 : Hp) (Q : Bool → Hp → Prop) => Q (!c) H1) (ha σ C H ρ e) fun b ρ1 x C1 H1 p1 r1 => ?_
 have r1 : x = b := r1
 subst r1
 exact At.ret (R := BRel H) (v := !x) p1.env rfl
theorem sd_andV (ha : Sd K W (VRel K) ta fa) (hb : Sd K W (VRel K) tb fb) : Sd K W (VRel K) (tAndV ta tb) (v7 fa fb) := by
 intro σ C H ρ e
 have e1 := vaf ha σ C H ρ e
 show At K W (VRel K H) σ C H ρ (fun H Q => ta σ H fun x H1 => ∃ c, x = .bl c ∧ if c = true then tb σ H1 Q else Q (.bl false) H1) (jd (yd fa ρ) fun b => if b = true then fb else P.ret (rvB false))
 refine At.bind (Rb := VRel K H) (tk := fun (c : Bool) (H1 : Hp) (Q : VK) => if c = true then tb σ H1 Q else Q (.bl false) H1) e1 fun b ρ1 x C1 H1 p1 r1 => ?_
 have r1 : x = b := r1
 subst r1
 cases x with
 | true => exact fun out Q ho hok hex => hb σ C1 H1 ρ1 p1.env out Q ho (fun a ρ' e2 v C' H' p2 r2 => hok a ρ' e2 v C' H' p2 (VOk.back r2 p1.step.dom)) hex
 | false => exact At.ret (R := VRel K H) (v := .bl false) p1.env (show Is K C1 (.s (.bl false)) _ from is_s)
theorem sd_orV (ha : Sd K W (VRel K) ta fa) (hb : Sd K W (VRel K) tb fb) : Sd K W (VRel K) (tOrV ta tb) (fOrV fa fb) := by
 intro σ C H ρ e
 have e1 := vaf ha σ C H ρ e
 show At K W (VRel K H) σ C H ρ (fun H Q => ta σ H fun x H1 => ∃ c, x = .bl c ∧ if c = true then Q (.bl true) H1 else tb σ H1 Q) (jd (yd fa ρ) fun b => if b = true then P.ret (rvB true) else fb)
 refine At.bind (Rb := VRel K H) (tk := fun (c : Bool) (H1 : Hp) (Q : VK) => if c = true then Q (.bl true) H1 else tb σ H1 Q) e1 fun b ρ1 x C1 H1 p1 r1 => ?_
 have r1 : x = b := r1
 subst r1
 cases x with
 | false => exact fun out Q ho hok hex => hb σ C1 H1 ρ1 p1.env out Q ho (fun a ρ' e2 v C' H' p2 r2 => hok a ρ' e2 v C' H' p2 (VOk.back r2 p1.step.dom)) hex
 | true => exact At.ret (R := VRel K H) (v := .bl true) p1.env (show Is K C1 (.s (.bl true)) _ from is_s)
theorem sd_notV (ha : Sd K W (VRel K) ta fa) : Sd K W (VRel K) (tNotV ta) (fNotV fa) := by
 intro σ C H ρ e
 have e1 := vaf ha σ C H ρ e
 show At K W (VRel K H) σ C H ρ (fun H Q => ta σ H fun x H1 => ∃ c, x = .bl c ∧ Q (.bl (!c)) H1) (jd (yd fa ρ) fun b => P.ret (rvB (!b)))
 refine At.bind (Rb := VRel K H) (tk := fun (c : Bool) (H1 : Hp) (Q : VK) => Q (.bl (!c)) H1) e1 fun b ρ1 x C1 H1 p1 r1 => ?_
 have r1 : x = b := r1
 subst r1
 exact At.ret (R := VRel K H) (v := .bl (!x)) p1.env (show Is K C1 (.s (.bl (!x))) _ from is_s)
theorem sd_if (hg : Sd K W BRel tt g) (ha : Sd K W (VRel K) ta fa) (hb : Sd K W (VRel K) tb fb) : Sd K W (VRel K) (tIf tt ta tb) (fIf g fa fb) := by
 intro σ C H ρ e
 show At K W (VRel K H) σ C H ρ (fun H Q => tt σ H fun c H1 => if c = true then ta σ H1 Q else tb σ H1 Q) (jd (g ρ) fun b => if b = true then fa else fb)
 refine At.bind (Rb := VRel K H) (tk := fun (c : Bool) (H1 : Hp) (Q : VK) => if c = true then ta σ H1 Q else tb σ H1 Q) (hg σ C H ρ e) fun b ρ1 x C1 H1 p1 r1 => ?_
 have r1 : x = b := r1
 subst r1
 cases x with
 | true => exact fun out Q ho hok hex => ha σ C1 H1 ρ1 p1.env out Q ho (fun a ρ' e2 v C' H' p2 r2 => hok a ρ' e2 v C' H' p2 (VOk.back r2 p1.step.dom)) hex
 | false => exact fun out Q ho hok hex => hb σ C1 H1 ρ1 p1.env out Q ho (fun a ρ' e2 v C' H' p2 r2 => hok a ρ' e2 v C' H' p2 (VOk.back r2 p1.step.dom)) hex
theorem sd_chain {r r' : R2} {op op' : D → D → Option Rv} (hr : R2Ok K r op) (hr' : R2Ok K r' op') (ha : Sd K W (VRel K) ta fa) (hb : Sd K W (VRel K) tb fb) (hc : Sd K W (VRel K) tc fc) :
  Sd K W (VRel K) (tChain r r' ta tb tc) (vat op op' fa fb fc) := by
 intro σ C H ρ e
 show At K W (VRel K H) σ C H ρ (fun H Q => ta σ H fun x H1 => tb σ H1 fun y H2 => r x y H2 fun z H3 => ∃ k, z = .bl k ∧ (if k = true then tc σ H3 fun w' H4 => r' y w' H4 Q else Q (.bl false) H3))
  (jd (fa ρ) fun ra => fb.bind fun rb => (pk1 ra fun da => pk1 rb fun db => P.of (op da db)).bind fun z => (asB z).bind fun k =>
   if k = true then fc.bind fun rc => pk1 rb fun db => pk1 rc fun dc => P.of (op' db dc) else P.ret (rvB false))
 refine At.bind (tk := fun (x : V) (H1 : Hp) (Q : VK) => tb σ H1 fun y H2 => r x y H2 fun z H3 => ∃ k, z = .bl k ∧ (if k = true then tc σ H3 fun w' H4 => r' y w' H4 Q else Q (.bl false) H3)) (ha σ C H ρ e) fun ra ρ1 x C1 H1 p1 r1 => ?_
 refine At.bind (tk := fun (y : V) (H2 : Hp) (Q : VK) => r x y H2 fun z H3 => ∃ k, z = .bl k ∧ (if k = true then tc σ H3 fun w' H4 => r' y w' H4 Q else Q (.bl false) H3)) (hb σ C1 H1 ρ1 p1.env) fun rb ρ2 y C2 H2 p2 r2 => ?_
 have r1' := VOk.mono r1 p1.env p2
 have first : At K W (VRel K H2) σ C2 H2 ρ2 (fun H Q => r x y H Q) ((pk1 ra fun da => pk1 rb fun db => P.of (op da db)) ρ2) := by
  refine At.pk1 fun da q1 => At.pk1 fun db q2 => At.pof fun rv q3 => ?_
  exact At.giv p2.env (fun b h => h) fun Q g => hr C2 H2 p2.env.ext da db x y rv Q q3 (kf p2.env r1' q1) (kf p2.env r2 q2) g
 refine At.bind (tk := fun (z : V) (H3 : Hp) (Q : VK) => ∃ k, z = .bl k ∧ (if k = true then tc σ H3 fun w' H4 => r' y w' H4 Q else Q (.bl false) H3)) first fun z ρ3 zv C3 H3 p3 r3 => ?_
 refine At.asB p3.env r3 fun b eb => ?_
 subst eb
 cases b with
 | false => exact At.imp (At.ret (R := VRel K H) (v := .bl false) p3.env (show Is K C3 (.s (.bl false)) _ from is_s)) fun Q h => ⟨false, rfl, h⟩
 | true =>
  refine At.imp (t := fun H3 Q => tc σ H3 fun w' H4 => r' y w' H4 Q) ?_ fun Q h => ⟨true, rfl, h⟩
  refine At.bind (tk := fun (w' : V) (H4 : Hp) (Q : VK) => r' y w' H4 Q) (hc σ C3 H3 ρ3 p3.env) fun rc ρ4 w' C4 H4 p4 r4 => ?_
  have r2' := VOk.mono (VOk.mono r2 p2.env p3) p3.env p4
  refine At.pk1 fun db q1 => At.pk1 fun dc q2 => At.pof fun rv q3 => ?_
  exact At.giv p4.env (fun b h => p1.step.dom b (p2.step.dom b (p3.step.dom b (p4.step.dom b h)))) fun Q g => hr' C4 H4 p4.env.ext db dc y w' rv Q q3 (kf p4.env r2' q1) (kf p4.env r4 q2) g
end
section
variable {K : PySem.W.Frag} {C H : Hp}
theorem pks1 {d : D} {ds : List D} {vs : List V} (h : Pks K C H (d :: ds) vs) : ∃ v r, vs = v :: r ∧ Pk K C H d v ∧ Pks K C H ds r := by
 cases h with
 | cons h t => exact ⟨_, _, rfl, h, t⟩
theorem pks0 {vs : List V} (h : Pks K C H [] vs) : vs = [] := by cases h; rfl
def lenD : List D → Option Rv
 | [.s (.str y)] => if y.length ≤ sizeLine then some (rvI y.length) else none
 | [d] => match items d with
  | some ds => some (rvI ds.length)
  | none => none
 | _ => none
def rLenX (K : PySem.W.Frag) : List V → Hp → VK → Prop := fun xs H Q => ∃ x n, xs = [x] ∧ LenV K x H n ∧ Q (.int n) H
theorem ok_len : RCOk K (rLenX K) lenD := by
 intro C H e ds vs rv Q h hs g
 unfold lenD at h
 split at h
 ·obtain ⟨v, r, rfl, h1, h2⟩ := pks1 hs
  cases pks0 h2
  cases pk_s.mp h1
  obtain ⟨h3, rfl⟩ := yc h
  exact ⟨_, _, rfl, ⟨h3, rfl⟩, g.d e⟩
 ·obtain ⟨v, r, rfl, h1, h2⟩ := pks1 hs
  cases pks0 h2
  rename_i d _
  cases q : items d with
  | none => rw [q] at h; cases h
  | some es =>
   rw [q] at h; cases h
   obtain ⟨p, xs, rfl, h3, h4⟩ := kac e q h1
   refine ⟨_, es.length, rfl, ?_, g.d e⟩
   rcases h3 with h3 | h3
   ·exact .inl ⟨xs, h3, h4.length.symm⟩
   ·exact .inr ⟨xs, h3, h4.length.symm⟩
 ·cases h
def maxD : List D → Option Rv
 | [.s (.int i), .s (.int j)] => some (rvI (if j > i then j else i))
 | _ => none
def minD : List D → Option Rv
 | [.s (.int i), .s (.int j)] => some (rvI (if j < i then j else i))
 | _ => none
theorem ok_max : RCOk K (fun xs H Q => ∃ i j, xs = [.int i, .int j] ∧ Q (.int (if j > i then j else i)) H) maxD := by
 intro C H e ds vs rv Q h hs g
 unfold maxD at h
 split at h
 ·obtain ⟨v, r, rfl, h1, h2⟩ := pks1 hs
  obtain ⟨v2, r2, rfl, h3, h4⟩ := pks1 h2
  cases pks0 h4
  cases pk_s.mp h1; cases pk_s.mp h3; cases h
  exact ⟨_, _, rfl, g.d e⟩
 ·cases h
def listD : List D → Option Rv
 | [d] => match items d with
  | some ds => some (.new (.lst ds))
  | none => none
 | _ => none
def qay : List D → Option Rv
 | [d] => match items d with
  | some ds => some (.dat (.tup ds))
  | none => none
 | _ => none
theorem ok_tuple : RCOk K (fun xs H Q => ∃ p ys, xs = [.ref p] ∧ ((SqL K H p ys ∧ ∀ l, H l = none → Q (.ref l) (upd H l (.tup ys))) ∨ (SqT K H p ys ∧ Q (.ref p) H))) qay := by
 intro C H e ds vs rv Q h hs g
 unfold qay at h
 split at h
 ·obtain ⟨v, r, rfl, h1, h2⟩ := pks1 hs
  cases pks0 h2
  rename_i d
  cases d with
  | tup es =>
   cases h
   have h10 := h1
   obtain ⟨p, xs, rfl, h3, h4⟩ := j4 e h1
   exact ⟨p, xs, rfl, .inr ⟨h3, g.same e h10⟩⟩
  | lst es =>
   cases h
   obtain ⟨p, xs, rfl, h3, h4⟩ := h1
   exact ⟨p, xs, rfl, .inl ⟨SqL.of h3, fun l hl => g.tup e h4 hl⟩⟩
  | ro es =>
   cases h
   obtain ⟨p, xs, rfl, h3, h4⟩ := pk_ro e h1
   exact ⟨p, xs, rfl, .inl ⟨h3, fun l hl => g.tup e h4 hl⟩⟩
  | s x => cases h
  | obj c fs => cases h
  | lam f c zs ks => cases h
  | dic kvs => cases h
  | exc c b fs => cases h
 ·cases h
def strD : List D → Option Rv
 | [.s (.int i)] => if i.natAbs.log2 < 1920 then some (rvS (toString i)) else none
 | _ => none
theorem ok_str : RCOk K (fun xs H Q => ∃ i : Int, xs = [.int i] ∧ i.natAbs.log2 < 1920 ∧ Q (.str (toString i)) H) strD := by
 intro C H e ds vs rv Q h hs g
 unfold strD at h
 split at h
 ·obtain ⟨v, r, rfl, h1, h2⟩ := pks1 hs
  cases pks0 h2
  cases pk_s.mp h1
  obtain ⟨h3, rfl⟩ := yc h
  exact ⟨_, rfl, h3, g.d e⟩
 ·cases h
def intD : List D → Option Rv
 | [.s (.str a)] => if a.length ≤ 640 then (match PySem.intText? a with
  | some n => some (rvI n)
  | none => none) else none
 | [.s (.bl k)] => some (rvI (if k then 1 else 0))
 | [.s (.int i)] => some (rvI i)
 | _ => none
def rIntX : List V → Hp → VK → Prop := fun xs H Q => (∃ a n, xs = [.str a] ∧ PySem.intText? a = some n ∧ a.length ≤ 640 ∧ Q (.int n) H) ∨ ((∃ i, xs = [.int i] ∧ Q (.int i) H) ∨ ∃ k, xs = [.bl k] ∧ Q (.int (if k then 1 else 0)) H)
theorem call_intX {X : Cx} : CallR X (.type "int") rIntX := call_int_str.or call_int1
theorem ok_int : RCOk K rIntX intD := by
 intro C H e ds vs rv Q h hs g
 unfold intD at h
 split at h
 ·obtain ⟨v, r, rfl, h1, h2⟩ := pks1 hs
  cases pks0 h2
  cases pk_s.mp h1
  rename_i a
  by_cases hz : a.length ≤ 640
  ·rw [if_pos hz] at h
   cases q : PySem.intText? a with
   | none => rw [q] at h; cases h
   | some n => rw [q] at h; cases h; exact .inl ⟨a, n, rfl, q, hz, g.d e⟩
  ·rw [if_neg hz] at h; cases h
 ·obtain ⟨v, r, rfl, h1, h2⟩ := pks1 hs
  cases pks0 h2
  cases pk_s.mp h1
  cases h
  exact .inr (.inr ⟨_, rfl, g.d e⟩)
 ·obtain ⟨v, r, rfl, h1, h2⟩ := pks1 hs
  cases pks0 h2
  cases pk_s.mp h1
  cases h
  exact .inr (.inl ⟨_, rfl, g.d e⟩)
 ·cases h
def zav : List D → Option (List Bool)
 | [] => some []
 | .s (.bl b) :: ds => match zav ds with
  | some bs => some (b :: bs)
  | none => none
 | _ => none
theorem xbj : ∀ {ds : List D} {xs : List V} {bs : List Bool}, zav ds = some bs → Iss K C ds xs → xs = bs.map V.bl
 | [], xs, bs, h, i => by rw [iss_nil_iff.mp i]; cases h; rfl
 | d :: ds, xs, bs, h, i => by
  obtain ⟨x, r, rfl, h2, h3⟩ := iss_cons_iff.mp i
  cases d with
  | s y =>
   cases y with
   | bl b =>
    cases is_s_iff.mp h2
    simp only [zav] at h
    cases q : zav ds with
    | none => rw [q] at h; cases h
    | some cs =>
     rw [q] at h; cases h
     rw [xbj q h3]
     rfl
   | _ => cases h
  | _ => cases h
def strL : List D → Option (List Str)
 | [] => some []
 | .s (.str b) :: ds => match strL ds with
  | some bs => some (b :: bs)
  | none => none
 | _ => none
theorem strL_iss : ∀ {ds : List D} {xs : List V} {bs : List Str}, strL ds = some bs → Iss K C ds xs → xs = bs.map V.str
 | [], xs, bs, h, i => by rw [iss_nil_iff.mp i]; cases h; rfl
 | d :: ds, xs, bs, h, i => by
  obtain ⟨x, r, rfl, h2, h3⟩ := iss_cons_iff.mp i
  cases d with
  | s y =>
   cases y with
   | str b =>
    cases is_s_iff.mp h2
    simp only [strL] at h
    cases q : strL ds with
    | none => rw [q] at h; cases h
    | some cs =>
     rw [q] at h; cases h
     rw [strL_iss q h3]
     rfl
   | _ => cases h
  | _ => cases h
def intL : List D → Option (List Int)
 | [] => some []
 | .s (.int b) :: ds => match intL ds with
  | some bs => some (b :: bs)
  | none => none
 | _ => none
theorem intL_iss : ∀ {ds : List D} {xs : List V} {bs : List Int}, intL ds = some bs → Iss K C ds xs → xs = bs.map V.int
 | [], xs, bs, h, i => by rw [iss_nil_iff.mp i]; cases h; rfl
 | d :: ds, xs, bs, h, i => by
  obtain ⟨x, r, rfl, h2, h3⟩ := iss_cons_iff.mp i
  cases d with
  | s y =>
   cases y with
   | int b =>
    cases is_s_iff.mp h2
    simp only [intL] at h
    cases q : intL ds with
    | none => rw [q] at h; cases h
    | some cs =>
     rw [q] at h; cases h
     rw [intL_iss q h3]
     rfl
   | _ => cases h
  | _ => cases h
def allD : List D → Option Rv
 | [.lst ds] => match zav ds with
  | some bs => some (rvB (bs.all id))
  | none => none
 | _ => none
def anyD : List D → Option Rv
 | [.lst ds] => match zav ds with
  | some bs => some (rvB (bs.any id))
  | none => none
 | _ => none
def sumD : List D → Option Rv
 | [.lst ds] => match intL ds with
  | some bs => some (rvI bs.sum)
  | none => none
 | _ => none
theorem ok_all : RCOk K (rAll K) allD := by
 intro C H e ds vs rv Q h hs g
 unfold allD at h
 split at h
 ·obtain ⟨v, r, rfl, h1, h2⟩ := pks1 hs
  cases pks0 h2
  rename_i es
  cases q : zav es with
  | none => rw [q] at h; cases h
  | some bs =>
   rw [q] at h; cases h
   obtain ⟨a, xs, rfl, h3, h4⟩ := h1
   cases xbj q h4
   exact ⟨a, bs, rfl, SqL.of h3, g.d e⟩
 ·cases h
theorem ok_sum : RCOk K (rSum K) sumD := by
 intro C H e ds vs rv Q h hs g
 unfold sumD at h
 split at h
 ·obtain ⟨v, r, rfl, h1, h2⟩ := pks1 hs
  cases pks0 h2
  rename_i es
  cases q : intL es with
  | none => rw [q] at h; cases h
  | some bs =>
   rw [q] at h; cases h
   obtain ⟨a, xs, rfl, h3, h4⟩ := h1
   cases intL_iss q h4
   exact ⟨a, bs, rfl, SqL.of h3, g.d e⟩
 ·cases h
structure IsiCls (K : PySem.W.Frag) (C : Addr) : Prop where
 cl : Cls K C
 ha : PySem.W.findIn K (.ref C) "__class__" = some (some (.builtin "object.__class__"))
 hn : PySem.W.specialIn K (.builtin "object.__class__") "__get__" = some (some (.builtin "getset_descriptor.__get__"))
 htk : PySem.W.takesIn K (.builtin "object.__class__") = some true
 hm : PySem.W.mroIn K C (.type "object") = some true
inductive TyY (K : PySem.W.Frag) (H : Hp) : V → Value → Prop where
 | x {v : V} {t : Value} (h : TyX K H v t) : TyY K H v t
 | e {a c : Addr} {d : Option Addr} (h : H a = some (.ext (ExO a c d))) (hd : d = none ∨ ∃ p gs, d = some p ∧ H p = some (.xd gs)) (k : ExcC K c) : TyY K H (.ref a) (.ref c)
theorem kitY {X : Cx} {pins : List (Addr × Obj)} {σ : St} {H : Hp} {s : Shared} {v : V} {u t : Value} (I : Inv X pins σ H s) (r : RelV v u) (y : TyY X.K H v t) : ∃ φ : Heap → Prop, PySem.W.KitX X.K u t φ ∧ φ s.heap ∧ u ≠ .builtin "__main__.__loader__#opaque" := by
 cases y with
 | x h => exact kit_of I r h
 | @e a c d h hd k =>
  cases (show u = Value.ref a from r)
  obtain ⟨⟨o, vs, h1, h2, h3⟩, _⟩ := I.hok _ _ h
  obtain ⟨cd, hc, _⟩ := PySem.W.any_some k.hd
  have isC : (PySem.W.clsIn X.K c).isSome = true := by rw [hc]; rfl
  have nc : PySem.W.notCls o := by unfold PySem.W.notCls; rw [h3]
  rcases hd with rfl | ⟨p, gs, rfl, h4⟩
  ·exact ⟨_, PySem.W.kitx_exc (od := none) isC k.hg k.hk k.hs k.ha k.hn k.ht k.hm, ⟨h1, h2.1, nc, by rw [h2.2]; trivial⟩, fun z => nomatch z⟩
  ·obtain ⟨mA, hns, _⟩ := I.hok _ _ h4
   obtain ⟨od, ho, _⟩ := lookIn_ns hns
   exact ⟨_, PySem.W.kitx_exc (od := some od) isC k.hg k.hk k.hs k.ha k.hn k.ht k.hm, ⟨h1, h2.1, nc, by rw [h2.2]; exact ho⟩, fun z => nomatch z⟩
def rIsY (K : PySem.W.Frag) : List V → Hp → VK → Prop := fun xs H Q => ∃ (t : Value) (b : Bool), (∃ (x c : V) (u : Value), xs = [x, c] ∧ ClsV c u ∧ TyY K H x t ∧ PySem.W.kitOne K t u = some b ∧ Q (.bl b) H) ∨
 ∃ (x : V) (tp : Addr) (cs : List V) (us : List Value), xs = [x, .ref tp] ∧ SqT K H tp cs ∧ Paired ClsV cs us ∧ TyY K H x t ∧ PySem.W.kitAny K t us = some b ∧ Q (.bl b) H
theorem call_isY {X : Cx} : CallR X (.builtin "isinstance") (rIsY X.K) := by
 intro pins s σ H xs us Q I r h
 obtain ⟨t, b, ⟨x, c, u, rfl, k, y, e, q⟩ | ⟨x, tp, cs, ws, rfl, hT, k, y, e, q⟩⟩ := h
 ·obtain ⟨a1, a2, rfl, r1, r2⟩ := vals2 r
  cases k.eq r2
  obtain ⟨φ, Z, p, n⟩ := kitY I r1 y
  exact PySem.W.kia_one Z I.kIn p e n fun tk =>
   ⟨.bl b, H, I.tok tk, rfl, q⟩
 ·obtain ⟨a1, a2, rfl, r1, r2⟩ := vals2 r
  cases (show a2 = Value.ref tp from r2)
  obtain ⟨φ, Z, p, n⟩ := kitY I r1 y
  obtain ⟨its, rv, pl, hz⟩ := I.tuple hT
  cases ClsV.all k rv
  obtain ⟨⟨oc, od, oda, osl⟩, ho, hc, n', hs⟩ := pl
  dsimp only at hc hs
  subst hc hs
  exact PySem.W.kia_tup Z I.kIn p ho e n fun tk =>
   ⟨.bl b, H, I.tok tk, rfl, q⟩
def tyD : D → Option Value
 | .s .non => some (.type "NoneType")
 | .s (.bl _) => some (.type "bool")
 | .s (.int _) => some (.type "int")
 | .s (.str _) => some (.type "str")
 | .s _ => none
 | .tup _ => some (.type "tuple")
 | .lst _ => some (.type "list")
 | .ro _ => some (.type "list")
 | .obj c _ => some (.ref c)
 | .lam _ _ _ _ => none
 | .dic _ => some (.type "dict")
 | .exc c _ _ => some (.ref c)
def clsD : D → Option Value
 | .s (.ty n) => some (.type n)
 | .s (.ref c) => some (.ref c)
 | _ => none
def xbn (cs : List Addr) : D → Bool
 | .obj a _ => cs.contains a
 | _ => true
def isiB (K : PySem.W.Frag) (cs : List Addr) (x c : D) : Option Bool := match tyD x with
 | none => none
 | some t => match clsD c with
  | none => none
  | some u => if xbn cs x = true then PySem.W.kitOne K t u else none
def clsL : List D → Option (List Value)
 | [] => some []
 | d :: ds => match clsD d, clsL ds with
  | some u, some us => some (u :: us)
  | _, _ => none
def isiT (K : PySem.W.Frag) (cs : List Addr) (x : D) (ds : List D) : Option Bool := match tyD x, clsL ds with
 | some t, some us => if xbn cs x = true then PySem.W.kitAny K t us else none
 | _, _ => none
def isiD (K : PySem.W.Frag) (cs : List Addr) : List D → Option Rv
 | [x, .tup ds] => match isiT K cs x ds with
  | some b => some (rvB b)
  | none => none
 | [x, c] => match isiB K cs x c with
  | some b => some (rvB b)
  | none => none
 | _ => none
theorem tyD_ok {cs : List Addr} (hcs : ∀ c, cs.contains c = true → IsiCls K c) (e : Ex C H) {d : D} {v : V} {t : Value} (h : tyD d = some t) (i : Pk K C H d v) (hc : xbn cs d = true) : TyY K H v t := by
 cases d with
 | s x =>
  cases pk_s.mp i
  cases v with
  | non => cases h; exact .x <| .base .non
  | bl b => cases h; exact .x <| .base (.bl b)
  | int b => cases h; exact .x <| .base (.int b)
  | str b => cases h; exact .x <| .base (.str b)
  | _ => cases h
 | tup ds =>
  cases h
  obtain ⟨a, xs, rfl, h1, h2⟩ := j4 e i
  rcases h1 with (h1 | ⟨o, h1⟩) | ⟨o, its, n, h1, h3, _⟩
  ·exact .x <| .base (.tup h1)
  ·exact .x (.fTuple h1)
  ·exact .x (.kTuple h1 h3)
 | lst ds =>
  cases h
  obtain ⟨a, xs, rfl, h1, h2⟩ := i
  exact .x <| .base (.lst h1)
 | ro ds =>
  cases h
  obtain ⟨a, xs, rfl, h1, h2⟩ := pk_ro e i
  rcases h1 with (h1 | ⟨o, h1⟩) | ⟨o, its, n, h1, h3, _⟩
  ·exact .x <| .base (.lst h1)
  ·exact .x <| .base (.frz h1)
  ·exact .x (.kList h1 h3)
 | obj c fs =>
  cases h
  obtain ⟨a, dx, gs, rfl, h1, h2⟩ := pk_obj e i
  have k := hcs c hc
  exact .x <| .base (.ins h1 k.cl k.ha k.hn k.htk k.hm)
 | lam f c zs ks => cases h
 | dic kvs =>
  cases h
  obtain ⟨a, o, xs, rfl, h1, _⟩ := is_dic_iff.mp i
  exact .x (.fDict (e.1 _ _ h1 yay))
 | exc c b fs =>
  cases h
  obtain ⟨k, a, d, gs, rfl, h1, h2, _⟩ := is_exc_iff.mp i
  refine .e (e.1 _ _ h1 (fun ps z => by cases z)) ?_ k
  rcases h2 with ⟨_, h2⟩ | ⟨p, _, h2, h3⟩
  ·exact .inl h2
  ·exact .inr ⟨p, gs, h2, e.1 _ _ h3 nt_xd⟩
theorem clsD_ok {c : D} {v : V} {u : Value} (h : clsD c = some u) (i : Is K C c v) : ClsV v u := by
 cases c with
 | s y =>
  cases is_s_iff.mp i
  cases v with
  | ty n => cases h; exact .ty n
  | ref a => cases h; exact .own a
  | _ => cases h
 | _ => cases h
theorem clsL_ok : ∀ {ds : List D} {vs : List V} {us : List Value}, clsL ds = some us → Iss K C ds vs → Paired ClsV vs us
 | [], vs, us, h, i => by cases h; rw [iss_nil_iff.mp i]; exact .nil
 | d :: ds, vs, us, h, i => by
  obtain ⟨x, r, rfl, i1, i2⟩ := iss_cons_iff.mp i
  simp only [clsL] at h
  cases q1 : clsD d with
  | none => rw [q1] at h; cases h
  | some u =>
   cases q2 : clsL ds with
   | none => rw [q1, q2] at h; cases h
   | some ws =>
    rw [q1, q2] at h
    cases h
    exact .cons (clsD_ok q1 i1) (clsL_ok q2 i2)
theorem ok_isi {cs : List Addr} (hcs : ∀ c, cs.contains c = true → IsiCls K c) : RCOk K (rIsY K) (isiD K cs) := by
 intro C H e ds vs rv Q h hs g
 unfold isiD at h
 split at h
 ·rename_i x ds
  obtain ⟨v, r, rfl, h1, h2⟩ := pks1 hs
  obtain ⟨v2, r2, rfl, h3, h4⟩ := pks1 h2
  cases pks0 h4
  cases q : isiT K cs x ds with
  | none => rw [q] at h; cases h
  | some b =>
   rw [q] at h; cases h
   unfold isiT at q
   cases q1 : tyD x with
   | none => rw [q1] at q; cases q
   | some t =>
    cases q2 : clsL ds with
    | none => rw [q1, q2] at q; cases q
    | some us =>
     rw [q1, q2] at q
     dsimp only at q
     by_cases hc : xbn cs x = true
     ·rw [if_pos hc] at q
      obtain ⟨tp, ys, rfl, k1, k2⟩ := j4 e h3
      exact ⟨t, b, .inr ⟨v, tp, ys, us, rfl, k1, clsL_ok q2 k2, tyD_ok hcs e q1 h1 hc, q, g.d e⟩⟩
     ·rw [if_neg hc] at q; cases q
 ·rename_i x c _
  obtain ⟨v, r, rfl, h1, h2⟩ := pks1 hs
  obtain ⟨v2, r2, rfl, h3, h4⟩ := pks1 h2
  cases pks0 h4
  cases q : isiB K cs x c with
  | none => rw [q] at h; cases h
  | some b =>
   rw [q] at h; cases h
   unfold isiB at q
   cases q1 : tyD x with
   | none => rw [q1] at q; cases q
   | some t =>
    cases q2 : clsD c with
    | none => rw [q1, q2] at q; cases q
    | some u =>
     rw [q1, q2] at q
     dsimp only at q
     by_cases hc : xbn cs x = true
     ·rw [if_pos hc] at q
      refine ⟨t, b, .inl ⟨v, v2, u, rfl, ?_, tyD_ok hcs e q1 h1 hc, q, g.d e⟩⟩
      cases c with
      | s y =>
       cases pk_s.mp h3
       cases v2 with
       | ty n => cases q2; exact .ty n
       | ref a => cases q2; exact .own a
       | _ => cases q2
      | _ => cases q2
     ·rw [if_neg hc] at q; cases q
 ·cases h
def fM1 (op : Str → D → Option Rv) (fo fe : P Rv) : P Rv := fo.bind fun ro => pk1 ro fun d => match d with
 | .s (.str a) => fe.bind fun re => pk1 re fun x => P.of (op a x)
 | _ => P.fail
def RM1 (K : PySem.W.Frag) (r : V → List V → Hp → VK → Prop) (op : Str → D → Option Rv) : Prop :=
 ∀ C H, Ex C H → ∀ a d x rv Q, op a d = some rv → Pk K C H d x → Giv K C H rv Q → r (.str a) [x] H Q
theorem sd_m1 {W : WX} {r : V → List V → Hp → VK → Prop} {op : Str → D → Option Rv} {to te : TE} {fo fe : P Rv} (hr : RM1 K r op) (ho : Sd K W (VRel K) to fo) (he : Sd K W (VRel K) te fe) : Sd K W (VRel K) (tM1 r to te) (fM1 op fo fe) := by
 intro σ C H ρ e
 show At K W (VRel K H) σ C H ρ (fun H Q => to σ H fun x H1 => (∃ a, x = .str a) ∧ te σ H1 fun y H2 => r x [y] H2 Q) (jd (fo ρ) fun ro => pk1 ro fun d => match d with
  | .s (.str a) => fe.bind fun re => pk1 re fun x => P.of (op a x)
  | _ => P.fail)
 refine At.bind (tk := fun (x : V) (H1 : Hp) (Q : VK) => (∃ a, x = .str a) ∧ te σ H1 fun y H2 => r x [y] H2 Q) (ho σ C H ρ e) fun ro ρ1 x C1 H1 p1 r1 => ?_
 refine At.pk1 fun d q1 => ?_
 cases d with
 | s z =>
  cases z with
  | str a =>
   have ex : x = .str a := pk_s.mp (kf p1.env r1 q1)
   subst ex
   refine At.imp (t := fun H1 Q => te σ H1 fun y H2 => r (.str a) [y] H2 Q) ?_ fun Q h => ⟨⟨a, rfl⟩, h⟩
   refine At.bind (tk := fun (y : V) (H2 : Hp) (Q : VK) => r (.str a) [y] H2 Q) (he σ C1 H1 ρ1 p1.env) fun re ρ2 y C2 H2 p2 r2 => ?_
   refine At.pk1 fun dx q2 => At.pof fun rv q3 => ?_
   exact At.giv p2.env (fun b h => p1.step.dom b (p2.step.dom b h)) fun Q g => hr C2 H2 p2.env.ext a dx y rv Q q3 (kf p2.env r2 q2) g
  | _ => exact At.nil
 | _ => exact At.nil
def joinD (a : Str) (d : D) : Option Rv := match items d with
 | none => none
 | some ds => match strL ds with
  | none => none
  | some ys => if (ys.map (·.length)).sum + ys.length * a.length ≤ 16777216 then some (rvS (Txt.join a ys)) else none
theorem ok_join : RM1 K (fun x xs H Q => ∃ a p, ∃ ys : List Str, x = .str a ∧ xs = [.ref p] ∧ (SqL K H p (ys.map V.str) ∨ SqT K H p (ys.map V.str)) ∧ (ys.map (·.length)).sum + ys.length * a.length ≤ 16777216 ∧ Q (.str (Txt.join a ys)) H) joinD := by
 intro C H e a d x rv Q h hx g
 unfold joinD at h
 cases q1 : items d with
 | none => rw [q1] at h; cases h
 | some ds =>
  rw [q1] at h
  dsimp only at h
  cases q2 : strL ds with
  | none => rw [q2] at h; cases h
  | some ys =>
   rw [q2] at h
   obtain ⟨h1, rfl⟩ := yc h
   obtain ⟨p, xs, rfl, h3, h4⟩ := kac e q1 hx
   cases strL_iss q2 h4
   exact ⟨a, p, ys, rfl, rfl, h3, h1, g.d e⟩
def zbf (a : Str) : D → Option Rv
 | .s (.str b) => if a.length ≤ sizeLine then some (rvS (Txt.stripChars a b)) else none
 | _ => none
theorem ok_strip : RM1 K (fun x xs H Q => ∃ a b, x = .str a ∧ xs = [.str b] ∧ a.length ≤ sizeLine ∧ Q (.str (Txt.stripChars a b)) H) zbf := by
 intro C H e a d x rv Q h hx g
 unfold zbf at h
 split at h
 ·cases pk_s.mp hx
  obtain ⟨h1, rfl⟩ := yc h
  exact ⟨a, _, rfl, rfl, h1, g.d e⟩
 ·cases h
def startsD (a : Str) : D → Option Rv
 | .s (.str b) => some (rvB (Txt.startswith a b))
 | _ => none
def endsD (a : Str) : D → Option Rv
 | .s (.str b) => some (rvB (Txt.endswith a b))
 | _ => none
end
end PL
namespace PL
open PySem L2
inductive Fl where
 | next
 | ret (r : Rv)
 | brk
 | cont
structure PostS (K : PySem.W.Frag) (fx : List Nat) (σ : Sl) (C H : Hp) (ρ : En) (σ' : Sl) (C' H' : Hp) (ρ' : En) : Prop where
 step : Step C H C' H' (qd σ ρ)
 own : ∀ a, qd σ' ρ' a → qd σ ρ a ∨ H a = none
 env : EnvOk K C' H' σ' ρ'
 fix : ∀ i ∈ fx, σ'[i]? = σ[i]?
 len : σ'.length = σ.length
section
variable {K : PySem.W.Frag} {fx : List Nat} {σ σ1 σ2 : Sl} {C H C1 H1 C2 H2 : Hp} {ρ ρ1 ρ2 : En}
theorem PostS.refl (e : EnvOk K C H σ ρ) : PostS K fx σ C H ρ σ C H ρ := ⟨Step.refl e.ext, fun _ h => .inl h, e, fun _ _ => rfl, rfl⟩
theorem PostS.of (p : Post K σ C H ρ C1 H1 ρ1) : PostS K fx σ C H ρ σ C1 H1 ρ1 := ⟨p.step, fun a h => .inl (p.own a h), p.env, fun _ _ => rfl, rfl⟩
theorem PostS.trans (a : PostS K fx σ C H ρ σ1 C1 H1 ρ1) (b : PostS K fx σ1 C1 H1 ρ1 σ2 C2 H2 ρ2) : PostS K fx σ C H ρ σ2 C2 H2 ρ2 := by
 refine ⟨a.step.trans b.step a.own, fun x h => ?_, b.env, fun i h => (b.fix i h).trans (a.fix i h), b.len.trans a.len⟩
 rcases b.own x h with z | z
 ·exact a.own x z
 ·exact .inr (a.step.dom x z)
end
def Met (K : PySem.W.Frag) (W : WX) (fx : List Nat) (σ : Sl) (C H : Hp) (ρ : En) (D : Ends) : Out Fl → Prop
 | .ok .next ρ' => ∀ σ' C' H', PostS K fx σ C H ρ σ' C' H' ρ' → D.nx σ' H'
 | .ok (.ret r) ρ' => ∀ v σ' C' H', PostS K fx σ C H ρ σ' C' H' ρ' → VOk K H C' H' σ' ρ' v r → D.rt v H'
 | .ok .brk ρ' => ∀ σ' C' H', PostS K fx σ C H ρ σ' C' H' ρ' → D.bk σ' H'
 | .ok .cont ρ' => ∀ σ' C' H', PostS K fx σ C H ρ σ' C' H' ρ' → D.ct σ' H'
 | .ex e ρ' => ∀ d σ' C' H', PostS K fx σ C H ρ σ' C' H' ρ' → ExnOk K C' e d → W (.ref e.c) d σ' H'
def SdS (K : PySem.W.Frag) (W : WX) (fx : List Nat) (ts : TS) (g : P Fl) : Prop :=
 ∀ σ C H ρ out D, EnvOk K C H σ ρ → g ρ = some out → Met K W fx σ C H ρ D out → ts D σ H
theorem Met.later {K : PySem.W.Frag} {W : WX} {fx : List Nat} {σ σ1 : Sl} {C H C1 H1 : Hp} {ρ ρ1 : En} {D : Ends} {out : Out Fl} (p : PostS K fx σ C H ρ σ1 C1 H1 ρ1) (m : Met K W fx σ C H ρ D out) : Met K W fx σ1 C1 H1 ρ1 D out := by
 cases out with
 | ok f ρ' =>
  cases f with
  | next => exact fun σ' C' H' q => m σ' C' H' (p.trans q)
  | ret r => exact fun v σ' C' H' q k => m v σ' C' H' (p.trans q) (k.back p.step.dom)
  | brk => exact fun σ' C' H' q => m σ' C' H' (p.trans q)
  | cont => exact fun σ' C' H' q => m σ' C' H' (p.trans q)
 | ex e ρ' => exact fun d σ' C' H' q k => m d σ' C' H' (p.trans q) k
def wm : P Fl := P.ret .next
def sSeq (g h : P Fl) : P Fl := g.bind fun f => match f with
 | .next => h
 | f => P.ret f
def sIf (c : P Bool) (g h : P Fl) : P Fl := c.bind fun b => if b = true then g else h
def sRet (f : P Rv) : P Fl := f.bind fun r => P.ret (.ret r)
def sRetN : P Fl := P.ret (.ret (.dat (.s .non)))
def jak (f : P Rv) : P Fl := f.bind fun _ => P.ret .next
def sBrk : P Fl := P.ret .brk
def sCont : P Fl := P.ret .cont
def putD (i : Nat) (d : D) : P Fl := fun ρ => if i < ρ.length then some (.ok .next (ρ.set i (.dat d))) else none
def sSet (i : Nat) (f : P Rv) : P Fl := (yj f).bind fun d => putD i d
def putM (i : Nat) (r : Rv) : P Fl := fun ρ => match r with
 | .new m => if i < ρ.length then some (.ok .next (ρ.set i (.own m))) else none
 | _ => none
def yaa (i : Nat) (f : P Rv) : P Fl := f.bind fun r => putM i r
section
variable {K : PySem.W.Frag} {W : WX} {fx : List Nat} {σ : Sl} {C H : Hp} {ρ : En}
theorem ji {α β : Type} {o : Option (Out α)} {k : α → P β} {out : Out β} (h : jd o k = some out) : (∃ e r, o = some (.ex e r) ∧ out = .ex e r) ∨ ∃ a r, o = some (.ok a r) ∧ k a r = some out := by
 cases o with
 | none => cases h
 | some x =>
  cases x with
  | ok a r => exact .inr ⟨a, r, rfl, h⟩
  | ex e r => exact .inl ⟨e, r, rfl, (Option.some.inj h).symm⟩
theorem yl {α' α : Type} {R : Hp → Rel α' α} {t : Sl → Rd1 α'} {f : P α} {k : α → P Fl} {out : Out Fl} {D : Ends} {Q : α' → Hp → Prop} (hf : Sd K W R t f) (e : EnvOk K C H σ ρ) (h : (f.bind k) ρ = some out) (m : Met K W fx σ C H ρ D out)
  (hk : ∀ a ρ1 v C1 H1, Post K σ C H ρ C1 H1 ρ1 → R H C1 H1 σ ρ1 v a → k a ρ1 = some out → Q v H1) : t σ H Q := by
 rcases ji (show jd (f ρ) k = some out from h) with ⟨x, r, h1, rfl⟩ | ⟨a, r, h1, h2⟩
 ·refine hf σ C H ρ e _ Q h1 (fun a ρ' z => by cases z) fun x' ρ' z d C' H' p q => ?_
  cases z
  exact m d σ C' H' (PostS.of p) q
 ·refine hf σ C H ρ e _ Q h1 (fun a' ρ' z v C' H' p q => ?_) fun x' ρ' z => by cases z
  cases z
  exact hk a r v C' H' p q h2
end
section
variable {K : PySem.W.Frag} {W : WX} {fx : List Nat} {ta : TE} {tt : TT} {t u : TS} {f : P Rv} {c : P Bool} {g h : P Fl}
theorem ss_next : SdS K W fx tNext wm := fun σ C H ρ out D e ho m => by
 cases ho
 exact m σ C H (PostS.refl e)
theorem ss_seq (ht : SdS K W fx t g) (hu : SdS K W fx u h) : SdS K W fx (tSeq t u) (sSeq g h) := by
 intro σ C H ρ out D e ho m
 show t { D with nx := u D } σ H
 rcases ji (show jd (g ρ) _ = some out from ho) with ⟨x, r, h1, rfl⟩ | ⟨a, r, h1, h2⟩
 ·exact ht σ C H ρ _ _ e h1 m
 ·cases a with
  | next => exact ht σ C H ρ _ _ e h1 fun σ' C' H' p => hu σ' C' H' r out D p.env h2 (Met.later p m)
  | ret v => cases h2; exact ht σ C H ρ _ _ e h1 m
  | brk => cases h2; exact ht σ C H ρ _ _ e h1 m
  | cont => cases h2; exact ht σ C H ρ _ _ e h1 m
theorem ss_if (hc : Sd K W BRel tt c) (ht : SdS K W fx t g) (hu : SdS K W fx u h) : SdS K W fx (tIfS tt t u) (sIf c g h) := by
 intro σ C H ρ out D e ho m
 refine yl (k := fun b => if b = true then g else h) hc e ho m fun b ρ1 v C1 H1 p r k => ?_
 have r : v = b := r
 subst r
 cases v with
 | true => exact ht σ C1 H1 ρ1 out D p.env k (Met.later (PostS.of p) m)
 | false => exact hu σ C1 H1 ρ1 out D p.env k (Met.later (PostS.of p) m)
theorem ss_ret (hf : Sd K W (VRel K) ta f) : SdS K W fx (tRet ta) (sRet f) := by
 intro σ C H ρ out D e ho m
 refine yl (k := fun r => P.ret (.ret r)) hf e ho m fun r ρ1 v C1 H1 p q k => ?_
 cases k
 exact m v σ C1 H1 (PostS.of p) q
theorem ss_drop (hf : Sd K W (VRel K) ta f) : SdS K W fx (tDrop ta) (jak f) := by
 intro σ C H ρ out D e ho m
 refine yl (k := fun _ => P.ret .next) hf e ho m fun r ρ1 v C1 H1 p q k => ?_
 cases k
 exact m σ C1 H1 (PostS.of p)
theorem put_post {σ : Sl} {C H : Hp} {ρ : En} {i : Nat} {d : D} {v : V} (e : EnvOk K C H σ ρ) (hi : i ∉ fx) (hl : i < ρ.length) (h : Is K C d v) : PostS K fx σ C H ρ (σ.set i (some v)) C H (ρ.set i (.dat d)) := by
 have lσ : i < σ.length := by rw [e.len]; exact hl
 refine ⟨Step.refl e.ext, fun a ⟨j, m, h1, h2⟩ => .inl ?_, ⟨by rw [List.length_set, List.length_set]; exact e.len, e.ext, fun j c q => ?_, fun j k m n a h1 h2 h3 h4 => ?_, e.tab⟩, fun j hj => ?_, by rw [List.length_set]⟩
 ·by_cases hj : i = j
  ·subst hj; rw [List.getElem?_set_self hl] at h1; cases h1
  ·rw [List.getElem?_set_ne hj] at h1 h2; exact ⟨j, m, h1, h2⟩
 ·by_cases hj : i = j
  ·subst hj
   rw [List.getElem?_set_self hl] at q; cases q
   exact ⟨some v, List.getElem?_set_self lσ, v, rfl, h⟩
  ·rw [List.getElem?_set_ne hj] at q ⊢
   exact e.cell j c q
 ·by_cases hj : i = j
  ·subst hj; rw [List.getElem?_set_self hl] at h1; cases h1
  ·by_cases hk : i = k
   ·subst hk; rw [List.getElem?_set_self hl] at h2; cases h2
   ·rw [List.getElem?_set_ne hj] at h1 h3
    rw [List.getElem?_set_ne hk] at h2 h4
    exact e.inj j k m n a h1 h2 h3 h4
 ·exact List.getElem?_set_ne (fun z => hi (by rw [z]; exact hj))
theorem ss_set {i : Nat} (hi : i ∉ fx) (hf : Sd K W (VRel K) ta f) : SdS K W fx (tAsg ta (gName i)) (sSet i f) := by
 intro σ C H ρ out D e ho m
 refine yl (k := fun d => putD i d) (kj hf) e ho m fun d ρ1 v C1 H1 p q k => ?_
 show D.nx (σ.set i (some v)) H1
 unfold putD at k
 obtain ⟨hl, rfl⟩ := yc k
 exact m _ _ _ ((PostS.of p).trans (put_post p.env hi hl q))
theorem ss_setM {i : Nat} (hi : i ∉ fx) (hf : Sd K W (VRel K) ta f) : SdS K W fx (tAsg ta (gName i)) (yaa i f) := by
 intro σ C H ρ out D e ho m
 refine yl (k := fun r => putM i r) hf e ho m fun r ρ1 v C1 H1 p q k => ?_
 show D.nx (σ.set i (some v)) H1
 cases r with
 | dat d => cases k
 | bor j => cases k
 | new mm =>
  obtain ⟨hl, rfl⟩ := yc (show (if i < ρ1.length then some (Out.ok Fl.next (ρ1.set i (.own mm))) else none) = some out from k)
  obtain ⟨a, o, rfl, q2, q3, q4, q5, q6⟩ := q
  have e1 := p.env
  have lσ : i < σ.length := by rw [e1.len]; exact hl
  refine m _ C1 H1 ⟨p.step, fun b ⟨j, m', h1, h2⟩ => ?_, ⟨by rw [List.length_set, List.length_set]; exact e1.len, e1.ext, fun j c h => ?_, fun j k' m1 m2 b h1 h2 h3 h4 => ?_, e1.tab⟩, fun j hj => ?_, by rw [List.length_set]⟩
  ·by_cases hj : i = j
   ·subst hj
    rw [List.getElem?_set_self lσ] at h2
    cases h2
    exact .inr q6
   ·rw [List.getElem?_set_ne hj] at h1 h2
    exact .inl (p.own b ⟨j, m', h1, h2⟩)
  ·by_cases hj : i = j
   ·subst hj
    rw [List.getElem?_set_self hl] at h; cases h
    exact ⟨_, List.getElem?_set_self lσ, a, o, rfl, q2, q3, q4⟩
   ·rw [List.getElem?_set_ne hj] at h ⊢
    exact e1.cell j c h
  ·by_cases hj : i = j
   ·by_cases hk : i = k'
    ·rw [← hj, ← hk]
    ·subst hj
     rw [List.getElem?_set_self lσ] at h3; cases h3
     rw [List.getElem?_set_ne hk] at h2 h4
     exact absurd ⟨k', m2, h2, h4⟩ q5
   ·by_cases hk : i = k'
    ·subst hk
     rw [List.getElem?_set_self lσ] at h4; cases h4
     rw [List.getElem?_set_ne hj] at h1 h3
     exact absurd ⟨j, m1, h1, h3⟩ q5
    ·rw [List.getElem?_set_ne hj] at h1 h3
     rw [List.getElem?_set_ne hk] at h2 h4
     exact e1.inj j k' m1 m2 b h1 h2 h3 h4
  ·exact List.getElem?_set_ne (fun z => hi (by rw [z]; exact hj))
end
section
variable {K : PySem.W.Frag} {σ : Sl} {C H : Hp} {ρ : En}
theorem qh {i : Nat} {m m' : M} {a : Addr} {o : HO} (e : EnvOk K C H σ ρ) (h1 : ρ[i]? = some (.own m)) (h2 : σ[i]? = some (some (.ref a))) (hm : MIs K C m' o) :
  Post K σ C H ρ C (upd H a o) (ρ.set i (.own m')) := by
 obtain ⟨v, hv, p, u, q1, q2, q3, q4⟩ := e.cell i _ h1
 rw [h2] at hv; cases hv; cases q1
 have hl : i < ρ.length := (List.getElem?_eq_some_iff.mp h1).1
 have hne : ∀ b w, C b = some w → b ≠ a := fun b w k z => by rw [z, q2] at k; cases k
 have own : ∀ b, qd σ (ρ.set i (.own m')) b → qd σ ρ b := fun b ⟨j, n, k1, k2⟩ => by
  by_cases hj : i = j
  ·subst hj; exact ⟨i, m, h1, k2⟩
  ·rw [List.getElem?_set_ne hj] at k1; exact ⟨j, n, k1, k2⟩
 have ext : Ex C (upd H a o) := ⟨fun b w k n => by rw [upd_ne (hne b w k)]; exact e.ext.1 b w k n, fun b k => by
  by_cases hb : b = a
  ·rw [hb, upd_same] at k; cases k
  ·rw [upd_ne hb] at k; exact e.ext.2 b k⟩
 have tb : ∀ P, TS1 H P → TS1 (upd H a o) P := fun P q => xu q fun u' z => by rw [q3] at z; cases z; exact q4.nx
 refine ⟨⟨Ex.refl C, ext, fun b w k _ nb => ?_, fun b k1 k2 => absurd k1 k2, fun b k => ?_, tb⟩, own, ⟨by rw [List.length_set]; exact e.len, ext, fun j c k => ?_, fun j k n1 n2 b k1 k2 k3 k4 => ?_, fun P h => tb P (e.tab P h)⟩⟩
 ·rw [upd_ne (fun z => nb ⟨i, m, h1, by rw [z]; exact h2⟩)]; exact k
 ·by_cases hb : b = a
  ·subst hb; rw [upd_same] at k; cases k
  ·rw [upd_ne hb] at k; exact k
 ·by_cases hj : i = j
  ·subst hj
   rw [List.getElem?_set_self hl] at k; cases k
   exact ⟨_, h2, a, o, rfl, q2, upd_same, hm⟩
  ·rw [List.getElem?_set_ne hj] at k
   obtain ⟨w, hw, ok⟩ := e.cell j c k
   refine ⟨w, hw, ?_⟩
   cases c with
   | no => trivial
   | dat d => exact ok
   | own n =>
    obtain ⟨p', u', r1, r2, r3, r4⟩ := ok
    refine ⟨p', u', r1, r2, ?_, r4⟩
    have : p' ≠ a := fun z => hj (e.inj i j m n a h1 k h2 (by rw [hw, r1, z]))
    rw [upd_ne this]; exact r3
 ·by_cases hj : i = j
  ·by_cases hk : i = k
   ·rw [← hj, ← hk]
   ·rw [List.getElem?_set_ne hk] at k2
    subst hj
    exact e.inj i k m n2 b h1 k2 k3 k4
  ·rw [List.getElem?_set_ne hj] at k1
   by_cases hk : i = k
   ·subst hk
    exact e.inj j i n1 m b k1 h1 k3 k4
   ·rw [List.getElem?_set_ne hk] at k2
    exact e.inj j k n1 n2 b k1 k2 k3 k4
theorem jk {i : Nat} {m : M} (e : EnvOk K C H σ ρ) (h1 : ρ[i]? = some (.own m)) : ∃ a o, σ[i]? = some (some (.ref a)) ∧ C a = none ∧ H a = some o ∧ MIs K C m o := by
 obtain ⟨v, hv, p, u, q1, q2, q3, q4⟩ := e.cell i _ h1
 exact ⟨p, u, by rw [hv, q1], q2, q3, q4⟩
end
def ownL (i : Nat) {α : Type} (k : List D → P α) : P α := fun ρ => match ρ[i]? with
 | some (.own (.lst ds)) => k ds ρ
 | _ => none
def setL (i : Nat) {α : Type} (ds : List D) (a : α) : P α := fun ρ => some (.ok a (ρ.set i (.own (.lst ds))))
def x7 (i : Nat) (fe : P Rv) : P Rv := ownL i fun _ => (yj fe).bind fun d => ownL i fun ds => if ds.length < sizeLine then setL i (ds ++ [d]) (.dat (.s .non)) else P.fail
def qah (i : Nat) (fe : P Rv) : P Rv := ownL i fun _ => fe.bind fun re => pk1 re fun d => match d with
 | .lst es => ownL i fun ds => if ds.length + es.length ≤ sizeLine then setL i (ds ++ es) (.dat (.s .non)) else P.fail
 | _ => P.fail
section
variable {K : PySem.W.Frag} {W : WX} {σ : Sl} {C H : Hp} {ρ : En}
theorem At.ownL {α' α : Type} {R : Rel α' α} {t : Rd1 α'} {i : Nat} {k : List D → P α} (e : EnvOk K C H σ ρ)
  (h : ∀ ds a xs, ρ[i]? = some (.own (.lst ds)) → σ[i]? = some (some (.ref a)) → H a = some (.lst xs) → Iss K C ds xs → At K W R σ C H ρ t (k ds ρ)) : At K W R σ C H ρ t (PL.ownL i k ρ) := by
 unfold PL.ownL
 cases q : ρ[i]? with
 | none => exact At.nil
 | some c =>
  cases c with
  | no => exact At.nil
  | dat d => exact At.nil
  | own m =>
   cases m with
   | dk kvs => exact At.nil
   | dt kvs => exact At.nil
   | dn _ _ _ => exact At.nil
   | ob c fs => exact At.nil
   | lst ds =>
    obtain ⟨a, o, h1, h2, h3, xs, rfl, h4⟩ := jk e q
    exact h ds a xs q h1 h3 h4
theorem sd_append {i : Nat} {te : TE} {fe : P Rv} (he : Sd K W (VRel K) te fe) : Sd K W (VRel K) (tBM K "list" rAppend (tVar i) (tCons te tNil)) (x7 i fe) := by
 intro σ C H ρ e
 show At K W (VRel K H) σ C H ρ (fun H Q => ∃ v, σ[i]? = some (some v) ∧ tyV K "list" v H ∧ te σ H fun y H2 => rAppend v [y] H2 Q) _
 refine At.ownL e fun ds0 a xs0 h0 h1 h2 h3 => ?_
 refine At.imp (t := fun H Q => te σ H fun y H2 => rAppend (.ref a) [y] H2 Q) ?_ fun Q h => ⟨_, h1, .inl ⟨rfl, _, SqL.of h2⟩, h⟩
 refine At.bind (tk := fun (y : V) (H2 : Hp) (Q : VK) => rAppend (.ref a) [y] H2 Q) (kj he σ C H ρ e) fun d ρ1 y C1 H1 p r => ?_
 refine At.ownL p.env fun ds b xs k0 k1 k2 k3 => ?_
 rw [h1] at k1; cases k1
 by_cases hz : ds.length < sizeLine
 ·rw [if_pos hz]
  refine At.of fun Q hq => ⟨a, xs, y, rfl, rfl, k2, by rw [k3.length]; exact hz, ?_⟩
  exact hq .non C1 _ (qh p.env k0 h1 ⟨_, rfl, k3.app (yb r kc)⟩) (show Is K C1 (.s .non) .non from is_s)
 ·rw [if_neg hz]; exact At.nil
theorem sd_extend {i : Nat} {te : TE} {fe : P Rv} (he : Sd K W (VRel K) te fe) : Sd K W (VRel K) (tBM K "list" rExtend (tVar i) (tCons te tNil)) (qah i fe) := by
 intro σ C H ρ e
 show At K W (VRel K H) σ C H ρ (fun H Q => ∃ v, σ[i]? = some (some v) ∧ tyV K "list" v H ∧ te σ H fun y H2 => rExtend v [y] H2 Q) _
 refine At.ownL e fun ds0 a xs0 h0 h1 h2 h3 => ?_
 refine At.imp (t := fun H Q => te σ H fun y H2 => rExtend (.ref a) [y] H2 Q) ?_ fun Q h => ⟨_, h1, .inl ⟨rfl, _, SqL.of h2⟩, h⟩
 refine At.bind (tk := fun (y : V) (H2 : Hp) (Q : VK) => rExtend (.ref a) [y] H2 Q) (he σ C H ρ e) fun re ρ1 y C1 H1 p r => ?_
 refine At.pk1 fun d q1 => ?_
 have pk := kf p.env r q1
 cases d with
 | lst es =>
  obtain ⟨b, ys, rfl, e1, e2⟩ := pk
  refine At.ownL p.env fun ds b' xs k0 k1 k2 k3 => ?_
  rw [h1] at k1; cases k1
  by_cases hz : ds.length + es.length ≤ sizeLine
  ·rw [if_pos hz]
   refine At.of fun Q hq => ⟨a, b, xs, ys, rfl, rfl, k2, e1, by rw [k3.length, e2.length]; exact hz, ?_⟩
   exact hq .non C1 _ (qh p.env k0 h1 ⟨_, rfl, k3.app e2⟩) (show Is K C1 (.s .non) .non from is_s)
  ·rw [if_neg hz]; exact At.nil
 | _ => exact At.nil
end
def sIncL (i k : Nat) (c : Int) : P Fl := ownL i fun ds => match ds[k]? with
 | some (.s (.int n)) => setL i (ds.set k (.s (.int (n + c)))) .next
 | _ => P.fail
theorem pget_list {X : Cx} : PGet X (fun x y H Q => ∃ p xs k v, x = .ref p ∧ y = .int ((k : Nat) : Int) ∧ SqL X.K H p xs ∧ xs[k]? = some v ∧ Q v H) := by
 intro pins s σ H o i ov iv Q I rx ry h
 obtain ⟨p, xs, k, z, rfl, rfl, hq, he, q⟩ := h
 cases rx
 obtain ⟨t, rfl⟩ := ry
 obtain ⟨its, r, pl, hz⟩ := I.list hq
 obtain ⟨w, ew, rw'⟩ := r.get he
 have hl := r.length
 have hn := line63
 have hk : k < xs.length := (List.getElem?_eq_some_iff.mp he).1
 exact wpAny_getItem_list pl.isList (by omega) (by omega) (by simpa using ew) ⟨z, H, I, rw', q⟩
section
variable {K : PySem.W.Frag} {W : WX} {fx : List Nat} {σ : Sl} {C H : Hp} {ρ : En}
theorem ss_incL {i k : Nat} {c : Int} : SdS K W fx (tAugS (tVar i) (tC (.int ((k : Nat) : Int))) (tC (.int c)) (fun x y H Q => ∃ p xs k v, x = .ref p ∧ y = .int ((k : Nat) : Int) ∧ SqL K H p xs ∧ xs[k]? = some v ∧ Q v H) (rI0 fun i j => .int (i + j)) rSetL) (sIncL i k c) := by
 intro σ C H ρ out D e ho m
 have key : At K W (fun C H σ ρ (v : V) (f : Fl) => f = .next) σ C H ρ (fun H Q => ∃ v, σ[i]? = some (some v) ∧ ∃ p xs k' w, v = .ref p ∧ (V.int ((k : Nat) : Int)) = .int ((k' : Nat) : Int) ∧ SqL K H p xs ∧ xs[k']? = some w ∧
   ∃ a b, w = .int a ∧ V.int c = .int b ∧ rSetL v (.int ((k : Nat) : Int)) (.int (a + b)) H fun H6 => Q .non H6) (sIncL i k c ρ) := by
  refine At.ownL e fun ds a xs h0 h1 h2 h3 => ?_
  cases q : ds[k]? with
  | none => exact At.nil
  | some d =>
   cases d with
   | s x =>
    cases x with
    | int n =>
     obtain ⟨w, hw, hi⟩ := h3.get q
     cases is_s_iff.mp hi
     have hk : k < xs.length := (List.getElem?_eq_some_iff.mp hw).1
     refine At.of fun Q hq => ⟨_, h1, a, xs, k, _, rfl, rfl, SqL.of h2, hw, n, c, rfl, rfl, a, xs, _, k, rfl, rfl, h2, ?_, ?_⟩
     ·unfold ixN
      rw [if_pos (by omega), if_pos (by omega)]
      simp
     ·exact hq .non C _ (qh e h0 h1 ⟨_, rfl, h3.set k is_s⟩) rfl
    | _ => exact At.nil
   | _ => exact At.nil
 refine (key out (fun _ H6 => D.nx σ H6) ho (fun f ρ' z v C' H' p r => ?_) fun x ρ' z d C' H' p q => ?_)
 ·subst z
  cases (show f = Fl.next from r)
  exact m σ C' H' (PostS.of p)
 ·subst z
  exact m d σ C' H' (PostS.of p) q
end
abbrev Tgt := D → En → Option En
def aN (i : Nat) : Tgt := fun d ρ => if i < ρ.length then some (ρ.set i (.dat d)) else none
def aT (n : Nat) (as : List D → En → Option En) : Tgt := fun d ρ => match d with
 | .tup ds => if ds.length = n then as ds ρ else none
 | _ => none
def aNil : List D → En → Option En := fun ds ρ => match ds with
 | [] => some ρ
 | _ => none
def jai (a : Tgt) (as : List D → En → Option En) : List D → En → Option En := fun ds ρ => match ds with
 | d :: ds => match a d ρ with
  | some ρ' => as ds ρ'
  | none => none
 | [] => none
structure PostG (K : PySem.W.Frag) (js : List Nat) (σ : Sl) (C H : Hp) (ρ : En) (σ' : Sl) (C' H' : Hp) (ρ' : En) : Prop where
 step : Step C H C' H' (fun _ => False)
 own : ∀ a, qd σ' ρ' a → qd σ ρ a
 env : EnvOk K C' H' σ' ρ'
 slot : ∀ i, i ∉ js → σ'[i]? = σ[i]?
 len : σ'.length = σ.length
def SdG (K : PySem.W.Frag) (js : List Nat) (tg : TG) (a : Tgt) : Prop := ∀ σ C H ρ d v ρ' Q, EnvOk K C H σ ρ → Is K C d v → a d ρ = some ρ' → (∀ σ' C' H', PostG K js σ C H ρ σ' C' H' ρ' → Q σ' H') → tg v σ H Q
def SdGs (K : PySem.W.Frag) (js : List Nat) (tg : TGs) (a : List D → En → Option En) : Prop := ∀ σ C H ρ ds vs ρ' Q, EnvOk K C H σ ρ → Iss K C ds vs → a ds ρ = some ρ' → (∀ σ' C' H', PostG K js σ C H ρ σ' C' H' ρ' → Q σ' H') → tg vs σ H Q
section
variable {K : PySem.W.Frag} {js ks : List Nat}
theorem PostG.postS {fx : List Nat} {σ σ' : Sl} {C H C' H' : Hp} {ρ ρ' : En} (p : PostG K js σ C H ρ σ' C' H' ρ') (h : ∀ i ∈ fx, i ∉ js) : PostS K fx σ C H ρ σ' C' H' ρ' :=
 ⟨p.step.weak fun _ z => z.elim, fun a z => .inl (p.own a z), p.env, fun i hi => p.slot i (h i hi), p.len⟩
theorem sg_name {i : Nat} : SdG K [i] (gName i) (aN i) := by
 intro σ C H ρ d v ρ' Q e hd ha hq
 obtain ⟨hl, rfl⟩ := yc ha
 have p := put_post (fx := []) e (by simp) hl hd
 refine hq _ C H ⟨Step.refl e.ext, fun a ⟨j, m, h1, h2⟩ => ?_, p.env, fun j hj => ?_, p.len⟩
 ·by_cases hj : i = j
  ·subst hj; rw [List.getElem?_set_self hl] at h1; cases h1
  ·rw [List.getElem?_set_ne hj] at h1 h2; exact ⟨j, m, h1, h2⟩
 ·exact List.getElem?_set_ne (fun z => hj (by simp [z]))
theorem sgs_nil : SdGs K [] gNil aNil := by
 intro σ C H ρ ds vs ρ' Q e hd ha hq
 cases ds with
 | nil =>
  cases ha
  exact ⟨iss_nil_iff.mp hd, hq σ C H ⟨Step.refl e.ext, fun _ h => h, e, fun _ _ => rfl, rfl⟩⟩
 | cons d ds => cases ha
theorem PostG.trans {σ σ1 σ2 : Sl} {C H C1 H1 C2 H2 : Hp} {ρ ρ1 ρ2 : En} (a : PostG K js σ C H ρ σ1 C1 H1 ρ1) (b : PostG K ks σ1 C1 H1 ρ1 σ2 C2 H2 ρ2) : PostG K (js ++ ks) σ C H ρ σ2 C2 H2 ρ2 :=
 ⟨a.step.trans b.step fun _ z => z.elim, fun x h => a.own x (b.own x h), b.env, fun i hi => (b.slot i fun z => hi (List.mem_append_right _ z)).trans (a.slot i fun z => hi (List.mem_append_left _ z)), b.len.trans a.len⟩
theorem sgs_cons {tg : TG} {tgs : TGs} {a : Tgt} {as : List D → En → Option En} (h1 : SdG K js tg a) (h2 : SdGs K ks tgs as) : SdGs K (js ++ ks) (gCons tg tgs) (jai a as) := by
 intro σ C H ρ ds vs ρ' Q e hd ha hq
 cases ds with
 | nil => cases ha
 | cons d ds =>
  obtain ⟨x, r, rfl, k1, k2⟩ := iss_cons_iff.mp hd
  simp only [jai] at ha
  cases q : a d ρ with
  | none => rw [q] at ha; cases ha
  | some ρ1 =>
   rw [q] at ha
   exact ⟨x, r, rfl, h1 σ C H ρ d x ρ1 _ e k1 q fun σ1 C1 H1 p1 => h2 σ1 C1 H1 ρ1 ds r ρ' Q p1.env (Iss.mono p1.step.core ds r k2) ha fun σ2 C2 H2 p2 => hq σ2 C2 H2 (p1.trans p2)⟩
theorem sg_tup {n : Nat} {tgs : TGs} {as : List D → En → Option En} (h : SdGs K js tgs as) : SdG K js (gTup K n tgs) (aT n as) := by
 intro σ C H ρ d v ρ' Q e hd ha hq
 cases d with
 | tup ds =>
  obtain ⟨hl, ha⟩ := (show (if ds.length = n then as ds ρ else none) = some ρ' → ds.length = n ∧ as ds ρ = some ρ' from fun z => by
   by_cases c : ds.length = n
   ·rw [if_pos c] at z; exact ⟨c, z⟩
   ·rw [if_neg c] at z; cases z) ha
  obtain ⟨a, xs, rfl, k1, k2⟩ := is_tup_iff.mp hd
  exact ⟨a, xs, rfl, ex_t e.ext k1, by rw [k2.length]; exact hl, h σ C H ρ ds xs ρ' Q e k2 ha hq⟩
 | s x => cases ha
 | lst ds => cases ha
 | ro ds => cases ha
 | obj c fs => cases ha
 | lam f c zs ks => cases ha
 | dic kvs => cases ha
 | exc c b fs => cases ha
end
def sPar (i j : Nat) (g : P (List D)) : P Fl := g.bind fun ds => match ds with
 | [d, d'] => fun ρ => if i < ρ.length ∧ j < ρ.length then some (.ok .next ((ρ.set i (.dat d)).set j (.dat d'))) else none
 | _ => P.fail
def sExt (i : Nat) (f : P Rv) : P Fl := ownL i fun _ => f.bind fun r => fun ρ => match peek ρ r with
 | some (.lst es) => (ownL i fun ds => if ds.length + es.length ≤ sizeLine then setL i (ds ++ es) .next else P.fail) ρ
 | _ => none
def ItOk (K : PySem.W.Frag) (C : Hp) (J : It) (ds : List D) : Prop := ∀ C' H', Ex C C' → Ex C' H' → ∀ i, (i < ds.length → J.go i H') ∧ (ds.length ≤ i → J.stop i H') ∧
 ∀ x H'' d, J.yld i H' x H'' → ds[i]? = some d → ∃ C'', Step C' H' C'' H'' (fun _ => False) ∧ Is K C'' d x
def jn (K : PySem.W.Frag) (_ : Hp) : Rel It (List D) := fun C _ _ _ J ds => ItOk K C J ds
section
variable {K : PySem.W.Frag} {W : WX}
theorem it_list {C : Hp} {a : Addr} {ds : List D} {xs : List V} (h : SqL K C a xs) (hs : Iss K C ds xs) : ItOk K C (Itl K a) ds := by
 intro C' H' e1 e2 i
 have h' : SqL K H' a xs := ex_l e2 (ex_l e1 h)
 refine ⟨fun hi => ?_, fun hi => ⟨xs, h', by rw [hs.length]; exact hi⟩, fun x H'' d hy hd => ?_⟩
 ·obtain ⟨x, hx, _⟩ := hs.get (List.getElem?_eq_getElem hi)
  exact ⟨xs, x, h', hx⟩
 ·obtain ⟨rfl, hy⟩ := hy
  obtain ⟨y, k1, k2⟩ := hs.get hd
  have k3 := hy xs h'
  rw [k1] at k3; cases k3
  exact ⟨C', Step.refl e2, Is.mono e1 d _ k2⟩
theorem it_tup {C : Hp} {a : Addr} {ds : List D} {xs : List V} (h : SqT K C a xs) (hs : Iss K C ds xs) : ItOk K C (Itt K a) ds := by
 intro C' H' e1 e2 i
 have h' : SqT K H' a xs := ex_t e2 (ex_t e1 h)
 refine ⟨fun hi => ?_, fun hi => ⟨xs, h', by rw [hs.length]; exact hi⟩, fun x H'' d hy hd => ?_⟩
 ·obtain ⟨x, hx, _⟩ := hs.get (List.getElem?_eq_getElem hi)
  exact ⟨xs, x, h', hx⟩
 ·obtain ⟨rfl, hy⟩ := hy
  obtain ⟨y, k1, k2⟩ := hs.get hd
  have k3 := hy xs h'
  rw [k1] at k3; cases k3
  exact ⟨C', Step.refl e2, Is.mono e1 d _ k2⟩
def rngD (lo : Int) (n : Nat) : List D := (List.range n).map fun i => .s (.int (lo + (i : Nat)))
theorem waa {lo : Int} {n i : Nat} {d : D} (h : (rngD lo n)[i]? = some d) : i < n ∧ d = .s (.int (lo + (i : Nat))) := by
 unfold rngD at h
 rw [List.getElem?_map] at h
 by_cases hi : i < n
 ·rw [List.getElem?_range hi] at h
  exact ⟨hi, (Option.some.inj h).symm⟩
 ·rw [List.getElem?_eq_none (by rw [List.length_range]; omega)] at h
  cases h
theorem wk (lo : Int) (n : Nat) : (rngD lo n).length = n := by unfold rngD; rw [List.length_map, List.length_range]
theorem it_rng {C : Hp} {lo : Int} {n : Nat} : ItOk K C (Itr lo n) (rngD lo n) := by
 intro C' H' e1 e2 i
 refine ⟨fun hi => by rw [wk] at hi; exact hi, fun hi => by rw [wk] at hi; exact hi, fun x H'' d hy hd => ?_⟩
 obtain ⟨rfl, rfl⟩ := hy
 obtain ⟨_, rfl⟩ := waa hd
 exact ⟨C', Step.refl e2, is_s⟩
def jay (z : Str) : List D := z.cps.toList.map fun c => .s (.str ⟨#[c]⟩)
theorem it_str {C : Hp} {z : Str} : ItOk K C (Its z) (jay z) := by
 intro C' H' e1 e2 i
 have hl : (jay z).length = z.cps.size := by unfold jay; rw [List.length_map, Array.length_toList]
 refine ⟨fun hi => by rw [hl] at hi; exact hi, fun hi => by rw [hl] at hi; exact hi, fun x H'' d hy hd => ?_⟩
 obtain ⟨rfl, c, hc, rfl⟩ := hy
 unfold jay at hd
 rw [List.getElem?_map, Array.getElem?_toList, hc] at hd
 cases hd
 exact ⟨C', Step.refl e2, is_s⟩
def jc (n : Nat) : List D → List D
 | [] => []
 | d :: ds => .tup [.s (.int (n : Nat)), d] :: jc (n + 1) ds
theorem jw : ∀ (n : Nat) (ds : List D), (jc n ds).length = ds.length
 | _, [] => rfl
 | n, d :: ds => by unfold jc; rw [List.length_cons, List.length_cons, jw]
theorem wai : ∀ {n : Nat} {ds : List D} {i : Nat} {d : D}, (jc n ds)[i]? = some d → ∃ x, ds[i]? = some x ∧ d = .tup [.s (.int ((n + i : Nat))), x]
 | n, [], i, d, h => by simp [jc] at h
 | n, x :: ds, 0, d, h => by simp [jc] at h; exact ⟨x, rfl, by rw [← h]; rfl⟩
 | n, x :: ds, i + 1, d, h => by
  obtain ⟨y, h1, h2⟩ := wai (n := n + 1) (ds := ds) (i := i) (d := d) (by simpa [jc] using h)
  exact ⟨y, by simpa using h1, by rw [h2, show n + 1 + i = n + (i + 1) by omega]⟩
theorem it_enum {C : Hp} {a : Addr} {ds : List D} {xs : List V} (h : SqL K C a xs) (hs : Iss K C ds xs) : ItOk K C (Ite K a) (jc 0 ds) := by
 intro C' H' e1 e2 i
 have h' : SqL K H' a xs := ex_l e2 (ex_l e1 h)
 refine ⟨fun hi => ?_, fun hi => ⟨xs, h', by rw [hs.length]; rw [jw] at hi; exact hi⟩, fun x H'' d hy hd => ?_⟩
 ·rw [jw] at hi
  obtain ⟨x, hx, _⟩ := hs.get (List.getElem?_eq_getElem hi)
  exact ⟨xs, x, h', hx⟩
 ·obtain ⟨T, y, rfl, hT, rfl, hy⟩ := hy
  obtain ⟨z, k1, rfl⟩ := wai hd
  obtain ⟨w, k2, k3⟩ := hs.get k1
  obtain rfl : w = y := Option.some.inj (k2.symm.trans (hy xs h'))
  have st := Step.newD (o := .tup [.int (i : Nat), w]) e2 hT
  refine ⟨_, st, xaz (SqT.of upd_same) (yb ?_ (yb (Is.mono (e1.trans st.core) z w k3) kc))⟩
  rw [Nat.zero_add]
  exact is_s
def zipD : List D → List D → List D
 | d :: ds, e :: es => .tup [d, e] :: zipD ds es
 | _, _ => []
theorem z8 : ∀ (ds es : List D), (zipD ds es).length = min ds.length es.length
 | [], _ => by simp [zipD]
 | _ :: _, [] => by simp [zipD]
 | _ :: ds, _ :: es => by simp only [zipD, List.length_cons, z8 ds es]; omega
theorem ya2 : ∀ {ds es : List D} {i : Nat} {d : D}, (zipD ds es)[i]? = some d → ∃ x y, ds[i]? = some x ∧ es[i]? = some y ∧ d = .tup [x, y]
 | [], _, i, d, h => by simp [zipD] at h
 | _ :: _, [], i, d, h => by simp [zipD] at h
 | x :: ds, y :: es, 0, d, h => by simp [zipD] at h; exact ⟨x, y, rfl, rfl, h.symm⟩
 | x :: ds, y :: es, i + 1, d, h => by
  obtain ⟨a, b, h1, h2, h3⟩ := ya2 (ds := ds) (es := es) (i := i) (d := d) (by simpa [zipD] using h)
  exact ⟨a, b, by simpa using h1, by simpa using h2, h3⟩
theorem it_zip {C : Hp} {a b : Addr} {ds es : List D} {xs ys : List V} (h : SqL K C a xs) (hs : Iss K C ds xs) (g : SqL K C b ys) (gs : Iss K C es ys) : ItOk K C (Itz K a b) (zipD ds es) := by
 intro C' H' e1 e2 i
 have h' : SqL K H' a xs := ex_l e2 (ex_l e1 h)
 have g' : SqL K H' b ys := ex_l e2 (ex_l e1 g)
 refine ⟨fun hi => ?_, fun hi => ⟨xs, ys, h', g', ?_⟩, fun x H'' d hy hd => ?_⟩
 ·rw [z8] at hi
  obtain ⟨x, hx, _⟩ := hs.get (List.getElem?_eq_getElem (show i < ds.length by omega))
  obtain ⟨y, hy, _⟩ := gs.get (List.getElem?_eq_getElem (show i < es.length by omega))
  exact ⟨xs, ys, x, y, h', g', hx, hy⟩
 ·rw [z8] at hi
  rw [hs.length, gs.length]
  omega
 ·obtain ⟨T, y, z, rfl, hT, rfl, hy, hz⟩ := hy
  obtain ⟨u, w, k1, k2, rfl⟩ := ya2 hd
  obtain ⟨u', k3, k4⟩ := hs.get k1
  obtain ⟨w', k5, k6⟩ := gs.get k2
  obtain rfl : u' = y := Option.some.inj (k3.symm.trans (hy xs h'))
  obtain rfl : w' = z := Option.some.inj (k5.symm.trans (hz ys g'))
  have st := Step.newD (o := .tup [u', w']) e2 hT
  exact ⟨_, st, xaz (SqT.of upd_same) (yb (Is.mono (e1.trans st.core) u u' k4) (yb (Is.mono (e1.trans st.core) w w' k6) kc))⟩
end
end PL
namespace PL
open PySem L2
def iX (K : PySem.W.Frag) (tl : TE) : TI := fun σ H R => iList K tl σ H R ∨ iTup K tl σ H R ∨ iStr tl σ H R
theorem pi_X {X : Cx} {tg l : Expr} {tl : TE} (hl : PE X l tl) : PI X tg l (iX X.K tl) := by
 refine ⟨fun pins s σ H R I h => ?_⟩
 rcases h with h | h | h
 ·exact (pi_list hl).run pins s σ H R I h
 ·exact (pi_tup hl).run pins s σ H R I h
 ·exact (pi_str hl).run pins s σ H R I h
def walked : D → Option (List D)
 | .s (.str z) => some (jay z)
 | d => items d
def qr (f : P Rv) : P (List D) := (yj f).bind fun d => P.of (walked d)
section
variable {K : PySem.W.Frag} {W : WX} {σ : Sl} {C H : Hp} {ρ : En}
theorem sd_iter {tl : TE} {f : P Rv} (hf : Sd K W (VRel K) tl f) : Sd K W (jn K) (iX K tl) (qr f) := by
 intro σ C H ρ e out Q ho hok hex
 have hg := kj hf σ C H ρ e
 rcases ji (show jd (yj f ρ) _ = some out from ho) with ⟨x, r, h1, rfl⟩ | ⟨d, r, h1, h2⟩
 ·refine .inl (hg _ _ h1 (fun a ρ' z => by cases z) fun x' ρ' z d C' H' p q => ?_)
  cases z
  exact hex x r rfl d C' H' p q
 ·unfold P.of at h2
  cases q : walked d with
  | none => rw [q] at h2; cases h2
  | some ds =>
   rw [q] at h2; cases h2
   cases d with
   | s x =>
    cases x with
    | str z =>
     cases q
     refine .inr (.inr (hg _ _ h1 (fun a ρ' z v C' H' p r => ?_) fun x' ρ' z => by cases z))
     cases z
     cases is_s_iff.mp r
     exact ⟨_, rfl, hok _ _ rfl _ C' H' p it_str⟩
    | _ => cases q
   | tup es =>
    cases q
    refine .inr (.inl (hg _ _ h1 (fun a ρ' z v C' H' p r => ?_) fun x' ρ' z => by cases z))
    cases z
    obtain ⟨b, xs, rfl, k1, k2⟩ := is_tup_iff.mp r
    exact ⟨b, rfl, ⟨xs, ex_t p.env.ext k1⟩, hok _ _ rfl _ C' H' p (it_tup k1 k2)⟩
   | lst es =>
    cases q
    refine .inl (hg _ _ h1 (fun a ρ' z v C' H' p r => ?_) fun x' ρ' z => by cases z)
    cases z
    obtain ⟨b, xs, rfl, k1, k2⟩ := is_lst_iff.mp r
    exact ⟨b, rfl, ⟨xs, SqL.of (p.env.ext.1 _ _ k1 zk)⟩, hok _ _ rfl _ C' H' p (it_list (SqL.of k1) k2)⟩
   | ro es =>
    cases q
    refine .inl (hg _ _ h1 (fun a ρ' z v C' H' p r => ?_) fun x' ρ' z => by cases z)
    cases z
    obtain ⟨b, xs, rfl, k1, k2⟩ := is_ro_iff.mp r
    exact ⟨b, rfl, ⟨xs, ex_l p.env.ext k1⟩, hok _ _ rfl _ C' H' p (it_list k1 k2)⟩
   | obj c fs => cases q
   | lam f c zs ks => cases q
   | dic kvs => cases q
   | exc c b fs => cases q
@[irreducible] def inBd (j : Int) : Bool := decide (-(2 ^ 62) ≤ j) && decide (j < 2 ^ 62)
theorem ybn {j : Int} (h : inBd j = true) : -(2 ^ 62) ≤ j ∧ j < 2 ^ 62 := by
 unfold inBd at h
 simp only [Bool.and_eq_true, decide_eq_true_eq] at h
 exact h
def qbc (fs : P (List Rv)) : P (List D) := fs.bind fun rs => pks rs fun ds => match ds with
 | [.s (.int j)] => if inBd j = true then P.ret (rngD 0 j.toNat) else P.fail
 | _ => P.fail
def fRng2 (fs : P (List Rv)) : P (List D) := fs.bind fun rs => pks rs fun ds => match ds with
 | [.s (.int i), .s (.int j)] => if inBd i = true ∧ inBd j = true then P.ret (rngD i (j - i).toNat) else P.fail
 | _ => P.fail
theorem sd_rng1 {t : TA} {fs : P (List Rv)} (hf : Sd K W (vax K) t fs) : Sd K W (jn K) (iRng1 t) (qbc fs) := by
 intro σ C H ρ e
 show At K W (jn K H) σ C H ρ (fun H R => t σ H fun vs H1 => ∃ j : Int, vs = [.int j] ∧ -(2 ^ 62) ≤ j ∧ j < 2 ^ 62 ∧ R (Itr 0 j.toNat) H1) (jd (fs ρ) fun rs => pks rs fun ds => match ds with
  | [.s (.int j)] => if inBd j = true then P.ret (rngD 0 j.toNat) else P.fail
  | _ => P.fail)
 refine At.bind (tk := fun (vs : List V) (H1 : Hp) (R : It → Hp → Prop) => ∃ j : Int, vs = [.int j] ∧ -(2 ^ 62) ≤ j ∧ j < 2 ^ 62 ∧ R (Itr 0 j.toNat) H1) (hf σ C H ρ e) fun rs ρ1 vs C1 H1 p1 r1 => ?_
 refine At.pks fun ds q1 => ?_
 have pk := qa8 p1.env r1 q1
 split
 ·obtain ⟨v, r, rfl, k1, k2⟩ := pks1 pk
  cases pks0 k2
  cases pk_s.mp k1
  rename_i j
  by_cases hb : inBd j = true
  ·rw [if_pos hb]
   obtain ⟨b1, b2⟩ := ybn hb
   exact At.imp (At.ret (R := jn K H) p1.env (it_rng (K := K) (C := C1) (lo := 0) (n := j.toNat))) fun Q h => ⟨j, rfl, b1, b2, h⟩
  ·rw [if_neg hb]; exact At.nil
 ·exact At.nil
theorem sd_rng2 {t : TA} {fs : P (List Rv)} (hf : Sd K W (vax K) t fs) : Sd K W (jn K) (iRng2 t) (fRng2 fs) := by
 intro σ C H ρ e
 show At K W (jn K H) σ C H ρ (fun H R => t σ H fun vs H1 => ∃ i j : Int, vs = [.int i, .int j] ∧ (-(2 ^ 62) ≤ i ∧ i < 2 ^ 62 ∧ -(2 ^ 62) ≤ j ∧ j < 2 ^ 62) ∧ R (Itr i (j - i).toNat) H1) (jd (fs ρ) fun rs => pks rs fun ds => match ds with
  | [.s (.int i), .s (.int j)] => if inBd i = true ∧ inBd j = true then P.ret (rngD i (j - i).toNat) else P.fail
  | _ => P.fail)
 refine At.bind (tk := fun (vs : List V) (H1 : Hp) (R : It → Hp → Prop) => ∃ i j : Int, vs = [.int i, .int j] ∧ (-(2 ^ 62) ≤ i ∧ i < 2 ^ 62 ∧ -(2 ^ 62) ≤ j ∧ j < 2 ^ 62) ∧ R (Itr i (j - i).toNat) H1) (hf σ C H ρ e) fun rs ρ1 vs C1 H1 p1 r1 => ?_
 refine At.pks fun ds q1 => ?_
 have pk := qa8 p1.env r1 q1
 split
 ·obtain ⟨v, r, rfl, k1, k2⟩ := pks1 pk
  obtain ⟨v', r', rfl, k3, k4⟩ := pks1 k2
  cases pks0 k4
  cases pk_s.mp k1
  cases pk_s.mp k3
  rename_i i j
  by_cases hb : inBd i = true ∧ inBd j = true
  ·rw [if_pos hb]
   obtain ⟨b1, b2⟩ := ybn hb.1
   obtain ⟨b3, b4⟩ := ybn hb.2
   exact At.imp (At.ret (R := jn K H) p1.env (it_rng (K := K) (C := C1) (lo := i) (n := (j - i).toNat))) fun Q h => ⟨i, j, rfl, ⟨b1, b2, b3, b4⟩, h⟩
  ·rw [if_neg hb]; exact At.nil
 ·exact At.nil
theorem it_zipT {C : Hp} {a b : Addr} {ds es : List D} {xs ys : List V} (h : SqT K C a xs) (hs : Iss K C ds xs) (g : SqT K C b ys) (gs : Iss K C es ys) : ItOk K C (RZ.ItzT K a b) (zipD ds es) := by
 intro C' H' e1 e2 i
 have h' : SqT K H' a xs := ex_t e2 (ex_t e1 h)
 have g' : SqT K H' b ys := ex_t e2 (ex_t e1 g)
 refine ⟨fun hi => ?_, fun hi => ⟨xs, ys, h', g', ?_⟩, fun x H'' d hy hd => ?_⟩
 ·rw [z8] at hi
  obtain ⟨x, hx, _⟩ := hs.get (List.getElem?_eq_getElem (show i < ds.length by omega))
  obtain ⟨y, hy, _⟩ := gs.get (List.getElem?_eq_getElem (show i < es.length by omega))
  exact ⟨xs, ys, x, y, h', g', hx, hy⟩
 ·rw [z8] at hi
  rw [hs.length, gs.length]
  omega
 ·obtain ⟨T, y, z, rfl, hT, rfl, hy, hz⟩ := hy
  obtain ⟨u, w, k1, k2, rfl⟩ := ya2 hd
  obtain ⟨u', k3, k4⟩ := hs.get k1
  obtain ⟨w', k5, k6⟩ := gs.get k2
  obtain rfl : u' = y := Option.some.inj (k3.symm.trans (hy xs h'))
  obtain rfl : w' = z := Option.some.inj (k5.symm.trans (hz ys g'))
  have st := Step.newD (o := .tup [u', w']) e2 hT
  exact ⟨_, st, xaz (SqT.of upd_same) (yb (Is.mono (e1.trans st.core) u u' k4) (yb (Is.mono (e1.trans st.core) w w' k6) kc))⟩
def fZip (g : P (List D)) : P (List D) := g.bind fun ds => match ds with
 | [.lst es, .lst fs] => P.ret (zipD es fs)
 | [.tup es, .tup fs] => P.ret (zipD es fs)
 | _ => P.fail
theorem sd_zip {t : TA} {g : P (List D)} (hf : Sd K W (xak K) t g) : Sd K W (jn K) (RZ.iZipA K t) (fZip g) := by
 intro σ C H ρ e
 show At K W (jn K H) σ C H ρ (fun H R => t σ H fun vs H1 => ∃ a b xs ys, vs = [.ref a, .ref b] ∧ ((SqL K H1 a xs ∧ SqL K H1 b ys ∧ R (Itz K a b) H1) ∨ (SqT K H1 a xs ∧ SqT K H1 b ys ∧ R (RZ.ItzT K a b) H1))) (jd (g ρ) fun ds => match ds with
  | [.lst es, .lst fs] => P.ret (zipD es fs)
  | [.tup es, .tup fs] => P.ret (zipD es fs)
  | _ => P.fail)
 refine At.bind (tk := fun (vs : List V) (H1 : Hp) (R : It → Hp → Prop) => ∃ a b xs ys, vs = [.ref a, .ref b] ∧ ((SqL K H1 a xs ∧ SqL K H1 b ys ∧ R (Itz K a b) H1) ∨ (SqT K H1 a xs ∧ SqT K H1 b ys ∧ R (RZ.ItzT K a b) H1))) (hf σ C H ρ e) fun ds ρ1 vs C1 H1 p1 r1 => ?_
 split
 ·obtain ⟨v, r, rfl, k1, k2⟩ := iss_cons_iff.mp r1
  obtain ⟨v', r', rfl, k3, k4⟩ := iss_cons_iff.mp k2
  cases iss_nil_iff.mp k4
  obtain ⟨a, xs, rfl, k5, k6⟩ := is_lst_iff.mp k1
  obtain ⟨b, ys, rfl, k7, k8⟩ := is_lst_iff.mp k3
  exact At.imp (At.ret (R := jn K H) p1.env (it_zip (SqL.of k5) k6 (SqL.of k7) k8)) fun Q h => ⟨a, b, xs, ys, rfl, .inl ⟨SqL.of (p1.env.ext.1 _ _ k5 zk), SqL.of (p1.env.ext.1 _ _ k7 zk), h⟩⟩
 ·obtain ⟨v, r, rfl, k1, k2⟩ := iss_cons_iff.mp r1
  obtain ⟨v', r', rfl, k3, k4⟩ := iss_cons_iff.mp k2
  cases iss_nil_iff.mp k4
  obtain ⟨a, xs, rfl, k5, k6⟩ := is_tup_iff.mp k1
  obtain ⟨b, ys, rfl, k7, k8⟩ := is_tup_iff.mp k3
  exact At.imp (At.ret (R := jn K H) p1.env (it_zipT k5 k6 k7 k8)) fun Q h => ⟨a, b, xs, ys, rfl, .inr ⟨ex_t p1.env.ext k5, ex_t p1.env.ext k7, h⟩⟩
 ·exact At.nil
end
def wab (a : Tgt) (body : P Fl) : List D → P Fl
 | [] => P.ret .next
 | d :: ds => fun ρ => match a d ρ with
  | none => none
  | some ρ1 => jd (body ρ1) fun f => match f with
   | .next => wab a body ds
   | .cont => wab a body ds
   | .brk => P.ret .next
   | .ret r => P.ret (.ret r)
def sFor (fi : P (List D)) (a : Tgt) (body : P Fl) : P Fl := fi.bind fun ds => wab a body ds
theorem xap {α : Type} {l : List α} {i : Nat} {x : α} (h : l[i]? = some x) : l.drop i = x :: l.drop (i + 1) := by
 obtain ⟨h1, h2⟩ := List.getElem?_eq_some_iff.mp h
 rw [List.drop_eq_getElem_cons h1, h2]
section
variable {K : PySem.W.Frag} {W : WX} {fx js : List Nat}
theorem ss_for {wi : TI} {fi : P (List D)} {tg : TG} {a : Tgt} {tb : TS} {body : P Fl} (hj : ∀ i ∈ fx, i ∉ js) (hi : Sd K W (jn K) wi fi) (hg : SdG K js tg a) (hb : SdS K W fx tb body) : SdS K W fx (tFor wi tg tb) (sFor fi a body) := by
 intro σ C H ρ out D e ho m
 refine yl (k := fun ds => wab a body ds) (Q := fun J H1 => ∃ W : Nat → Nat → L2.St → Hp → Prop, (∃ m, W 0 m σ H1) ∧ ∀ i m σ H, W i m σ H →
  (J.stop i H ∧ D.nx σ H) ∨ (J.go i H ∧ ∃ N : L2.St → Hp → Prop, (∀ σ' H', N σ' H' → ∃ m', m' < m ∧ W (i + 1) m' σ' H') ∧ ∀ x H', J.yld i H x H' → tg x σ H' fun σ2 H2 => tb { D with nx := N, ct := N, bk := D.nx } σ2 H2)) hi e ho m fun ds ρ1 J C1 H1 p r k => ?_
 refine ⟨fun i n σ' H' => ∃ C' ρ', n = ds.length - i ∧ i ≤ ds.length ∧ PostS K fx σ C1 H1 ρ1 σ' C' H' ρ' ∧ wab a body (ds.drop i) ρ' = some out, ⟨ds.length, C1, ρ1, by simp, Nat.zero_le _, PostS.refl p.env, k⟩, ?_⟩
 rintro i n σ' H' ⟨C', ρ', rfl, hi, q, ho'⟩
 have it := r C' H' q.step.core q.env.ext i
 by_cases hlt : i < ds.length
 ·obtain ⟨d, hd⟩ : ∃ d, ds[i]? = some d := ⟨_, List.getElem?_eq_getElem hlt⟩
  rw [xap hd] at ho'
  refine .inr ⟨it.1 hlt, fun σ2 H2 => ∃ C2 ρ2, PostS K fx σ C1 H1 ρ1 σ2 C2 H2 ρ2 ∧ wab a body (ds.drop (i + 1)) ρ2 = some out, fun σ2 H2 ⟨C2, ρ2, h1, h2⟩ => ⟨ds.length - (i + 1), by omega, C2, ρ2, rfl, hlt, h1, h2⟩, fun x H'' hy => ?_⟩
  obtain ⟨C'', st, hx⟩ := it.2.2 x H'' d hy hd
  have e2 : EnvOk K C'' H'' σ' ρ' := q.env.step st
  have q2 : PostS K fx σ C1 H1 ρ1 σ' C'' H'' ρ' := q.trans (PostS.of (Post.of_step q.env st))
  unfold wab at ho'
  cases z : a d ρ' with
  | none => rw [z] at ho'; cases ho'
  | some ρ2 =>
   rw [z] at ho'
   refine hg σ' C'' H'' ρ' d x ρ2 _ e2 hx z fun σ3 C3 H3 p3 => ?_
   have q3 := q2.trans (p3.postS hj)
   rcases ji ho' with ⟨x', r', h1, rfl⟩ | ⟨f, r', h1, h2⟩
   ·exact hb σ3 C3 H3 ρ2 _ _ p3.env h1 (Met.later q3 (Met.later (PostS.of p) m))
   ·cases f with
    | next => exact hb σ3 C3 H3 ρ2 _ _ p3.env h1 fun σ4 C4 H4 p4 => ⟨C4, r', q3.trans p4, h2⟩
    | cont => exact hb σ3 C3 H3 ρ2 _ _ p3.env h1 fun σ4 C4 H4 p4 => ⟨C4, r', q3.trans p4, h2⟩
    | brk =>
     cases h2
     exact hb σ3 C3 H3 ρ2 _ _ p3.env h1 fun σ4 C4 H4 p4 => m σ4 C4 H4 (((PostS.of p).trans q3).trans p4)
    | ret v =>
     cases h2
     exact hb σ3 C3 H3 ρ2 _ _ p3.env h1 (Met.later q3 (Met.later (PostS.of p) m))
 ·have ei : i = ds.length := by omega
  subst ei
  rw [List.drop_length] at ho'
  cases ho'
  exact .inl ⟨it.2.1 (Nat.le_refl _), m σ' C' H' ((PostS.of p).trans q)⟩
end
end PL
namespace PL
open PySem L2
def vg (ρ : En) : List Nat → En
 | [] => ρ
 | v :: vs => (vg ρ vs).set v .no
def j7 (ρ0 ρ : En) : List Nat → En
 | [] => ρ
 | v :: vs => match ρ0[v]? with
  | some c => (j7 ρ0 ρ vs).set v c
  | none => j7 ρ0 ρ vs
def vt (vs : List Nat) (a : Tgt) (tests : P Bool) (elt : P Rv) : List D → List D → En → Option (List D × En)
 | [], acc, ρ => some (acc, ρ)
 | d :: ds, acc, ρ => match a d ρ with
  | none => none
  | some ρ1 => match tests ρ1 with
   | some (.ok true ρ2) => (match yj elt ρ2 with
    | some (.ok y ρ3) => if acc.length < sizeLine then vt vs a tests elt ds (acc ++ [y]) (vg ρ3 vs) else none
    | _ => none)
   | some (.ok false ρ2) => vt vs a tests elt ds acc (vg ρ2 vs)
   | _ => none
def ko (vs : List Nat) (fi : P (List D)) (a : Tgt) (tests : P Bool) (elt : P Rv) : P Rv := fi.bind fun ds => fun ρ => match vt vs a tests elt ds [] (vg ρ vs) with
 | some (acc, ρ') => some (.ok (.new (.lst acc)) (j7 ρ ρ' vs))
 | none => none
def fYes : P Bool := P.ret true
theorem kg (σ : Sl) (i : Nat) : ∀ vs : List Nat, (wipe σ vs)[i]? = if i ∈ vs then (if i < σ.length then some none else none) else σ[i]?
 | [] => by simp [wipe]
 | v :: vs => by
  have ih := kg σ i vs
  unfold wipe
  by_cases h : v = i
  ·subst h
   rw [if_pos List.mem_cons_self]
   by_cases hl : v < σ.length
   ·rw [if_pos hl, List.getElem?_set_self (by rw [wipe_length]; exact hl)]
   ·rw [if_neg hl, List.getElem?_eq_none (by rw [List.length_set, wipe_length]; omega)]
  ·rw [List.getElem?_set_ne h, ih]
   have : i ∈ v :: vs ↔ i ∈ vs := by simp [Ne.symm h]
   simp only [this]
theorem k9 (ρ : En) : ∀ vs : List Nat, (vg ρ vs).length = ρ.length
 | [] => rfl
 | v :: vs => by unfold vg; rw [List.length_set, k9 ρ vs]
theorem ju (ρ : En) (i : Nat) : ∀ vs : List Nat, (vg ρ vs)[i]? = if i ∈ vs then (if i < ρ.length then some .no else none) else ρ[i]?
 | [] => by simp [vg]
 | v :: vs => by
  have ih := ju ρ i vs
  unfold vg
  by_cases h : v = i
  ·subst h
   rw [if_pos List.mem_cons_self]
   by_cases hl : v < ρ.length
   ·rw [if_pos hl, List.getElem?_set_self (by rw [k9]; exact hl)]
   ·rw [if_neg hl, List.getElem?_eq_none (by rw [List.length_set, k9]; omega)]
  ·rw [List.getElem?_set_ne h, ih]
   have : i ∈ v :: vs ↔ i ∈ vs := by simp [Ne.symm h]
   simp only [this]
theorem ku (ρ0 ρ : En) : ∀ vs : List Nat, (j7 ρ0 ρ vs).length = ρ.length
 | [] => rfl
 | v :: vs => by
  unfold j7
  cases ρ0[v]? with
  | none => exact ku ρ0 ρ vs
  | some c => rw [List.length_set]; exact ku ρ0 ρ vs
theorem yu (ρ0 ρ : En) (i : Nat) (hl : ρ0.length = ρ.length) : ∀ vs : List Nat, (j7 ρ0 ρ vs)[i]? = if i ∈ vs then ρ0[i]? else ρ[i]?
 | [] => by simp [j7]
 | v :: vs => by
  have ih := yu ρ0 ρ i hl vs
  unfold j7
  cases q : ρ0[v]? with
  | none =>
   by_cases h : v = i
   ·subst h
    rw [if_pos List.mem_cons_self, q]
    have : ρ0.length ≤ v := List.getElem?_eq_none_iff.mp q
    exact List.getElem?_eq_none (by rw [ku]; omega)
   ·have : i ∈ v :: vs ↔ i ∈ vs := by simp [Ne.symm h]
    simp only [this]
    exact ih
  | some c =>
   have hv : v < ρ0.length := (List.getElem?_eq_some_iff.mp q).1
   by_cases h : v = i
   ·subst h
    rw [if_pos List.mem_cons_self]
    dsimp only
    rw [List.getElem?_set_self (by rw [ku]; omega), q]
   ·dsimp only
    rw [List.getElem?_set_ne h, ih]
    have : i ∈ v :: vs ↔ i ∈ vs := by simp [Ne.symm h]
    simp only [this]
section
variable {K : PySem.W.Frag} {σ : Sl} {C H : Hp} {ρ : En} {vs : List Nat}
theorem wo {a : Addr} (h : qd (wipe σ vs) (vg ρ vs) a) : ∃ (i : Nat) (m : M), i ∉ vs ∧ ρ[i]? = some (.own m) ∧ σ[i]? = some (some (.ref a)) := by
 obtain ⟨i, m, h1, h2⟩ := h
 rw [ju] at h1
 rw [kg] at h2
 by_cases hi : i ∈ vs
 ·rw [if_pos hi] at h1
  by_cases hl : i < ρ.length
  ·rw [if_pos hl] at h1; cases h1
  ·rw [if_neg hl] at h1; cases h1
 ·rw [if_neg hi] at h1 h2
  exact ⟨i, m, hi, h1, h2⟩
theorem EnvOk.wipe (e : EnvOk K C H σ ρ) : EnvOk K C H (L2.wipe σ vs) (vg ρ vs) := by
 refine ⟨by rw [wipe_length, k9]; exact e.len, e.ext, fun i c h => ?_, fun i j m n a h1 h2 h3 h4 => ?_, e.tab⟩
 ·rw [ju] at h
  rw [kg]
  by_cases hi : i ∈ vs
  ·rw [if_pos hi] at h ⊢
   by_cases hl : i < ρ.length
   ·rw [if_pos hl] at h; cases h
    rw [if_pos (by rw [e.len]; exact hl)]
    exact ⟨none, rfl, trivial⟩
   ·rw [if_neg hl] at h; cases h
  ·rw [if_neg hi] at h ⊢
   exact e.cell i c h
 ·obtain ⟨hi, h1'⟩ : i ∉ vs ∧ ρ[i]? = some (.own m) := by
   rw [ju] at h1
   by_cases hi : i ∈ vs
   ·rw [if_pos hi] at h1
    by_cases hl : i < ρ.length
    ·rw [if_pos hl] at h1; cases h1
    ·rw [if_neg hl] at h1; cases h1
   ·rw [if_neg hi] at h1; exact ⟨hi, h1⟩
  obtain ⟨hj, h2'⟩ : j ∉ vs ∧ ρ[j]? = some (.own n) := by
   rw [ju] at h2
   by_cases hi : j ∈ vs
   ·rw [if_pos hi] at h2
    by_cases hl : j < ρ.length
    ·rw [if_pos hl] at h2; cases h2
    ·rw [if_neg hl] at h2; cases h2
   ·rw [if_neg hi] at h2; exact ⟨hi, h2⟩
  rw [kg, if_neg hi] at h3
  rw [kg, if_neg hj] at h4
  exact e.inj i j m n a h1' h2' h3 h4
theorem wipe_eq {σ' : Sl} {js : List Nat} (hs : ∀ i, i ∉ js → σ'[i]? = (wipe σ vs)[i]?) (hl : σ'.length = (wipe σ vs).length) (hj : ∀ j ∈ js, j ∈ vs) : wipe σ' vs = wipe σ vs := by
 apply List.ext_getElem?
 intro i
 rw [kg, kg σ]
 rw [wipe_length] at hl
 by_cases hi : i ∈ vs
 ·rw [if_pos hi, if_pos hi, hl]
 ·rw [if_neg hi, if_neg hi, hs i fun z => hi (hj i z), kg, if_neg hi]
theorem EnvOk.aside {L : Addr} {o : HO} (e : EnvOk K C H σ ρ) (hc : C L = none) (hn : ¬ qd σ ρ L) (hx : ∀ u, H L = some u → NX u) : EnvOk K C (upd H L o) σ ρ := by
 refine ⟨e.len, ⟨fun a u h n => ?_, fun a h => ?_⟩, fun i c h => ?_, e.inj, fun P h => xu (e.tab P h) hx⟩
 ·rw [upd_ne (fun z => by rw [z, hc] at h; cases h)]; exact e.ext.1 a u h n
 ·by_cases hb : a = L
  ·rw [hb]; exact hc
  ·rw [upd_ne hb] at h; exact e.ext.2 a h
 ·obtain ⟨v, hv, ok⟩ := e.cell i c h
  refine ⟨v, hv, ?_⟩
  cases c with
  | no => trivial
  | dat d => exact ok
  | own m =>
   obtain ⟨p, u, q1, q2, q3, q4⟩ := ok
   refine ⟨p, u, q1, q2, ?_, q4⟩
   rw [upd_ne (fun z => hn ⟨i, m, h, by rw [hv, q1, z]⟩)]; exact q3
end
structure CompI (K : PySem.W.Frag) (σ : Sl) (vs : List Nat) (C1 H1 : Hp) (ρ1 : En) (L : Addr) (acc : List D) (C H : Hp) (ρ : En) : Prop where
 env : EnvOk K C H (wipe σ vs) ρ
 step : Step C1 H1 C H (qd (wipe σ vs) (vg ρ1 vs))
 own : ∀ a, qd (wipe σ vs) ρ a → qd (wipe σ vs) (vg ρ1 vs) a
 lst : ∃ xs, H L = some (.lst xs) ∧ Iss K C acc xs
 core : C L = none
section
variable {K : PySem.W.Frag} {W : WX} {js vs : List Nat}
theorem no_exn {σ : Sl} {C H : Hp} {ρ : En} {α' α : Type} {R : Rel α' α} {t : Rd1 α'} {o : Option (Out α)} (h : At K (fun _ _ _ _ => False) R σ C H ρ t o) {a : α} {ρ' : En} (e : o = some (.ok a ρ')) {Q : α' → Hp → Prop}
  (hq : ∀ v C' H', Post K σ C H ρ C' H' ρ' → R C' H' σ ρ' v a → Q v H') : t H Q := by
 refine h _ Q e (fun b ρ2 z v C' H' p r => ?_) fun x ρ2 z => by cases z
 cases z
 exact hq v C' H' p r
theorem sd_comp {wi : TI} {fi : P (List D)} {tg : TG} {a : Tgt} {tt : TT} {tests : P Bool} {te : TE} {elt : P Rv} (hj : ∀ j ∈ js, j ∈ vs) (hi : Sd K W (jn K) wi fi) (hg : SdG K js tg a)
  (ht : Sd K (fun _ _ _ _ => False) BRel tt tests) (he : Sd K (fun _ _ _ _ => False) (VRel K) te elt) : Sd K W (VRel K) (tLc wi tg tt te vs) (ko vs fi a tests elt) := by
 intro σ C H ρ e out Q ho hok hex
 rcases ji (show jd (fi ρ) _ = some out from ho) with ⟨x, r, h1, rfl⟩ | ⟨ds, ρ1, h1, h2⟩
 ·refine hi σ C H ρ e _ _ h1 (fun a ρ' z => by cases z) fun x' ρ' z d C' H' p q => ?_
  cases z
  exact hex x r rfl d C' H' p q
 refine hi σ C H ρ e _ _ h1 (fun ds' ρ' z J C1 H1 p1 r => ?_) fun x' ρ' z => by cases z
 cases z
 intro L hL
 have e1 := p1.env
 have cL : C1 L = none := e1.ext.none hL
 have nL : ¬ qd σ ρ1 L := fun ⟨i, m, k1, k2⟩ => by
  obtain ⟨p, o, q1, q2, q3, q4⟩ := jk e1 k1
  rw [k2] at q1; cases q1
  rw [hL] at q3; cases q3
 have nLw : ¬ qd (wipe σ vs) (vg ρ1 vs) L := fun h => by
  obtain ⟨i, m, _, k1, k2⟩ := wo h
  exact nL ⟨i, m, k1, k2⟩
 cases hc : vt vs a tests elt ds [] (vg ρ1 vs) with
 | none => simp only [hc] at h2; cases h2
 | some z =>
  obtain ⟨accF, ρF⟩ := z
  simp only [hc] at h2
  cases h2
  refine ⟨fun i n H' => ∃ acc C' ρ', n = ds.length - i ∧ i ≤ ds.length ∧ CompI K σ vs C1 H1 ρ1 L acc C' H' ρ' ∧ vt vs a tests elt (ds.drop i) acc ρ' = some (accF, ρF),
   ⟨ds.length, [], C1, vg ρ1 vs, by simp, Nat.zero_le _, ⟨(e1.wipe).aside cL nLw (fun u z => by rw [hL] at z; cases z), (Step.newM e1.ext hL).weak fun _ z => z.elim, fun _ h => h, ⟨[], upd_same, kc⟩, cL⟩, hc⟩, ?_⟩
  rintro i n H' ⟨acc, C', ρ', rfl, hi', q, hcf⟩
  have it := r C' H' q.step.core q.env.ext i
  by_cases hlt : i < ds.length
  ·obtain ⟨d, hd⟩ : ∃ d, ds[i]? = some d := ⟨_, List.getElem?_eq_getElem hlt⟩
   rw [xap hd] at hcf
   refine .inr ⟨it.1 hlt, fun H2 => ∃ acc C2 ρ2, CompI K σ vs C1 H1 ρ1 L acc C2 H2 ρ2 ∧ vt vs a tests elt (ds.drop (i + 1)) acc ρ2 = some (accF, ρF),
    fun H2 ⟨acc, C2, ρ2, k1, k2⟩ => ⟨ds.length - (i + 1), by omega, acc, C2, ρ2, rfl, hlt, k1, k2⟩, fun x H'' hy => ?_⟩
   obtain ⟨C'', st, hx⟩ := it.2.2 x H'' d hy hd
   have e2 : EnvOk K C'' H'' (wipe σ vs) ρ' := q.env.step st
   simp only [vt] at hcf
   cases z : a d ρ' with
   | none => simp only [z] at hcf; cases hcf
   | some ρ2 =>
    simp only [z] at hcf
    refine hg (wipe σ vs) C'' H'' ρ' d x ρ2 _ e2 hx z fun σ3 C3 H3 p3 => ?_
    have hw : wipe σ3 vs = wipe σ vs := wipe_eq p3.slot p3.len hj
    refine ⟨hw, ?_⟩
    -- what has been kept so far
    have st3 : Step C' H' C3 H3 (fun _ => False) := st.trans p3.step fun _ z => z.elim
    have own3 : ∀ b, qd σ3 ρ2 b → qd (wipe σ vs) (vg ρ1 vs) b := fun b h => q.own b (p3.own b h)
    -- the next turn's state
    have next : ∀ {C4 H4 : Hp} {ρ4 : En}, Post K σ3 C3 H3 ρ2 C4 H4 ρ4 → CompI K σ vs C1 H1 ρ1 L acc C4 H4 (vg ρ4 vs) := fun {C4 H4 ρ4} p4 => by
     obtain ⟨xs, l1, l2⟩ := q.lst
     have l3 : H3 L = some (.lst xs) := st3.keep L _ l1 zk fun z => z
     have nl3 : ¬ qd σ3 ρ2 L := fun h => nLw (own3 L h)
     have stA : Step C' H' C4 H4 (qd (wipe σ vs) (vg ρ1 vs)) := (st3.weak fun _ z => z.elim).trans (p4.step.weak fun b h => .inl (own3 b h)) fun b h => .inl h
     refine ⟨by rw [← hw]; exact p4.env.wipe, q.step.trans stA fun b h => .inl h, fun b h => ?_, ⟨xs, p4.step.keep L _ l3 zk nl3, Iss.mono (st3.core.trans p4.step.core) _ _ l2⟩, ?_⟩
     ·rw [← hw] at h
      obtain ⟨j, m, _, k1, k2⟩ := wo h
      exact own3 b (p4.own b ⟨j, m, k1, k2⟩)
     ·cases k : C4 L with
      | none => rfl
      | some u =>
       rcases stA.new L q.core (by rw [k]; exact fun z => by cases z) with z | z
       ·rw [l1] at z; cases z
       ·exact absurd z nLw
    cases y : tests ρ2 with
    | none => simp only [y] at hcf; cases hcf
    | some o =>
     cases o with
     | ex x' r' => simp only [y] at hcf; cases hcf
     | ok b ρ3 =>
      refine no_exn (ht σ3 C3 H3 ρ2 p3.env) y fun vb C4 H4 p4 r4 => ?_
      have r4 : vb = b := r4
      subst r4
      cases vb with
      | false =>
       simp only [y] at hcf
       show ∃ acc C2 ρ2, _
       exact ⟨acc, C4, _, next p4, hcf⟩
      | true =>
       simp only [y] at hcf
       show te σ3 H4 fun y H4 => _
       cases w : yj elt ρ3 with
       | none => simp only [w] at hcf; cases hcf
       | some o =>
        cases o with
        | ex x' r' => simp only [w] at hcf; cases hcf
        | ok dy ρ5 =>
         simp only [w] at hcf
         by_cases hz : acc.length < sizeLine
         ·rw [if_pos hz] at hcf
          refine no_exn (kj he σ3 C4 H4 ρ3 p4.env) w fun yv C5 H5 p5 r5 => ?_
          have nx := next (p4.trans p5)
          obtain ⟨xs, l1, l2⟩ := nx.lst
          refine ⟨xs, l1, by rw [l2.length]; exact hz, acc ++ [dy], C5, _, ⟨nx.env.aside nx.core (fun h => nLw (nx.own L h)) (fun u z => by rw [l1] at z; cases z; exact ⟨zk, fun _ z => by cases z⟩), ?_, nx.own, ⟨_, upd_same, l2.app (yb r5 kc)⟩, nx.core⟩, hcf⟩
          refine ⟨nx.step.core, ⟨fun b u h n => ?_, fun b h => ?_⟩, fun b u h nt hb => ?_, nx.step.new, fun b h => ?_, fun P q => xu (nx.step.tabs P q) (fun u z => by rw [l1] at z; cases z; exact ⟨zk, fun _ z => by cases z⟩)⟩
          ·rw [upd_ne (fun z => by rw [z, nx.core] at h; cases h)]; exact nx.env.ext.1 b u h n
          ·by_cases hbL : b = L
           ·rw [hbL]; exact nx.core
           ·rw [upd_ne hbL] at h; exact nx.env.ext.2 b h
          ·rw [upd_ne (fun z => by rw [z, hL] at h; cases h)]; exact nx.step.keep b u h nt hb
          ·by_cases hbL : b = L
           ·rw [hbL, upd_same] at h; cases h
           ·rw [upd_ne hbL] at h; exact nx.step.dom b h
         ·rw [if_neg hz] at hcf; cases hcf
  ·have ei : i = ds.length := by omega
   subst ei
   rw [List.drop_length] at hcf
   simp only [vt] at hcf
   cases hcf
   obtain ⟨xs, l1, l2⟩ := q.lst
   refine .inl ⟨it.2.1 (Nat.le_refl _), ?_⟩
   have el : ρ1.length = ρF.length := by rw [← e1.len, ← q.env.len, wipe_length]
   have stW : Step C1 H1 C' H' (qd σ ρ1) := q.step.weak fun b h => by
    obtain ⟨j, m, _, k1, k2⟩ := wo h
    exact .inl ⟨j, m, k1, k2⟩
   have ownR : ∀ b, qd σ (j7 ρ1 ρF vs) b → qd σ ρ1 b := fun b ⟨j, m, k1, k2⟩ => by
    rw [yu ρ1 ρF j el] at k1
    by_cases hjv : j ∈ vs
    ·rw [if_pos hjv] at k1; exact ⟨j, m, k1, k2⟩
    ·rw [if_neg hjv] at k1
     obtain ⟨j', m', _, z1, z2⟩ := wo (q.own b ⟨j, m, k1, by rw [kg, if_neg hjv]; exact k2⟩)
     exact ⟨j', m', z1, z2⟩
   -- a thing of a wiped slot is no thing within
   have apart : ∀ (j : Nat) (m : M) (p : Addr), j ∈ vs → ρ1[j]? = some (.own m) → σ[j]? = some (some (.ref p)) → ¬ qd (wipe σ vs) (vg ρ1 vs) p := fun j m p hjv k1 k2 h => by
    obtain ⟨j', m', hn, z1, z2⟩ := wo h
    exact hn (by rw [← e1.inj j j' m m' p k1 z1 k2 z2]; exact hjv)
   have envR : EnvOk K C' H' σ (j7 ρ1 ρF vs) := by
    refine ⟨by rw [ku, ← el]; exact e1.len, q.env.ext, fun j c k => ?_, fun i j m n b k1 k2 k3 k4 => ?_, q.env.tab⟩
    ·rw [yu ρ1 ρF j el] at k
     by_cases hjv : j ∈ vs
     ·rw [if_pos hjv] at k
      obtain ⟨v, hv, ok⟩ := e1.cell j c k
      refine ⟨v, hv, ?_⟩
      cases c with
      | no => trivial
      | dat d => obtain ⟨y, hy, z⟩ := ok; exact ⟨y, hy, Is.mono q.step.core d y z⟩
      | own m =>
       obtain ⟨p, o, q1, q2, q3, q4⟩ := ok
       have ap := apart j m p hjv k (by rw [hv, q1])
       refine ⟨p, o, q1, ?_, q.step.keep p o q3 q4.nx.1 ap, q4.mono q.step.core⟩
       cases z : C' p with
       | none => rfl
       | some u =>
        rcases q.step.new p q2 (by rw [z]; exact fun z => by cases z) with z | z
        ·rw [q3] at z; cases z
        ·exact absurd z ap
     ·rw [if_neg hjv] at k
      obtain ⟨v, hv, ok⟩ := q.env.cell j c k
      rw [kg, if_neg hjv] at hv
      exact ⟨v, hv, ok⟩
    ·rw [yu ρ1 ρF i el] at k1
     rw [yu ρ1 ρF j el] at k2
     have out : ∀ (i : Nat) (m : M), i ∉ vs → ρF[i]? = some (.own m) → σ[i]? = some (some (.ref b)) → qd (wipe σ vs) (vg ρ1 vs) b := fun i m hn z1 z2 => q.own b ⟨i, m, z1, by rw [kg, if_neg hn]; exact z2⟩
     by_cases hiv : i ∈ vs
     ·rw [if_pos hiv] at k1
      by_cases hjv : j ∈ vs
      ·rw [if_pos hjv] at k2; exact e1.inj i j m n b k1 k2 k3 k4
      ·rw [if_neg hjv] at k2
       exact absurd (out j n hjv k2 k4) (apart i m b hiv k1 k3)
     ·rw [if_neg hiv] at k1
      by_cases hjv : j ∈ vs
      ·rw [if_pos hjv] at k2
       exact absurd (out i m hiv k1 k3) (apart j n b hjv k2 k4)
      ·rw [if_neg hjv] at k2
       exact q.env.inj i j m n b k1 k2 (by rw [kg, if_neg hiv]; exact k3) (by rw [kg, if_neg hjv]; exact k4)
   refine hok _ _ rfl (.ref L) C' H' (p1.trans ⟨stW, ownR, envR⟩) ?_
   exact ⟨L, _, rfl, q.core, l1, ⟨xs, rfl, l2⟩, fun h => nL (ownR L h), p1.step.dom L hL⟩
end
end PL
namespace PL
open PySem L2
def rvD : Rv → Bool
 | .bor _ => false
 | _ => true
def spF (K : PySem.W.Frag) (n : Nat) (F : P Rv) : Sp := fun vs H Q E => vs.length = n ∧ ∃ C cs out, EnvOk K C H (vs.map some) cs ∧ F cs = some out ∧
 (∀ r cs', out = .ok r cs' → rvD r = true ∧ ∀ v C' H', Post K (vs.map some) C H cs C' H' cs' → VOk K H C' H' (vs.map some) cs' v r → Q v H') ∧
 (∀ e cs', out = .ex e cs' → ∀ d C' H', Post K (vs.map some) C H cs C' H' cs' → ExnOk K C' e d → E (.ref e.c) d H')
def merge (fx : List Nat) : Nat → List Cell → En → Option (List Cell)
 | _, [], _ => some []
 | k, .own _ :: cs, .own m :: ρ => if k ∈ fx then (match merge fx (k + 1) cs ρ with
  | some r => some (.own m :: r)
  | none => none) else none
 | _, .own _ :: _, _ => none
 | k, c :: cs, _ :: ρ => match merge fx (k + 1) cs ρ with
  | some r => some (c :: r)
  | none => none
 | _, _ :: _, [] => none
def handed (n : Nat) (ρ : En) : Rv → Option Rv
 | .dat d => some (.dat d)
 | .new m => some (.new m)
 | .bor i => match ρ[i]? with
  | some (.dat d) => some (.dat d)
  | some (.own m) => if n ≤ i then some (.new m) else none
  | _ => none
def runF (fx : List Nat) (N : Nat) (body : P Fl) : P Rv := fun cs => match body (cs ++ List.replicate (N - cs.length) .no) with
 | some (.ok (.ret r) ρ) => (match handed cs.length ρ r with
  | some r' => (match merge fx 0 cs ρ with
   | some cs' => some (.ok r' cs')
   | none => none)
  | none => none)
 | some (.ok .next ρ) => (match merge fx 0 cs ρ with
  | some cs' => some (.ok (.dat (.s .non)) cs')
  | none => none)
 | some (.ex e ρ) => (match merge fx 0 cs ρ with
  | some cs' => some (.ex e cs')
  | none => none)
 | _ => none
theorem vab {fx : List Nat} : ∀ {k : Nat} {cs : List Cell} {ρ : En} {cs' : List Cell}, merge fx k cs ρ = some cs' → cs'.length = cs.length ∧
  ∀ i c, cs'[i]? = some c → (cs[i]? = some c ∧ ∀ m, c ≠ .own m) ∨ ∃ m m', c = .own m' ∧ cs[i]? = some (.own m) ∧ ρ[i]? = some (.own m') ∧ k + i ∈ fx
 | k, [], ρ, cs', h => by
  simp only [merge] at h
  cases h
  exact ⟨rfl, fun i c h => by simp at h⟩
 | k, c0 :: cs, ρ, cs', h => by
  have step : ∀ (c1 : Cell) (ρr : En) (r : List Cell), merge fx (k + 1) cs ρr = some r → cs' = c1 :: r → (ρr = ρ.tail) →
    ((c1 = c0 ∧ ∀ m, c1 ≠ .own m) ∨ ∃ m m', c1 = .own m' ∧ c0 = .own m ∧ ρ[0]? = some (.own m') ∧ k ∈ fx) → cs'.length = (c0 :: cs).length ∧
    ∀ i c, cs'[i]? = some c → ((c0 :: cs)[i]? = some c ∧ ∀ m, c ≠ .own m) ∨ ∃ m m', c = .own m' ∧ (c0 :: cs)[i]? = some (.own m) ∧ ρ[i]? = some (.own m') ∧ k + i ∈ fx := by
   intro c1 ρr r hr e et h0
   subst e
   obtain ⟨l, g⟩ := vab hr
   refine ⟨by rw [List.length_cons, List.length_cons, l], fun i c hc => ?_⟩
   cases i with
   | zero =>
    have hc : c1 = c := by simpa using hc
    subst hc
    rcases h0 with ⟨rfl, h1⟩ | ⟨m, m', rfl, rfl, h1, h2⟩
    ·exact .inl ⟨by simp, h1⟩
    ·exact .inr ⟨m, m', rfl, by simp, h1, h2⟩
   | succ i =>
    have hc : r[i]? = some c := by simpa using hc
    rcases g i c hc with ⟨h1, h2⟩ | ⟨m, m', h1, h2, h3, h4⟩
    ·exact .inl ⟨by simpa using h1, h2⟩
    ·refine .inr ⟨m, m', h1, by simpa using h2, ?_, by rw [show k + (i + 1) = k + 1 + i by omega]; exact h4⟩
     rw [et] at h3
     rw [List.getElem?_tail] at h3
     exact h3
  cases ρ with
  | nil => cases c0 <;> simp only [merge] at h <;> cases h
  | cons c2 ρ =>
   cases c0 with
   | no =>
    simp only [merge] at h
    cases q : merge fx (k + 1) cs ρ with
    | none => simp only [q] at h; cases h
    | some r => simp only [q] at h; cases h; exact step .no ρ r q rfl rfl (.inl ⟨rfl, fun m z => by cases z⟩)
   | dat d =>
    simp only [merge] at h
    cases q : merge fx (k + 1) cs ρ with
    | none => simp only [q] at h; cases h
    | some r => simp only [q] at h; cases h; exact step (.dat d) ρ r q rfl rfl (.inl ⟨rfl, fun m z => by cases z⟩)
   | own m =>
    cases c2 with
    | no => simp only [merge] at h; cases h
    | dat d => simp only [merge] at h; cases h
    | own m' =>
     simp only [merge] at h
     by_cases hk : k ∈ fx
     ·rw [if_pos hk] at h
      cases q : merge fx (k + 1) cs ρ with
      | none => simp only [q] at h; cases h
      | some r => simp only [q] at h; cases h; exact step (.own m') ρ r q rfl rfl (.inr ⟨m, m', rfl, rfl, rfl, hk⟩)
     ·rw [if_neg hk] at h; cases h
theorem was {fx : List Nat} : ∀ {k : Nat} {cs : List Cell} {ρ : En} {cs' : List Cell}, merge fx k cs ρ = some cs' → ∀ i m, cs[i]? = some (.own m) → ∃ m', ρ[i]? = some (.own m') ∧ cs'[i]? = some (.own m') ∧ k + i ∈ fx := by
 intro k cs ρ cs' h i m hi
 obtain ⟨l, g⟩ := vab h
 have il : i < cs'.length := by rw [l]; exact (List.getElem?_eq_some_iff.mp hi).1
 rcases g i _ (List.getElem?_eq_getElem il) with ⟨h1, h2⟩ | ⟨m1, m2, h1, h2, h3, h4⟩
 ·rw [hi] at h1
  exact absurd (Option.some.inj h1).symm (h2 m)
 ·exact ⟨m2, h3, by rw [List.getElem?_eq_getElem il, h1], h4⟩
section
variable {K : PySem.W.Frag} {W : WX} {fx : List Nat}
theorem kar {N : List Str} {vs : List V} {i : Nat} {v : V} (h : (L2.start N vs)[i]? = some (some v)) : (vs.map some)[i]? = some (some v) ∧ i < vs.length := by
 unfold L2.start at h
 by_cases hi : i < vs.length
 ·rw [List.getElem?_append_left (by rw [List.length_map]; exact hi)] at h
  exact ⟨h, hi⟩
 ·rw [List.getElem?_append_right (by rw [List.length_map]; omega)] at h
  have := List.mem_of_getElem? h
  rw [List.mem_replicate] at this
  cases this.2
theorem kaf {N : List Str} {vs : List V} {i : Nat} {x : Option V} (h : (vs.map some)[i]? = some x) : (L2.start N vs)[i]? = some x := by
 unfold L2.start
 have hi : i < vs.length := by
  have := (List.getElem?_eq_some_iff.mp h).1
  rw [List.length_map] at this; exact this
 rw [List.getElem?_append_left (by rw [List.length_map]; exact hi)]
 exact h
theorem cs_get {cs : List Cell} {n i : Nat} {c : Cell} (h : (cs ++ List.replicate n .no)[i]? = some c) : cs[i]? = some c ∨ c = .no := by
 by_cases hi : i < cs.length
 ·rw [List.getElem?_append_left hi] at h
  exact .inl h
 ·rw [List.getElem?_append_right (by omega)] at h
  have := List.mem_of_getElem? h
  rw [List.mem_replicate] at this
  exact .inr this.2
theorem EnvOk.begin {C H : Hp} {vs : List V} {cs : List Cell} {N : List Str} (hN : vs.length ≤ N.length) (e : EnvOk K C H (vs.map some) cs) : EnvOk K C H (L2.start N vs) (cs ++ List.replicate (N.length - cs.length) .no) := by
 have le : cs.length = vs.length := by rw [← e.len, List.length_map]
 refine ⟨by unfold L2.start; rw [List.length_append, List.length_append, List.length_map, List.length_replicate, List.length_replicate, le], e.ext, fun i c h => ?_, fun i j m n a h1 h2 h3 h4 => ?_, e.tab⟩
 ·rcases cs_get h with h1 | rfl
  ·obtain ⟨v, hv, ok⟩ := e.cell i c h1
   exact ⟨v, kaf hv, ok⟩
  ·have hl : i < (cs ++ List.replicate (N.length - cs.length) Cell.no).length := (List.getElem?_eq_some_iff.mp h).1
   have hs : i < (L2.start N vs).length := by
    unfold L2.start
    rw [List.length_append, List.length_map, List.length_replicate]
    rw [List.length_append, List.length_replicate] at hl
    omega
   exact ⟨(L2.start N vs)[i], List.getElem?_eq_getElem hs, trivial⟩
 ·rcases cs_get h1 with h1 | z
  ·rcases cs_get h2 with h2 | z
   ·exact e.inj i j m n a h1 h2 (kar h3).1 (kar h4).1
   ·cases z
  ·cases z
theorem xas {vs : List V} {cs : List Cell} {N : List Str} {n : Nat} {a : Addr} (h : qd (L2.start N vs) (cs ++ List.replicate n .no) a) : qd (vs.map some) cs a := by
 obtain ⟨i, m, h1, h2⟩ := h
 rcases cs_get h1 with h1 | z
 ·exact ⟨i, m, h1, (kar h2).1⟩
 ·cases z
theorem Post.finish {C H C' H' : Hp} {vs : List V} {cs cs' : List Cell} {N : List Str} {n : Nat} {σ' : Sl} {ρ' : En} (e : EnvOk K C H (vs.map some) cs) (p : PostS K fx (L2.start N vs) C H (cs ++ List.replicate n .no) σ' C' H' ρ') (hm : merge fx 0 cs ρ' = some cs') :
  Post K (vs.map some) C H cs C' H' cs' := by
 obtain ⟨l, g⟩ := vab hm
 have st : Step C H C' H' (qd (vs.map some) cs) := p.step.weak fun a z => .inl (xas z)
 have slot : ∀ (i : Nat) (m : M), cs[i]? = some (.own m) → σ'[i]? = (vs.map some)[i]? := fun i m h => by
  obtain ⟨m', h1, h2, h3⟩ := was hm i m h
  rw [Nat.zero_add] at h3
  rw [p.fix i h3]
  obtain ⟨v, hv, _⟩ := e.cell i _ h
  rw [hv]
  exact kaf hv
 refine ⟨st, fun a ⟨i, m, h1, h2⟩ => ?_, ⟨by rw [l]; exact e.len, p.env.ext, fun i c h => ?_, fun i j m n a h1 h2 h3 h4 => ?_, p.env.tab⟩⟩
 ·rcases g i _ h1 with ⟨k1, k2⟩ | ⟨m1, m2, k1, k2, k3, k4⟩
  ·exact absurd rfl (k2 m)
  ·exact ⟨i, m1, k2, h2⟩
 ·rcases g i _ h with ⟨k1, k2⟩ | ⟨m1, m2, rfl, k2, k3, k4⟩
  ·obtain ⟨v, hv, ok⟩ := e.cell i c k1
   refine ⟨v, hv, ?_⟩
   cases c with
   | no => trivial
   | dat d => obtain ⟨y, hy, z⟩ := ok; exact ⟨y, hy, Is.mono st.core d y z⟩
   | own m => exact absurd rfl (k2 m)
  ·obtain ⟨v, hv, ok⟩ := p.env.cell i _ k3
   rw [slot i m1 k2] at hv
   exact ⟨v, hv, ok⟩
 ·rcases g i _ h1 with ⟨k1, k2⟩ | ⟨m1, m2, k1, k2, k3, k4⟩
  ·exact absurd rfl (k2 m)
  ·rcases g j _ h2 with ⟨q1, q2⟩ | ⟨n1, n2, q1, q2, q3, q4⟩
   ·exact absurd rfl (q2 n)
   ·exact p.env.inj i j m2 n2 a k3 q3 (by rw [slot i m1 k2]; exact h3) (by rw [slot j n1 q2]; exact h4)
theorem VOk.finish {C H C' H' : Hp} {vs : List V} {cs cs' : List Cell} {N : List Str} {n : Nat} {σ' : Sl} {ρ' : En} {v : V} {r r' : Rv} (e : EnvOk K C H (vs.map some) cs) (p : PostS K fx (L2.start N vs) C H (cs ++ List.replicate n .no) σ' C' H' ρ')
  (hm : merge fx 0 cs ρ' = some cs') (h : VOk K H C' H' σ' ρ' v r) (hh : handed cs.length ρ' r = some r') : rvD r' = true ∧ VOk K H C' H' (vs.map some) cs' v r' := by
 obtain ⟨l, g⟩ := vab hm
 have P := Post.finish e p hm
 have slot : ∀ (i : Nat) (m : M), cs[i]? = some (.own m) → σ'[i]? = (vs.map some)[i]? := fun i m h => by
  obtain ⟨m', h1, h2, h3⟩ := was hm i m h
  rw [Nat.zero_add] at h3
  rw [p.fix i h3]
  obtain ⟨v, hv, _⟩ := e.cell i _ h
  rw [hv]
  exact kaf hv
 have up : ∀ a, qd (vs.map some) cs' a → ∃ (i : Nat) (m : M), i < cs.length ∧ ρ'[i]? = some (.own m) ∧ σ'[i]? = some (some (.ref a)) := fun a ⟨i, m, h1, h2⟩ => by
  rcases g i _ h1 with ⟨k1, k2⟩ | ⟨m1, m2, k1, k2, k3, k4⟩
  ·exact absurd rfl (k2 m)
  ·exact ⟨i, m2, (List.getElem?_eq_some_iff.mp k2).1, k3, by rw [slot i m1 k2]; exact h2⟩
 cases r with
 | dat d => cases hh; exact ⟨rfl, h⟩
 | new m =>
  cases hh
  obtain ⟨a, o, h1, h2, h3, h4, h5, h6⟩ := h
  refine ⟨rfl, a, o, h1, h2, h3, h4, fun z => ?_, h6⟩
  obtain ⟨i, m, _, k1, k2⟩ := up a z
  exact h5 ⟨i, m, k1, k2⟩
 | bor i =>
  obtain ⟨h1, c, h2⟩ := h
  simp only [handed, h2] at hh
  obtain ⟨w, hw, ok⟩ := p.env.cell i c h2
  rw [h1] at hw; cases hw
  cases c with
  | no => cases hh
  | dat d =>
   cases hh
   obtain ⟨y, hy, z⟩ := ok
   cases hy
   exact ⟨rfl, z⟩
  | own m =>
   obtain ⟨hi, rfl⟩ := yc hh
   obtain ⟨a, o, q1, q2, q3, q4⟩ := ok
   cases q1
   refine ⟨rfl, a, o, rfl, q2, q3, q4, fun z => ?_, ?_⟩
   ·obtain ⟨j, m', k0, k1, k2⟩ := up a z
    have := p.env.inj i j m m' a h2 k1 h1 k2
    omega
   ·rcases p.own a ⟨i, m, h2, h1⟩ with z | z
    ·obtain ⟨j, m', k1, k2⟩ := xas z
     obtain ⟨m2, k3, _, _⟩ := was hm j m' k1
     have hj : j < cs.length := (List.getElem?_eq_some_iff.mp k1).1
     have := p.env.inj i j m m2 a h2 k3 h1 (by rw [slot j m' k1]; exact k2)
     omega
    ·exact z
theorem fn_ok {P : Program} {w : World} {mg : Str → Option Value} {base : Heap} {x qual : Str} {st : Stmt} {f : Addr} {fd : FuncData} {N ps : List Str} {k : Nat} {n : Nat} {body : PL.P Fl} (F : Fun K x qual st f fd) (S : FnScope N ps (defScope st)) (hn : ps.length = n) (hN : n ≤ N.length)
  (hbody : ∀ (cdv : Value) (A : Around) (outer : List PySem.Env) (s : Shared) (H : Hp) (E : XK), Room k (A.deeper (PyProof.Rows.envOfC qual (defScope st) s.heap.objs.size f cdv)) →
   ∃ t, PSs (cxOf (L2.CX P w) P w K mg base N qual (defScope st) f cdv A outer s H E) (defBody st) t ∧ SdS K (fun cls d _ H => E cls d H) fx t body) :
  FnOk P w K mg base (L2.CX P w) (k + 1) f fd ps (spF K n (runF fx N.length body)) := by
 refine F.okX S (fun vs H Q E h => by rw [hn]; exact h.1) fun cdv A outer s H vs Q E hr h => ?_
 obtain ⟨t, ht, hs⟩ := hbody cdv A outer s H E hr
 refine ⟨t, ht, ?_⟩
 obtain ⟨hl, C, cs, out, e, ho, hok, hex⟩ := h
 have hlen : vs.length ≤ N.length := by rw [hl]; exact hN
 have e0 := EnvOk.begin (N := N) hlen e
 unfold runF at ho
 cases q : body (cs ++ List.replicate (N.length - cs.length) .no) with
 | none => rw [q] at ho; cases ho
 | some o =>
  rw [q] at ho
  refine hs (L2.start N vs) C H _ o _ e0 q ?_
  cases o with
  | ex x r =>
   dsimp only at ho
   cases z : merge fx 0 cs r with
   | none => rw [z] at ho; cases ho
   | some cs' =>
    rw [z] at ho; cases ho
    exact fun d σ' C' H' p k => hex x cs' rfl d C' H' (Post.finish e p z) k
  | ok fl r =>
   cases fl with
   | next =>
    dsimp only at ho
    cases z : merge fx 0 cs r with
    | none => rw [z] at ho; cases ho
    | some cs' =>
     rw [z] at ho; cases ho
     exact fun σ' C' H' p => (hok _ cs' rfl).2 .non C' H' (Post.finish e p z) (show Is K C' (.s .non) .non from is_s)
   | brk => cases ho
   | cont => cases ho
   | ret v =>
    dsimp only at ho
    cases y : handed cs.length r v with
    | none => rw [y] at ho; cases ho
    | some r' =>
     rw [y] at ho
     dsimp only at ho
     cases z : merge fx 0 cs r with
     | none => rw [z] at ho; cases ho
     | some cs' =>
      rw [z] at ho; cases ho
      exact fun u σ' C' H' p k => (hok r' cs' rfl).2 u C' H' (Post.finish e p z) (VOk.finish e p z k y).2
end
abbrev Arg := Sum D Nat
def ArgOk (K : PySem.W.Frag) (C : Hp) (σ : Sl) : List Arg → List V → Prop
 | [], vs => vs = []
 | .inl d :: as, vs => ∃ v r, vs = v :: r ∧ Is K C d v ∧ ArgOk K C σ as r
 | .inr i :: as, vs => ∃ v r, vs = v :: r ∧ σ[i]? = some (some v) ∧ ArgOk K C σ as r
theorem ArgOk.mono {K : PySem.W.Frag} {C C' : Hp} {σ : Sl} (e : Ex C C') : ∀ {as : List Arg} {vs : List V}, ArgOk K C σ as vs → ArgOk K C' σ as vs
 | [], vs, h => h
 | .inl d :: as, vs, h => by
  obtain ⟨v, r, h1, h2, h3⟩ := h
  exact ⟨v, r, h1, Is.mono e d v h2, ArgOk.mono e h3⟩
 | .inr i :: as, vs, h => by
  obtain ⟨v, r, h1, h2, h3⟩ := h
  exact ⟨v, r, h1, h2, ArgOk.mono e h3⟩
def ARel (K : PySem.W.Frag) (_ : Hp) : Rel (List V) (List Arg) := fun C _ σ _ vs as => ArgOk K C σ as vs
def uNil : P (List Arg) := P.ret []
def uD (f : P Rv) (g : P (List Arg)) : P (List Arg) := (yj f).bind fun d => g.bind fun as => P.ret (.inl d :: as)
def uM (i : Nat) (g : P (List Arg)) : P (List Arg) := (ownS i).bind fun _ => g.bind fun as => P.ret (.inr i :: as)
where ownS (i : Nat) : P Unit := fun ρ => match ρ[i]? with
 | some (.own _) => some (.ok () ρ)
 | _ => none
def cellsOf (ρ : En) : List Arg → Option (List Cell)
 | [] => some []
 | .inl d :: as => match cellsOf ρ as with
  | some cs => some (.dat d :: cs)
  | none => none
 | .inr i :: as => match ρ[i]? with
  | some (.own m) => (match cellsOf ρ as with
   | some cs => some (.own m :: cs)
   | none => none)
  | _ => none
def slotsOf : List Arg → List Nat
 | [] => []
 | .inl _ :: as => slotsOf as
 | .inr i :: as => i :: slotsOf as
def wj (ρ : En) : List Arg → List Cell → En
 | .inl _ :: as, _ :: cs => wj ρ as cs
 | .inr i :: as, c :: cs => (wj ρ as cs).set i c
 | _, _ => ρ
def jx (n : Nat) (F : P Rv) (as : List Arg) : P Rv := fun ρ => if (slotsOf as).Nodup ∧ as.length = n then (match cellsOf ρ as with
 | none => none
 | some cs => match F cs with
  | none => none
  | some (.ok r cs') => some (.ok r (wj ρ as cs'))
  | some (.ex e cs') => some (.ex e (wj ρ as cs'))) else none
def zc (n : Nat) (F : P Rv) (fs : P (List Arg)) : P Rv := fs.bind fun as => jx n F as
section
variable {K : PySem.W.Frag} {W : WX}
theorem su_nil : Sd K W (ARel K) tNil uNil := fun σ C H ρ e => At.ret (R := ARel K H) (v := []) e rfl
theorem su_d {ta : TE} {tr : TA} {f : P Rv} {g : P (List Arg)} (ha : Sd K W (VRel K) ta f) (hr : Sd K W (ARel K) tr g) : Sd K W (ARel K) (tCons ta tr) (uD f g) := by
 intro σ C H ρ e
 show At K W (ARel K H) σ C H ρ (fun H Q => ta σ H fun x H1 => tr σ H1 fun xs H2 => Q (x :: xs) H2) (jd (yj f ρ) fun d => g.bind fun ds => P.ret (.inl d :: ds))
 refine At.bind (tk := fun x H1 Q => tr σ H1 fun xs H2 => Q (x :: xs) H2) (kj ha σ C H ρ e) fun d ρ1 x C1 H1 p1 r1 => ?_
 refine At.bind (tk := fun xs H2 Q => Q (x :: xs) H2) (hr σ C1 H1 ρ1 p1.env) fun ds ρ2 vs C2 H2 p2 r2 => ?_
 exact At.ret (R := ARel K H) (v := x :: vs) p2.env ⟨x, vs, rfl, Is.mono p2.step.core d x r1, r2⟩
theorem su_m {i : Nat} {tr : TA} {g : P (List Arg)} (hr : Sd K W (ARel K) tr g) : Sd K W (ARel K) (tCons (tVar i) tr) (uM i g) := by
 intro σ C H ρ e
 unfold uM P.bind uM.ownS
 cases q : ρ[i]? with
 | none => exact At.nil
 | some c =>
  cases c with
  | no => exact At.nil
  | dat d => exact At.nil
  | own m =>
   obtain ⟨a, o, h1, h2, h3, h4⟩ := jk e q
   refine At.imp (t := fun H Q => tr σ H fun xs H2 => Q (.ref a :: xs) H2) ?_ fun Q h => ⟨.ref a, h1, h⟩
   refine At.bind (tk := fun xs H2 Q => Q (.ref a :: xs) H2) (hr σ C H ρ e) fun ds ρ2 vs C2 H2 p2 r2 => ?_
   exact At.ret (R := ARel K H) (v := .ref a :: vs) p2.env ⟨_, vs, rfl, h1, r2⟩
theorem qx {σ : Sl} {C : Hp} {ρ : En} : ∀ {as : List Arg} {vs : List V} {cs : List Cell}, ArgOk K C σ as vs → cellsOf ρ as = some cs → cs.length = vs.length ∧
  ∀ (k : Nat) (c : Cell), cs[k]? = some c → (∃ d v, c = .dat d ∧ vs[k]? = some v ∧ Is K C d v) ∨ ∃ i m v, c = .own m ∧ ρ[i]? = some (.own m) ∧ σ[i]? = some (some v) ∧ vs[k]? = some v ∧ as[k]? = some (.inr i)
 | [], vs, cs, h, hc => by cases hc; cases h; exact ⟨rfl, fun k c z => by simp at z⟩
 | .inl d :: as, vs, cs, h, hc => by
  obtain ⟨v, r, rfl, h2, h3⟩ := h
  simp only [cellsOf] at hc
  cases q : cellsOf ρ as with
  | none => rw [q] at hc; cases hc
  | some cs' =>
   rw [q] at hc; cases hc
   obtain ⟨l, g⟩ := qx h3 q
   refine ⟨by rw [List.length_cons, List.length_cons, l], fun k c z => ?_⟩
   cases k with
   | zero => exact .inl ⟨d, v, by simpa using z.symm, by simp, h2⟩
   | succ k =>
    rcases g k c (by simpa using z) with ⟨d', v', k1, k2, k3⟩ | ⟨i, m, v', k1, k2, k3, k4, k5⟩
    ·exact .inl ⟨d', v', k1, by simpa using k2, k3⟩
    ·exact .inr ⟨i, m, v', k1, k2, k3, by simpa using k4, by simpa using k5⟩
 | .inr i :: as, vs, cs, h, hc => by
  obtain ⟨v, r, rfl, h2, h3⟩ := h
  simp only [cellsOf] at hc
  cases q0 : ρ[i]? with
  | none => simp only [q0] at hc; cases hc
  | some c0 =>
   cases c0 with
   | no => simp only [q0] at hc; cases hc
   | dat d => simp only [q0] at hc; cases hc
   | own m =>
    simp only [q0] at hc
    cases q : cellsOf ρ as with
    | none => simp only [q] at hc; cases hc
    | some cs' =>
     simp only [q] at hc; cases hc
     obtain ⟨l, g⟩ := qx h3 q
     refine ⟨by rw [List.length_cons, List.length_cons, l], fun k c z => ?_⟩
     cases k with
     | zero => exact .inr ⟨i, m, v, by simpa using z.symm, q0, h2, by simp, by simp⟩
     | succ k =>
      rcases g k c (by simpa using z) with ⟨d', v', k1, k2, k3⟩ | ⟨i, m, v', k1, k2, k3, k4, k5⟩
      ·exact .inl ⟨d', v', k1, by simpa using k2, k3⟩
      ·exact .inr ⟨i, m, v', k1, k2, k3, by simpa using k4, by simpa using k5⟩
theorem slots_inj : ∀ {as : List Arg}, (slotsOf as).Nodup → ∀ {j k i : Nat}, as[j]? = some (.inr i) → as[k]? = some (.inr i) → j = k
 | [], _, j, k, i, h, _ => by simp at h
 | .inl d :: as, hn, 0, k, i, h, _ => by simp at h
 | .inl d :: as, hn, j + 1, 0, i, _, h => by simp at h
 | .inl d :: as, hn, j + 1, k + 1, i, h1, h2 => by have z := slots_inj (as := as) hn (j := j) (k := k) (i := i) (by simpa using h1) (by simpa using h2); omega
 | .inr i0 :: as, hn, 0, 0, i, h1, h2 => rfl
 | .inr i0 :: as, hn, 0, k + 1, i, h1, h2 => by
  simp at h1; subst h1
  exact absurd (slots_mem (by simpa using h2)) (List.nodup_cons.mp hn).1
 | .inr i0 :: as, hn, j + 1, 0, i, h1, h2 => by
  simp at h2; subst h2
  exact absurd (slots_mem (by simpa using h1)) (List.nodup_cons.mp hn).1
 | .inr i0 :: as, hn, j + 1, k + 1, i, h1, h2 => by have z := slots_inj (as := as) (List.nodup_cons.mp hn).2 (j := j) (k := k) (i := i) (by simpa using h1) (by simpa using h2); omega
where slots_mem : ∀ {as : List Arg} {k i : Nat}, as[k]? = some (.inr i) → i ∈ slotsOf as
 | [], k, i, h => by simp at h
 | .inl d :: as, 0, i, h => by simp at h
 | .inl d :: as, k + 1, i, h => slots_mem (as := as) (by simpa using h)
 | .inr i0 :: as, 0, i, h => by simp at h; subst h; exact List.mem_cons_self
 | .inr i0 :: as, k + 1, i, h => List.mem_cons_of_mem _ (slots_mem (as := as) (by simpa using h))
theorem yav (ρ : En) : ∀ (as : List Arg) (cs : List Cell), (wj ρ as cs).length = ρ.length
 | [], cs => by simp [wj]
 | .inl _ :: as, [] => by simp [wj]
 | .inr _ :: as, [] => by simp [wj]
 | .inl _ :: as, _ :: cs => by simp only [wj]; exact yav ρ as cs
 | .inr i :: as, c :: cs => by simp only [wj]; rw [List.length_set]; exact yav ρ as cs
theorem wav (ρ : En) : ∀ (as : List Arg) (cs : List Cell), as.length = cs.length → (slotsOf as).Nodup → ∀ (i : Nat) (c : Cell), (wj ρ as cs)[i]? = some c →
  (ρ[i]? = some c ∧ i ∉ slotsOf as) ∨ ∃ (k : Nat), as[k]? = some (.inr i) ∧ cs[k]? = some c
 | [], [], _, hn, i, c, h => .inl ⟨h, by simp [slotsOf]⟩
 | .inl d :: as, c0 :: cs, hl, hn, i, c, h => by
  simp only [wj] at h
  rcases wav ρ as cs (by simpa using hl) hn i c h with z | ⟨k, k1, k2⟩
  ·exact .inl z
  ·exact .inr ⟨k + 1, by simpa using k1, by simpa using k2⟩
 | .inr j :: as, c0 :: cs, hl, hn, i, c, h => by
  simp only [wj] at h
  have hn' := List.nodup_cons.mp (show (j :: slotsOf as).Nodup from hn)
  by_cases hj : j = i
  ·subst hj
   have hlt : j < (wj ρ as cs).length := by
    have := (List.getElem?_eq_some_iff.mp h).1
    rw [List.length_set] at this; exact this
   rw [List.getElem?_set_self hlt] at h
   exact .inr ⟨0, by simp, by simpa using h⟩
  ·rw [List.getElem?_set_ne hj] at h
   rcases wav ρ as cs (by simpa using hl) hn'.2 i c h with ⟨z1, z2⟩ | ⟨k, k1, k2⟩
   ·exact .inl ⟨z1, by show i ∉ j :: slotsOf as; simp only [List.mem_cons, not_or]; exact ⟨fun z => hj z.symm, z2⟩⟩
   ·exact .inr ⟨k + 1, by simpa using k1, by simpa using k2⟩
theorem ArgOk.len {σ : Sl} {C : Hp} : ∀ {as : List Arg} {vs : List V}, ArgOk K C σ as vs → as.length = vs.length
 | [], vs, h => by cases h; rfl
 | .inl d :: as, vs, h => by
  obtain ⟨v, r, rfl, _, h3⟩ := h
  rw [List.length_cons, List.length_cons, ArgOk.len h3]
 | .inr i :: as, vs, h => by
  obtain ⟨v, r, rfl, _, h3⟩ := h
  rw [List.length_cons, List.length_cons, ArgOk.len h3]
theorem ArgOk.at {σ : Sl} {C : Hp} : ∀ {as : List Arg} {vs : List V}, ArgOk K C σ as vs → ∀ {k i : Nat}, as[k]? = some (.inr i) → ∃ v, vs[k]? = some v ∧ σ[i]? = some (some v)
 | [], vs, h, k, i, e => by simp at e
 | .inl d :: as, vs, h, 0, i, e => by simp at e
 | .inl d :: as, vs, h, k + 1, i, e => by
  obtain ⟨v, r, rfl, _, h3⟩ := h
  obtain ⟨w, h4, h5⟩ := ArgOk.at h3 (k := k) (i := i) (by simpa using e)
  exact ⟨w, by simpa using h4, h5⟩
 | .inr j :: as, vs, h, 0, i, e => by
  obtain ⟨v, r, rfl, h2, h3⟩ := h
  simp at e; subst e
  exact ⟨v, by simp, h2⟩
 | .inr j :: as, vs, h, k + 1, i, e => by
  obtain ⟨v, r, rfl, _, h3⟩ := h
  obtain ⟨w, h4, h5⟩ := ArgOk.at h3 (k := k) (i := i) (by simpa using e)
  exact ⟨w, by simpa using h4, h5⟩
theorem EnvOk.args {σ : Sl} {C H : Hp} {ρ : En} {as : List Arg} {vs : List V} {cs : List Cell} (e : EnvOk K C H σ ρ) (ha : ArgOk K C σ as vs) (hn : (slotsOf as).Nodup) (hc : cellsOf ρ as = some cs) : EnvOk K C H (vs.map some) cs := by
 obtain ⟨l, g⟩ := qx ha hc
 refine ⟨by rw [List.length_map, l], e.ext, fun k c h => ?_, fun j k m n a h1 h2 h3 h4 => ?_, e.tab⟩
 ·rcases g k c h with ⟨d, v, rfl, k1, k2⟩ | ⟨i, m, v, rfl, k1, k2, k3, k4⟩
  ·exact ⟨some v, by rw [List.getElem?_map, k1]; rfl, v, rfl, k2⟩
  ·obtain ⟨w, hw, ok⟩ := e.cell i _ k1
   rw [k2] at hw; cases hw
   exact ⟨some v, by rw [List.getElem?_map, k3]; rfl, ok⟩
 ·rcases g j _ h1 with ⟨d, v, z, _⟩ | ⟨i1, m1, v1, q1, q2, q3, q4, q5⟩
  ·cases z
  ·rcases g k _ h2 with ⟨d, v, z, _⟩ | ⟨i2, m2, v2, r1, r2, r3, r4, r5⟩
   ·cases z
   ·rw [List.getElem?_map, q4] at h3
    rw [List.getElem?_map, r4] at h4
    have e1 : v1 = .ref a := Option.some.inj (Option.some.inj h3)
    have e2 : v2 = .ref a := Option.some.inj (Option.some.inj h4)
    subst e1 e2
    have := e.inj i1 i2 m1 m2 a q2 r2 q3 r3
    subst this
    exact slots_inj hn q5 r5
theorem vay {σ : Sl} {C H : Hp} {ρ : En} {as : List Arg} {vs : List V} {cs : List Cell} (ha : ArgOk K C σ as vs) (hc : cellsOf ρ as = some cs) {a : Addr} (h : qd (vs.map some) cs a) : ∃ (i : Nat) (m : M) (k : Nat), ρ[i]? = some (.own m) ∧ σ[i]? = some (some (.ref a)) ∧ as[k]? = some (.inr i) := by
 obtain ⟨l, g⟩ := qx ha hc
 obtain ⟨k, m, h1, h2⟩ := h
 rcases g k _ h1 with ⟨d, v, z, _⟩ | ⟨i, m1, v1, q1, q2, q3, q4, q5⟩
 ·cases z
 ·rw [List.getElem?_map, q4] at h2
  have e1 : v1 = .ref a := Option.some.inj (Option.some.inj h2)
  subst e1
  exact ⟨i, m1, k, q2, q3, q5⟩
theorem Post.back {σ : Sl} {C H C' H' : Hp} {ρ : En} {as : List Arg} {vs : List V} {cs cs' : List Cell} (e : EnvOk K C H σ ρ) (ha : ArgOk K C σ as vs) (hn : (slotsOf as).Nodup) (hc : cellsOf ρ as = some cs)
  (p : Post K (vs.map some) C H cs C' H' cs') : Post K σ C H ρ C' H' (wj ρ as cs') := by
 obtain ⟨l, g⟩ := qx ha hc
 have sub : ∀ a, qd (vs.map some) cs a → qd σ ρ a := fun a h => by
  obtain ⟨i, m, k, h1, h2, _⟩ := vay (H := H) ha hc h
  exact ⟨i, m, h1, h2⟩
 have l' : as.length = cs'.length := by
  have := p.env.len
  rw [List.length_map] at this
  rw [← this]
  exact ha.len
 have st : Step C H C' H' (qd σ ρ) := p.step.weak fun a z => .inl (sub a z)
 have bg := wav ρ as cs' l' hn
 have up : ∀ (i k : Nat) (c : Cell), as[k]? = some (.inr i) → cs'[k]? = some c → ∃ v, σ[i]? = some (some v) ∧ vs[k]? = some v ∧ CellOk K C' H' (some v) c := fun i k c h1 h2 => by
  obtain ⟨w, hw, ok⟩ := p.env.cell k c h2
  obtain ⟨v, h3, h4⟩ := ha.at h1
  rw [List.getElem?_map, h3] at hw
  have e1 : some v = w := Option.some.inj hw
  subst e1
  exact ⟨v, h4, h3, ok⟩
 -- an own slot that is no argument
 have apart : ∀ (i : Nat) (m : M) (a : Addr), ρ[i]? = some (.own m) → i ∉ slotsOf as → σ[i]? = some (some (.ref a)) → ¬ qd (vs.map some) cs a := fun i m a h1 h2 h3 h => by
  obtain ⟨j, n, k, k1, k2, k3⟩ := vay (H := H) ha hc h
  have := e.inj i j m n a h1 k1 h3 k2
  subst this
  exact h2 (slots_inj.slots_mem k3)
 refine ⟨st, fun a ⟨i, m, h1, h2⟩ => ?_, ⟨by rw [yav]; exact e.len, p.env.ext, fun i c h => ?_, fun i j m n a h1 h2 h3 h4 => ?_, p.env.tab⟩⟩
 ·rcases bg i _ h1 with ⟨k1, _⟩ | ⟨k, k1, k2⟩
  ·exact ⟨i, m, k1, h2⟩
  ·obtain ⟨v, k3, k4, ok⟩ := up i k _ k1 k2
   rw [h2] at k3
   have e1 : v = .ref a := (Option.some.inj (Option.some.inj k3)).symm
   subst e1
   exact sub a (p.own a ⟨k, m, k2, by rw [List.getElem?_map, k4]; rfl⟩)
 ·rcases bg i c h with ⟨k1, k2⟩ | ⟨k, k1, k2⟩
  ·obtain ⟨v, hv, ok⟩ := e.cell i c k1
   refine ⟨v, hv, ?_⟩
   cases c with
   | no => trivial
   | dat d => obtain ⟨y, hy, z⟩ := ok; exact ⟨y, hy, Is.mono st.core d y z⟩
   | own m =>
    obtain ⟨q, o, q1, q2, q3, q4⟩ := ok
    have ap := apart i m q k1 k2 (by rw [hv, q1])
    refine ⟨q, o, q1, ?_, p.step.keep q o q3 q4.nx.1 ap, q4.mono st.core⟩
    cases z : C' q with
    | none => rfl
    | some u =>
     rcases p.step.new q q2 (by rw [z]; exact fun z => by cases z) with z | z
     ·rw [q3] at z; cases z
     ·exact absurd z ap
  ·obtain ⟨v, k3, k4, ok⟩ := up i k c k1 k2
   exact ⟨some v, k3, ok⟩
 ·have cls : ∀ (i : Nat) (m : M), (wj ρ as cs')[i]? = some (.own m) → σ[i]? = some (some (.ref a)) → (∃ m', ρ[i]? = some (.own m')) := fun i m z1 z2 => by
   rcases bg i _ z1 with ⟨k1, _⟩ | ⟨k, k1, k2⟩
   ·exact ⟨m, k1⟩
   ·obtain ⟨v, k3, k4, ok⟩ := up i k _ k1 k2
    rw [z2] at k3
    have e1 : v = .ref a := (Option.some.inj (Option.some.inj k3)).symm
    subst e1
    obtain ⟨k', m', y1, y2⟩ := p.own a ⟨k, m, k2, by rw [List.getElem?_map, k4]; rfl⟩
    rcases g k' _ y1 with ⟨d, v, z, _⟩ | ⟨i2, m2, v2, r1, r2, r3, r4, r5⟩
    ·cases z
    ·rw [List.getElem?_map, r4] at y2
     have e2 : v2 = .ref a := Option.some.inj (Option.some.inj y2)
     subst e2
     have il : i < ρ.length := by rw [← e.len]; exact (List.getElem?_eq_some_iff.mp z2).1
     -- the slot i is an argument's, so its cell is own
     have : ∃ m', ρ[i]? = some (.own m') := by
      have hk : k < cs.length := by
       rw [l]
       exact (List.getElem?_eq_some_iff.mp k4).1
      rcases g k _ (List.getElem?_eq_getElem hk) with ⟨d, v, z, z3, z4⟩ | ⟨i3, m3, v3, s1, s2, s3, s4, s5⟩
      ·exfalso
       exact noinl hc k1 (by rw [List.getElem?_eq_getElem hk, z])
      ·rw [k1] at s5
       cases s5
       exact ⟨m3, s2⟩
     exact this
  obtain ⟨m', z1⟩ := cls i m h1 h3
  obtain ⟨n', z2⟩ := cls j n h2 h4
  exact e.inj i j m' n' a z1 z2 h3 h4
where noinl : ∀ {ρ : En} {as : List Arg} {cs : List Cell} {k i : Nat} {d : D}, cellsOf ρ as = some cs → as[k]? = some (.inr i) → cs[k]? = some (.dat d) → False
 | ρ, [], cs, k, i, d, h, h1, h2 => by simp at h1
 | ρ, .inl x :: as, cs, k, i, d, h, h1, h2 => by
  simp only [cellsOf] at h
  cases q : cellsOf ρ as with
  | none => rw [q] at h; cases h
  | some cs' =>
   rw [q] at h; cases h
   cases k with
   | zero => simp at h1
   | succ k => exact noinl q (by simpa using h1) (by simpa using h2)
 | ρ, .inr x :: as, cs, k, i, d, h, h1, h2 => by
  simp only [cellsOf] at h
  cases q0 : ρ[x]? with
  | none => simp only [q0] at h; cases h
  | some c0 =>
   cases c0 with
   | no => simp only [q0] at h; cases h
   | dat d => simp only [q0] at h; cases h
   | own m =>
    simp only [q0] at h
    cases q : cellsOf ρ as with
    | none => simp only [q] at h; cases h
    | some cs' =>
     simp only [q] at h; cases h
     cases k with
     | zero => simp at h2
     | succ k => exact noinl q (by simpa using h1) (by simpa using h2)
theorem jbe {σ : Sl} {C H : Hp} {ρ : En} {n : Nat} {F : P Rv} {as : List Arg} {vs : List V} {H0 : Hp} (e : EnvOk K C H σ ρ) (ha : ArgOk K C σ as vs) (hd : ∀ b, H b = none → H0 b = none)
  (hF : ∀ cs r cs', F cs = some (.ok r cs') → rvD r = true) :
  At K W (VRel K H0) σ C H ρ (fun H Q => spF K n F vs H Q (fun cls d H => W cls d σ H)) (jx n F as ρ) := by
 unfold jx
 by_cases hnd : (slotsOf as).Nodup ∧ as.length = n
 ·rw [if_pos hnd]
  obtain ⟨hnd, hn⟩ := hnd
  cases q : cellsOf ρ as with
  | none => exact At.nil
  | some cs =>
   dsimp only
   cases q2 : F cs with
   | none => exact At.nil
   | some out =>
    have ea := EnvOk.args e ha hnd q
    intro out' Q ho hok hex
    refine ⟨by rw [← hn]; exact ha.len.symm, C, cs, out, ea, q2, fun r cs' z => ?_, fun x cs' z d C' H' p k => ?_⟩
    ·subst z
     cases ho
     have hr := hF _ _ _ q2
     refine ⟨hr, fun v C' H' p k => ?_⟩
     have pb := Post.back e ha hnd q p
     refine hok r _ rfl v C' H' pb ?_
     cases r with
     | dat d => exact k
     | bor i => cases hr
     | new m =>
      obtain ⟨a, o, k1, k2, k3, k4, k5, k6⟩ := k
      refine ⟨a, o, k1, k2, k3, k4, fun z => ?_, hd a k6⟩
      obtain ⟨i, m', z1, z2⟩ := pb.own a z
      obtain ⟨b, o', y1, y2, y3, y4⟩ := jk e z1
      rw [z2] at y1; cases y1
      rw [k6] at y3; cases y3
    ·subst z
     cases ho
     exact hex x _ rfl d C' H' (Post.back e ha hnd q p) k
 ·rw [if_neg hnd]; exact At.nil
theorem ka7 {fx : List Nat} {N : Nat} {body : P Fl} : ∀ cs r cs', runF fx N body cs = some (.ok r cs') → rvD r = true := by
 intro cs r cs' h
 unfold runF at h
 split at h
 ·rename_i r0 ρ _
  cases q : handed cs.length ρ r0 with
  | none => rw [q] at h; cases h
  | some r' =>
   rw [q] at h
   dsimp only at h
   cases q2 : merge fx 0 cs ρ with
   | none => rw [q2] at h; cases h
   | some cs2 =>
    rw [q2] at h
    cases h
    cases r0 with
    | dat d => cases q; rfl
    | new m => cases q; rfl
    | bor i =>
     unfold handed at q
     split at q
     ·rename_i z; cases z
     ·rename_i z; cases z
     ·split at q
      ·cases q; rfl
      ·split at q
       ·cases q; rfl
       ·cases q
      ·cases q
 ·rename_i ρ _
  cases q2 : merge fx 0 cs ρ with
  | none => rw [q2] at h; cases h
  | some cs2 => rw [q2] at h; cases h; rfl
 ·rename_i ρ _
  cases q2 : merge fx 0 cs ρ with
  | none => rw [q2] at h; cases h
  | some cs2 => rw [q2] at h; cases h
 ·cases h
theorem sd_call {n : Nat} {F : P Rv} {t : TA} {fs : P (List Arg)} (hF : ∀ cs r cs', F cs = some (.ok r cs') → rvD r = true) (hs : Sd K W (ARel K) t fs) :
  Sd K W (VRel K) (tCallS (spF K n F) (WE W) t) (zc n F fs) := by
 intro σ C H ρ e
 show At K W (VRel K H) σ C H ρ (fun H Q => t σ H fun vs H1 => spF K n F vs H1 Q (fun cls d H => W cls d σ H)) (jd (fs ρ) fun as => jx n F as)
 refine At.bind (tk := fun (vs : List V) (H1 : Hp) (Q : VK) => spF K n F vs H1 Q (fun cls d H => W cls d σ H)) (hs σ C H ρ e) fun as ρ1 vs C1 H1 p1 r1 => ?_
 exact jbe p1.env r1 p1.step.dom hF
end
end PL
namespace PL
open PySem L2
def asI (r : Rv) : P (Option Int) := fun ρ => match peek ρ r with
 | some (.s (.int i)) => some (.ok (some i) ρ)
 | _ => none
def zNo : P (Option Int) := P.ret none
def zAt (f : P Rv) : P (Option Int) := f.bind asI
def fSl (fo : P Rv) (lo hi : P (Option Int)) : P Rv := fo.bind fun ro => lo.bind fun l => hi.bind fun h => pk1 ro fun d => P.of (slD d l h)
section
variable {K : PySem.W.Frag} {W : WX} {te : TE} {tl tu : TO} {f : P Rv} {lo hi : P (Option Int)}
theorem sz_no : Sd K W IRel tNoPart zNo := fun σ C H ρ e => At.ret (R := IRel H) (v := none) e rfl
theorem sz_at (hf : Sd K W (VRel K) te f) : Sd K W IRel (tPart te) (zAt f) := by
 intro σ C H ρ e
 show At K W (IRel H) σ C H ρ (fun H Q => te σ H fun x H1 => ∃ i, x = .int i ∧ Q (some i) H1) (jd (f ρ) asI)
 refine At.bind (tk := fun (x : V) (H1 : Hp) (Q : Option Int → Hp → Prop) => ∃ i, x = .int i ∧ Q (some i) H1) (hf σ C H ρ e) fun r ρ1 x C1 H1 p1 r1 => ?_
 unfold asI
 cases q : peek ρ1 r with
 | none => exact At.nil
 | some d =>
  cases d with
  | s y =>
   cases y with
   | int i => exact At.imp (At.ret (R := IRel H) (v := some i) p1.env rfl) fun Q h => ⟨i, pk_s.mp (kf p1.env r1 q), h⟩
   | _ => exact At.nil
  | _ => exact At.nil
theorem sd_sl (hf : Sd K W (VRel K) te f) (hl : Sd K W IRel tl lo) (hh : Sd K W IRel tu hi) : Sd K W (VRel K) (tSl (rSlX K) te tl tu) (fSl f lo hi) := by
 intro σ C H ρ e
 show At K W (VRel K H) σ C H ρ (fun H Q => te σ H fun x H1 => tl σ H1 fun l H2 => tu σ H2 fun u H3 => rSlX K x l u H3 Q) (jd (f ρ) fun ro => lo.bind fun l => hi.bind fun h => pk1 ro fun d => P.of (slD d l h))
 refine At.bind (tk := fun (x : V) (H1 : Hp) (Q : VK) => tl σ H1 fun l H2 => tu σ H2 fun u H3 => rSlX K x l u H3 Q) (hf σ C H ρ e) fun ro ρ1 x C1 H1 p1 r1 => ?_
 refine At.bind (tk := fun (l : Option Int) (H2 : Hp) (Q : VK) => tu σ H2 fun u H3 => rSlX K x l u H3 Q) (hl σ C1 H1 ρ1 p1.env) fun l ρ2 vl C2 H2 p2 r2 => ?_
 refine At.bind (tk := fun (u : Option Int) (H3 : Hp) (Q : VK) => rSlX K x vl u H3 Q) (hh σ C2 H2 ρ2 p2.env) fun u ρ3 vu C3 H3 p3 r3 => ?_
 have r2 : vl = l := r2
 have r3 : vu = u := r3
 subst r2 r3
 have r1' := VOk.mono (VOk.mono r1 p1.env p2) p2.env p3
 refine At.pk1 fun d q1 => At.pof fun rv q3 => ?_
 exact At.giv p3.env (fun b h => p1.step.dom b (p2.step.dom b (p3.step.dom b h))) fun Q g => ok_sl p3.env.ext q3 (kf p3.env r1' q1) g
end
def py (d : D) : PyData := (toPy d).getD .none
def shp (d : D) : Bool := match toPy d with
 | some a => SeqAt.shaped a
 | none => false
def dle (x y : D) : Bool := PySem.W.dataLe false py x y
theorem zay {d : D} (h : shp d = true) : toPy d = some (py d) ∧ SeqAt.shaped (py d) = true := by
 unfold shp at h
 unfold py
 cases q : toPy d with
 | none => rw [q] at h; cases h
 | some a => rw [q] at h; exact ⟨rfl, h⟩
theorem zai {a : PyData} (h : SeqAt.shaped a = true) : a.depth ≤ 64 := by
 have h : (a.canLay0 && decide (a.depth ≤ 64)) = true := h
 exact of_decide_eq_true (Bool.and_eq_true_iff.mp h).2
def jbb : PyData → Bool
 | .none => true
 | _ => false
theorem vbn {d : PyData} (h : jbb d = false) : d ≠ .none := by
 rintro rfl
 cases h
def rLtD (K : PySem.W.Frag) : R2 := fun x y H Q => ∃ a b, Dp K H x a ∧ Dp K H y b ∧ SeqAt.shaped a = true ∧ PySem.W.alike a b = true ∧ a ≠ .none ∧ Q (.bl (PySem.W.dataLt a b)) H
theorem op_ltDt {X : Cx} (hu : X.A.units + 65 < cLine) : OpR X (compareOp .Lt) (rLtD X.K) := by
 intro pins s σ H x y v u Q I rx ry h
 obtain ⟨a, b, hx, hy, sa, hal, hn, q⟩ := h
 obtain ⟨as, r1⟩ := Dp.reads I a x v hx rx
 obtain ⟨bs, r2⟩ := Dp.reads I b y u hy ry
 have := zai sa
 exact PySem.W.rcLt_alike a b X.A s v u as bs r1 r2 hal hn (by omega) X.prog X.w _ _ ⟨.bl _, H, I, rfl, q⟩
def ltB (x y : D) : Option Bool := match toPy x with
 | none => none
 | some a => match toPy y with
  | none => none
  | some b => if (SeqAt.shaped a && PySem.W.alike a b && !jbb a) = true then some (PySem.W.dataLt a b) else none
def ltXD : D → D → Option Rv
 | .s (.int i), .s (.int j) => some (rvB (decide (i < j)))
 | .s (.str a), .s (.str b) => some (rvB (strLt a b))
 | x, y => match ltB x y with
  | some b => some (rvB b)
  | none => none
def rLtXX (K : PySem.W.Frag) : R2 := fun x y H Q => rLtX x y H Q ∨ rLtD K x y H Q
theorem op_ltXX {X : Cx} (hu : X.A.units + 65 < cLine) : OpR X (compareOp .Lt) (rLtXX X.K) := op_ltX.or (op_ltDt hu)
theorem ok_ltXX {K : PySem.W.Frag} : R2Ok K (rLtXX K) ltXD := by
 intro C H e dx dy x y rv Q h hx hy g
 unfold ltXD at h
 split at h
 ·cases pk_s.mp hx; cases pk_s.mp hy; cases h
  exact .inl (.inl ⟨_, _, rfl, rfl, g.d e⟩)
 ·cases pk_s.mp hx; cases pk_s.mp hy; cases h
  exact .inl (.inr ⟨_, _, rfl, rfl, g.d e⟩)
 ·unfold ltB at h
  cases q1 : toPy dx with
  | none => rw [q1] at h; cases h
  | some a =>
   cases q2 : toPy dy with
   | none => rw [q1, q2] at h; cases h
   | some b =>
    rw [q1, q2] at h
    dsimp only at h
    by_cases hc : (SeqAt.shaped a && PySem.W.alike a b && !jbb a) = true
    ·rw [if_pos hc] at h
     cases h
     obtain ⟨h1, h2⟩ := Bool.and_eq_true_iff.mp hc
     obtain ⟨h3, h4⟩ := Bool.and_eq_true_iff.mp h1
     exact .inr ⟨a, b, xax e q1 hx, xax e q2 hy, h3, h4, vbn (by simpa using h2), g.d e⟩
    ·rw [if_neg hc] at h; cases h
def consTup : PyData → Bool
 | .tuple (_ :: _) => true
 | _ => false
abbrev EIs {α β : Type} (R : α → β → Prop) := PySem.W.EachIs R
theorem each_comp {xs : List V} {its : List Value} {bs : List D} {R : V → D → Prop} (h : Vals xs its) (r : EIs R xs bs) : EIs (fun v d => ∃ x, RelV x v ∧ R x d) its bs := by
 induction r generalizing its with
 | nil => cases h; exact .nil
 | cons h1 t ih =>
  cases h with
  | cons h2 h3 => exact .cons ⟨_, h2, h1⟩ (ih h3)
theorem each_back {its : List Value} {bs : List D} {R : V → D → Prop} (h : EIs (fun v d => ∃ x, RelV x v ∧ R x d) its bs) : ∃ ys, Vals ys its ∧ EIs R ys bs := by
 induction h with
 | nil => exact ⟨[], .nil, .nil⟩
 | cons h1 t ih =>
  obtain ⟨x, h2, h3⟩ := h1
  obtain ⟨ys, h4, h5⟩ := ih
  exact ⟨x :: ys, .cons h2 h4, .cons h3 h5⟩
theorem sorts_few {prog : Program} {w : World} {A : Around} {s : Shared} {vs : List Value} {ds : List PyData} (e : EIs (fun v d => ∃ as, Reads s.heap v d as) vs ds) (hal : PySem.W.AllAlike ds) (hk : ds.length ≤ 1 ∧ ∀ d ∈ ds, d ≠ .none) (hu : ∀ d, d ∈ ds → A.units + d.depth < cLine) : PySem.W.SortsAt prog w A s (PySem.W.dataKind s.heap ds) vs := by
 refine ⟨fun v hv => ?_, PyProof.Rows.general', fun E x y a b Q ha hb hq => ?_, fun h2 => ?_⟩
 ·obtain ⟨d, hd, as, r⟩ := e.left v hv
  exact ⟨_, PySem.W.dataKind_some hal hd r⟩
 ·obtain ⟨d, as, hd, ra, rfl⟩ := PySem.W.dataKind_inv ha
  obtain ⟨d', as', hd', rb, rfl⟩ := PySem.W.dataKind_inv hb
  exact PySem.W.oneLt_alike (f := false) (fun h => nomatch h) ra rb (hal d hd d' hd') (hk.2 d hd) (Nat.lt_of_le_of_lt (Nat.add_le_add_left (Nat.min_le_left _ _) _) (hu d hd)) hq
 ·have := e.length
  have := hk.1
  omega
section
variable {K : PySem.W.Frag} {C H : Hp}
theorem iss_each : ∀ {ds : List D} {xs : List V}, Iss K C ds xs → EIs (fun x d => Is K C d x) xs ds
 | [], xs, h => by rw [iss_nil_iff.mp h]; exact .nil
 | d :: ds, xs, h => by
  obtain ⟨x, r, rfl, h1, h2⟩ := iss_cons_iff.mp h
  exact .cons h1 (iss_each h2)
theorem each_iss {ds : List D} {xs : List V} (h : EIs (fun x d => Is K C d x) xs ds) : Iss K C ds xs := by
 induction h with
 | nil => exact kc
 | cons h1 _ ih => exact yb h1 ih
end
section
open AutoSeq1 (wpAny_loadPart')
theorem tuple_mul0 (l : Addr) (items : Array Value) (n : Nat) (dd : Option Addr) (sl : Array (Option Value)) (x : Int) (u : Tok) (c0 : (decide (x < -(2 ^ 63)) || decide (x ≥ 2 ^ 63)) = false) (c1 : (items.isEmpty || x == 1) = false) (c2 : (decide (x ≤ 0) || items.isEmpty) = true) :
  Meets (Builtin.«tuple.__mul__» ⟨[.ref l, .int x u], []⟩) (fun _ R s => s.heap.get? l = some { cls := .type "tuple", dict := dd, data := .seq items n, slots := sl } ∧
   R (.ok (.ret (Value.ref s.heap.objs.size))) { s with heap := s.heap.push { cls := Value.type "tuple", data := Data.seq #[] }, toks := s.toks }) :=
 .of_wp fun prog w A R s h => by
  obtain ⟨hp, g, d, tk, os⟩ := s
  obtain ⟨hl, h⟩ := h
  have f1 := AutoSeq1.idx_int
  wp_walk using wpAny_loadPart' hl
  repeat (first
   | (refine wpAny_ite_false (decide_eq_false (by rw [c0]; exact Bool.false_ne_true)) ?_; wp_walk using wpAny_loadPart' hl)
   | (refine wpAny_ite_false (decide_eq_false (by rw [c1]; exact Bool.false_ne_true)) ?_; wp_walk using wpAny_loadPart' hl)
   | (refine wpAny_ite_true (decide_eq_true (by rw [c2])) ?_; wp_walk using wpAny_loadPart' hl))
  exact ⟨_, rfl, h⟩
theorem tuple_mul1 (l : Addr) (items : Array Value) (n : Nat) (dd : Option Addr) (sl : Array (Option Value)) (x : Int) (u : Tok) (c0 : (decide (x < -(2 ^ 63)) || decide (x ≥ 2 ^ 63)) = false) (c1 : (items.isEmpty || x == 1) = true) :
  Meets (Builtin.«tuple.__mul__» ⟨[.ref l, .int x u], []⟩) (fun _ R s => s.heap.get? l = some { cls := .type "tuple", dict := dd, data := .seq items n, slots := sl } ∧
   R (.ok (.ret (Value.ref l))) s) :=
 .of_wp fun prog w A R s h => by
  obtain ⟨hp, g, d, tk, os⟩ := s
  obtain ⟨hl, h⟩ := h
  have f1 := AutoSeq1.idx_int
  wp_walk using wpAny_loadPart' hl
  repeat (first
   | (refine wpAny_ite_false (decide_eq_false (by rw [c0]; exact Bool.false_ne_true)) ?_; wp_walk using wpAny_loadPart' hl)
   | (refine wpAny_ite_true (decide_eq_true (by rw [c1])) ?_; wp_walk using wpAny_loadPart' hl))
  exact ⟨_, rfl, h⟩
end
def rRepT0 (K : PySem.W.Frag) : R2 := fun x y H Q => ∃ l k xs, x = .ref l ∧ y = .int k ∧ SqT K H l xs ∧ xs ≠ [] ∧ -1000 ≤ k ∧ k ≤ 0 ∧ ∀ p, H p = none → Q (.ref p) (upd H p (.tup []))
def rRepT1 (K : PySem.W.Frag) : R2 := fun x y H Q => ∃ l k xs, x = .ref l ∧ y = .int k ∧ SqT K H l xs ∧ (xs = [] ∨ k = 1) ∧ -1000 ≤ k ∧ k ≤ 1000 ∧ Q (.ref l) H
section
variable {X : Cx}
theorem op_repT0 : OpR X (binaryOp .Mult) (rRepT0 X.K) := by
 intro pins s σ H x y v u Q I rx ry h
 obtain ⟨l, k, xs, rfl, rfl, hT, hne, h1, h2, q⟩ := h
 cases rx
 obtain ⟨t, rfl⟩ := ry
 obtain ⟨its, r, ⟨⟨cls, dd, data, sl⟩, ho, hc, n, hd⟩, hs⟩ := I.tuple hT
 simp only at hc hd
 subst hc hd
 have hle : its.length = xs.length := r.length.symm
 have hn : its ≠ [] := fun e => hne (by
  rw [e] at hle
  exact List.eq_nil_of_length_eq_zero hle.symm)
 have hi : its.toArray.isEmpty = false := by
  cases its with
  | nil => exact absurd rfl hn
  | cons a b => rfl
 have c0 : (decide (k < -(2 ^ 63)) || decide (k ≥ 2 ^ 63)) = false := by
  rw [decide_eq_false (by omega), decide_eq_false (by omega)] <;> rfl
 have c1 : (its.toArray.isEmpty || k == 1) = false := by
  rw [hi, Bool.false_or]
  exact beq_eq_false_iff_ne.mpr (by omega)
 have c2 : (decide (k ≤ 0) || its.toArray.isEmpty) = true := by
  rw [decide_eq_true h2, Bool.true_or]
 refine wpAny_binaryOp_repeat_ref (T := "tuple") (U := "int") (by decide) ⟨_, ho, rfl⟩ (fun s' => typeIs_int s' k t) noFill_tuple_mul F.fills_int_mul F.slot_int_rmul repeat_tuple F.slot_int_index.lookup
  (call_meets F.slot_int_rmul (typeIs_int s k t) F.entry_int_rmul (F.args_int_rmul_2 _ _) (int_rmul_tuple k t l its.toArray n dd sl)
   ⟨ho, rfl, ⟨_, ho, rfl⟩, call_meets F.slot_tuple_mul ⟨_, ho, rfl⟩ F.entry_tuple_mul (F.args_tuple_mul_2 _ _) (tuple_mul0 l its.toArray n dd sl k t c0 c1 c2) ⟨ho, ?_⟩⟩)
 exact ⟨.ref s.heap.objs.size, _, I.laid (t' := s.toks) (o := .tup []) (fun b ob q => Heap.get?_push_of_some _ q) (Nat.le_refl _) ⟨Nat.zero_le _, [], .nil, PyProof.Rows.IsTup.new _ _⟩, rfl, q _ (I.hok.fresh (Nat.le_refl _))⟩
theorem op_repT1 : OpR X (binaryOp .Mult) (rRepT1 X.K) := by
 intro pins s σ H x y v u Q I rx ry h
 obtain ⟨l, k, xs, rfl, rfl, hT, hne, h1, h2, q⟩ := h
 cases rx
 obtain ⟨t, rfl⟩ := ry
 obtain ⟨its, r, ⟨⟨cls, dd, data, sl⟩, ho, hc, n, hd⟩, hs⟩ := I.tuple hT
 simp only at hc hd
 subst hc hd
 have c0 : (decide (k < -(2 ^ 63)) || decide (k ≥ 2 ^ 63)) = false := by
  rw [decide_eq_false (by omega), decide_eq_false (by omega)] <;> rfl
 have c1 : (its.toArray.isEmpty || k == 1) = true := by
  rcases hne with rfl | rfl
  ·cases r; rfl
  ·rw [beq_self_eq_true, Bool.or_true]
 refine wpAny_binaryOp_repeat_ref (T := "tuple") (U := "int") (by decide) ⟨_, ho, rfl⟩ (fun s' => typeIs_int s' k t) noFill_tuple_mul F.fills_int_mul F.slot_int_rmul repeat_tuple F.slot_int_index.lookup
  (call_meets F.slot_int_rmul (typeIs_int s k t) F.entry_int_rmul (F.args_int_rmul_2 _ _) (int_rmul_tuple k t l its.toArray n dd sl)
   ⟨ho, rfl, ⟨_, ho, rfl⟩, call_meets F.slot_tuple_mul ⟨_, ho, rfl⟩ F.entry_tuple_mul (F.args_tuple_mul_2 _ _) (tuple_mul1 l its.toArray n dd sl k t c0 c1) ⟨ho, ?_⟩⟩)
 exact ⟨.ref l, H, I, rfl, q⟩
def zak : D → D → Option Rv
 | .tup ds, .s (.int j) => if -1000 ≤ j ∧ j ≤ 1000 ∧ ds.length ≤ 1000 then some (.dat (.tup (List.replicate j.toNat ds).flatten)) else none
 | x, y => mulD x y
def rMulXX (K : PySem.W.Frag) : R2 := fun x y H Q => rMulX K x y H Q ∨ rRepT0 K x y H Q ∨ rRepT1 K x y H Q
theorem op_mulXX : OpR X (binaryOp .Mult) (rMulXX X.K) := op_mulX.or (op_repT0.or op_repT1)
theorem ok_mulXX {K : PySem.W.Frag} : R2Ok K (rMulXX K) zak := by
 intro C H e dx dy x y rv Q h hx hy g
 unfold zak at h
 split at h
 ·rename_i ds j
  obtain ⟨⟨h1, h2, h3⟩, rfl⟩ := yc h
  cases pk_s.mp hy
  have hx0 := hx
  obtain ⟨a, xs, rfl, k1, k2⟩ := j4 e hx
  by_cases hn : ds = []
  ·subst hn
   have hxs : xs = [] := iss_nil_iff.mp k2
   have hz : (List.replicate j.toNat ([] : List D)).flatten = [] := by simp
   rw [hz] at g
   exact .inr (.inr ⟨a, j, xs, rfl, rfl, k1, .inl hxs, h1, h2, g.same e hx0⟩)
  ·have hxn : xs ≠ [] := fun z => by
    rw [z] at k2
    exact hn (List.eq_nil_of_length_eq_zero k2.length.symm)
   by_cases hj0 : j ≤ 0
   ·have hz : j.toNat = 0 := by omega
    rw [hz] at g
    exact .inr (.inl ⟨a, j, xs, rfl, rfl, k1, hxn, h1, hj0, fun p hp => g.tup e kc hp⟩)
   ·by_cases hj1 : j = 1
    ·subst hj1
     have hz : (List.replicate (Int.toNat 1) ds).flatten = ds := by simp
     rw [hz] at g
     exact .inr (.inr ⟨a, 1, xs, rfl, rfl, k1, .inr rfl, h1, h2, g.same e hx0⟩)
    ·exact .inl (.inr (.inr ⟨a, j, xs, rfl, rfl, k1, hxn, by omega, h2, by rw [k2.length]; exact h3, fun p hp => g.tup e (k2.flat _) hp⟩))
 ·exact .inl (ok_mul C H e dx dy x y rv Q h hx hy g)
end
end PL
namespace PL
open PySem L2
structure CtxOk {ι : Type} (X : ι → Cx) (P : Program) (w : World) (K : PySem.W.Frag) (mg : Str → Option Value) (base : Heap) (k : Nat) (W : WX) (N : List Str) (sc : Scope) : Prop where
 pP : ∀ i, (X i).prog = P
 pw : ∀ i, (X i).w = w
 pK : ∀ i, (X i).K = K
 pm : ∀ i, (X i).mg = mg
 pb : ∀ i, (X i).base = base
 room : ∀ i, Room k (X i).A
 tk : ∀ i, Takes (X i) W
 calm : ∀ i, (X i).calm = true
 pass : ∀ i, PassesOwn (model (X i).prog (X i).w) (X i).A (X i).env (X i).xe
 nN : ∀ i, (X i).N = N
 ns : ∀ i, (X i).env.scope = sc
 nd' : N.Nodup
section
variable {ι : Type}
def BE (X : ι → Cx) (K : PySem.W.Frag) (W : WX) (e : Expr) (f : P Rv) : Prop := ∃ t, (∀ i, PE (X i) e t) ∧ Sd K W (VRel K) t f
def BT (X : ι → Cx) (K : PySem.W.Frag) (W : WX) (e : Expr) (g : P Bool) : Prop := ∃ t, (∀ i, PT (X i) e t) ∧ Sd K W BRel t g
def BW (X : ι → Cx) (K : PySem.W.Frag) (W : WX) (e : Expr) (g : P Bool) : Prop := ∃ t, (∀ i, PW (X i) e t) ∧ Sd K W BRel t g
def BTs (X : ι → Cx) (K : PySem.W.Frag) (W : WX) (e : List Expr) (g : P Bool) : Prop := ∃ t, (∀ i, PTs (X i) e t) ∧ Sd K W BRel t g
def BAv (X : ι → Cx) (K : PySem.W.Frag) (W : WX) (es : List Expr) (f : P (List Rv)) : Prop := ∃ t, (∀ i, PA (X i) es t) ∧ Sd K W (vax K) t f
def BAd (X : ι → Cx) (K : PySem.W.Frag) (W : WX) (es : List Expr) (f : P (List D)) : Prop := ∃ t, (∀ i, PA (X i) es t) ∧ Sd K W (xak K) t f
def BAa (X : ι → Cx) (K : PySem.W.Frag) (W : WX) (es : List Expr) (f : P (List Arg)) : Prop := ∃ t, (∀ i, PA (X i) es t) ∧ Sd K W (ARel K) t f
def BO (X : ι → Cx) (K : PySem.W.Frag) (W : WX) (e : Option Expr) (f : P (Option Int)) : Prop := ∃ t, (∀ i, PO (X i) e t) ∧ Sd K W IRel t f
def BI (X : ι → Cx) (K : PySem.W.Frag) (W : WX) (tg e : Expr) (f : P (List D)) : Prop := ∃ t, (∀ i, PI (X i) tg e t) ∧ Sd K W (jn K) t f
def BG (X : ι → Cx) (K : PySem.W.Frag) (js : List Nat) (e : Expr) (a : Tgt) : Prop := ∃ t, (∀ i, PG (X i) e t) ∧ SdG K js t a
def BGs (X : ι → Cx) (K : PySem.W.Frag) (js : List Nat) (es : List Expr) (a : List D → En → Option En) : Prop := ∃ t, (∀ i, PGs (X i) es t) ∧ SdGs K js t a
def BS (X : ι → Cx) (K : PySem.W.Frag) (W : WX) (fx : List Nat) (st : Stmt) (g : P Fl) : Prop := ∃ t, (∀ i, PS (X i) st t) ∧ SdS K W fx t g
def BSs (X : ι → Cx) (K : PySem.W.Frag) (W : WX) (fx : List Nat) (st : List Stmt) (g : P Fl) : Prop := ∃ t, (∀ i, PSs (X i) st t) ∧ SdS K W fx t g
variable {X : ι → Cx} {P : Program} {w : World} {K : PySem.W.Frag} {mg : Str → Option Value} {base : Heap} {k : Nat} {W : WX} {N : List Str} {sc : Scope}
variable {a b c e o : Expr} {es : List Expr} {pos p p2 apos tpos : Pos} {x : Str} {fa fb fc fe : PL.P Rv} {g h : PL.P Bool}
theorem CtxOk.nd (B : CtxOk X P w K mg base k W N sc) (i : ι) : (X i).N.Nodup := by rw [B.nN i]; exact B.nd'
theorem CtxOk.at_ (B : CtxOk X P w K mg base k W N sc) {n : Nat} {x : Str} (h : N[n]? = some x) (i : ι) : (X i).N[n]? = some x := by rw [B.nN i]; exact h
theorem CtxOk.vis (B : CtxOk X P w K mg base k W N sc) {x : Str} (h : Vis sc x) (i : ι) : Vis (X i).env.scope x := by rw [B.ns i]; exact h
theorem CtxOk.lo (B : CtxOk X P w K mg base k W N sc) {x : Str} (h : Loc sc x) (i : ι) : Loc (X i).env.scope x := by rw [B.ns i]; exact h
theorem CtxOk.lcl (B : CtxOk X P w K mg base k W N sc) {x : Str} (h : sc.names.lookup x = some .local) (i : ι) : (X i).env.scope.names.lookup x = some .local := by rw [B.ns i]; exact h
theorem CtxOk.gl (B : CtxOk X P w K mg base k W N sc) {x : Str} (h : sc.names.lookup x = some .globalImplicit) (i : ι) : Gl (X i) x := by
 show (X i).env.scope.names.lookup x = some .globalImplicit
 rw [B.ns i]; exact h
theorem CtxOk.u64 (B : CtxOk X P w K mg base k W N sc) (i : ι) : (X i).A.units + 67 < cLine := by have := (B.room i).un; omega
theorem qa (B : CtxOk X P w K mg base k W N sc) (n : Nat) (hN : N[n]? = some x := by rfl) (hv : Vis sc x := by first | exact Or.inl rfl | exact Or.inr (Or.inl rfl) | exact Or.inr (Or.inr rfl)) (hd : (x == ("__debug__" : Str)) = false := by decide)
  (hcd : (x == ("__classdict__" : Str)) = false := by decide) : BE X K W (.Name x pos) (fVar n) := ⟨_, fun i => pe_var (B.at_ hN i) (B.vis hv i) hd hcd, sd_var⟩
theorem va {z : Int} {j} : BE X K W (.Constant (.int z) j pos) (fC (.s (.int z))) := ⟨_, fun i => pe_int, sd_c⟩
theorem vf {z : Str} {j} : BE X K W (.Constant (.str z) j pos) (fC (.s (.str z))) := ⟨_, fun i => pe_str, sd_c⟩
theorem vbd {z : Bool} {j} : BE X K W (.Constant (.bool z) j pos) (fC (.s (.bl z))) := ⟨_, fun i => pe_bl, sd_c⟩
theorem be_non {j} : BE X K W (.Constant .none j pos) (fC (.s .non)) := ⟨_, fun i => pe_non, sd_c⟩
theorem be_glob {v : V} {u : Value} (B : CtxOk X P w K mg base k W N sc) (hm : mg x = some u) (r : RelV v u) (hg : sc.names.lookup x = some .globalImplicit := by rfl) (hd : (x == ("__debug__" : Str)) = false := by decide) : BE X K W (.Name x pos) (fC (.s v)) :=
 ⟨_, fun i => pe_glob (B.gl hg i) (by rw [B.pm i]; exact hm) r hd, sd_c⟩
theorem kav {T : String} (B : CtxOk X P w K mg base k W N sc) (hm : mg x = none) (hv : bootBuiltins x = some (.type T)) (hg : sc.names.lookup x = some .globalImplicit := by rfl) (hn : x ≠ "__name__" := by decide) (hd : (x == ("__debug__" : Str)) = false := by decide) : BE X K W (.Name x pos) (fC (.s (.ty T))) :=
 ⟨_, fun i => pe_bltn (B.gl hg i) (by rw [B.pm i]; exact hm) hv (show RelV (.ty T) (.type T) from rfl) hn hd, sd_c⟩
theorem be_op {op : Operator} {r : R2} {f : D → D → Option Rv} (ho : ∀ i, OpR (X i) (binaryOp op) r) (hr : R2Ok K r f) (ha : BE X K W a fa) (hb : BE X K W b fb) : BE X K W (.BinOp a op b pos) (fOp f fa fb) := by
 obtain ⟨ta, pa, sa⟩ := ha
 obtain ⟨tb, pb, sb⟩ := hb
 exact ⟨_, fun i => pe_op (ho i) (pa i) (pb i), sd_op hr sa sb⟩
theorem ke (B : CtxOk X P w K mg base k W N sc) (ha : BE X K W a fa) (hb : BE X K W b fb) : BE X K W (.BinOp a .Add b pos) (fOp addD fa fb) := be_op (fun i => by have := @op_addX (X i); rw [B.pK i] at this; exact this) ok_add ha hb
theorem be_sub (B : CtxOk X P w K mg base k W N sc) (ha : BE X K W a fa) (hb : BE X K W b fb) : BE X K W (.BinOp a .Sub b pos) (fOp subD fa fb) := be_op (fun i => op_sub) ok_sub ha hb
theorem ybj (B : CtxOk X P w K mg base k W N sc) (ha : BE X K W a fa) (hb : BE X K W b fb) : BE X K W (.BinOp a .Mult b pos) (fOp zak fa fb) := be_op (fun i => by have := @op_mulXX (X i); rw [B.pK i] at this; exact this) ok_mulXX ha hb
theorem be_mod (B : CtxOk X P w K mg base k W N sc) (ha : BE X K W a fa) (hb : BE X K W b fb) : BE X K W (.BinOp a .Mod b pos) (fOp modD fa fb) := be_op (fun i => op_mod) ok_mod ha hb
theorem be_fdiv (B : CtxOk X P w K mg base k W N sc) (ha : BE X K W a fa) (hb : BE X K W b fb) : BE X K W (.BinOp a .FloorDiv b pos) (fOp xbi fa fb) := be_op (fun i => op_fdiv) ok_fdiv ha hb
theorem be_neg (ha : BE X K W a fa) : BE X K W (.UnaryOp .USub a pos) (fUn negD fa) := by
 obtain ⟨ta, pa, sa⟩ := ha
 exact ⟨_, fun i => pe_un un_neg (pa i), sd_un ok_neg sa⟩
inductive COp (X : ι → Cx) (K : PySem.W.Frag) (op : CmpOp) : (D → D → Option Rv) → Prop where
 | mk (r : R2) (f : D → D → Option Rv) (ho : ∀ i, OpR (X i) (compareOp op) r) (hr : R2Ok K r f) : COp X K op f
theorem c_eq (B : CtxOk X P w K mg base k W N sc) : COp X K .Eq eqD := .mk _ _ (fun i => by have := @op_eqD (X i) (by have := B.u64 i; omega); rw [B.pK i] at this; exact this) ok_eq
theorem c_ne (B : CtxOk X P w K mg base k W N sc) : COp X K .NotEq neD := .mk _ _ (fun i => by have := @op_neD (X i) (by have := B.u64 i; omega); rw [B.pK i] at this; exact this) ok_ne
theorem c_lt (B : CtxOk X P w K mg base k W N sc) : COp X K .Lt ltXD := .mk _ _ (fun i => by have := @op_ltXX (X i) (by have := B.u64 i; omega); rw [B.pK i] at this; exact this) ok_ltXX
theorem c_le (B : CtxOk X P w K mg base k W N sc) : COp X K .LtE leD := .mk _ _ (fun i => op_le) ok_le
theorem c_gt (B : CtxOk X P w K mg base k W N sc) : COp X K .Gt gtD := .mk _ _ (fun i => op_gt) ok_gt
theorem c_ge (B : CtxOk X P w K mg base k W N sc) : COp X K .GtE geD := .mk _ _ (fun i => op_ge) ok_ge
theorem c_is (B : CtxOk X P w K mg base k W N sc) : COp X K .Is isD := .mk _ _ (fun i => op_isX) ok_is
theorem c_isNot (B : CtxOk X P w K mg base k W N sc) : COp X K .IsNot kaz := .mk _ _ (fun i => op_isNotX) ok_isNot
theorem c_in (B : CtxOk X P w K mg base k W N sc) : COp X K .In inD := .mk _ _ (fun i => by have := @op_inX (X i); rw [B.pK i] at this; exact this) ok_in
theorem c_notIn (B : CtxOk X P w K mg base k W N sc) : COp X K .NotIn xbh := .mk _ _ (fun i => by have := @op_notInX (X i); rw [B.pK i] at this; exact this) ok_notIn
theorem qo {op : CmpOp} {f : D → D → Option Rv} (ho : COp X K op f) (ha : BE X K W a fa) (hb : BE X K W b fb) (hm : behindInMarks op b = false := by first | exact nomark _ | rfl) : BE X K W (.Compare a [op] [b] pos) (fOp f fa fb) := by
 obtain ⟨r, f, ho, hr⟩ := ho
 obtain ⟨ta, pa, sa⟩ := ha
 obtain ⟨tb, pb, sb⟩ := hb
 exact ⟨_, fun i => pe_cmpR (ho i) (pa i) (pb i) hm, sd_op hr sa sb⟩
theorem yk {op : CmpOp} {f : D → D → Option Rv} (ho : COp X K op f) (ha : BE X K W a fa) (hb : BE X K W b fb) (hm : behindInMarks op b = false := by first | exact nomark _ | rfl) : BT X K W (.Compare a [op] [b] pos) (yd (fOp f fa fb)) := by
 obtain ⟨r, f, ho, hr⟩ := ho
 obtain ⟨ta, pa, sa⟩ := ha
 obtain ⟨tb, pb, sb⟩ := hb
 exact ⟨_, fun i => pt_cmpR (ho i) (pa i) (pb i) hm, vaf (sd_op hr sa sb)⟩
theorem be_chain {op op' : CmpOp} {f f' : D → D → Option Rv} (ho : COp X K op f) (ho' : COp X K op' f') (ha : BE X K W a fa) (hb : BE X K W b fb) (hc : BE X K W c fc) (hm : lastMarks [op, op'] [b, c] = false := by with_unfolding_all rfl) : BE X K W (.Compare a [op, op'] [b, c] pos) (vat f f' fa fb fc) := by
 obtain ⟨r, f, ho, hr⟩ := ho
 obtain ⟨r', f', ho', hr'⟩ := ho'
 obtain ⟨ta, pa, sa⟩ := ha
 obtain ⟨tb, pb, sb⟩ := hb
 obtain ⟨tc, pc, sc⟩ := hc
 exact ⟨_, fun i => pe_chain (ho i) (ho' i) (pa i) (pb i) (pc i) hm, sd_chain hr hr' sa sb sc⟩
theorem bt_chain {op op' : CmpOp} {f f' : D → D → Option Rv} (ho : COp X K op f) (ho' : COp X K op' f') (ha : BE X K W a fa) (hb : BE X K W b fb) (hc : BE X K W c fc) (hm : lastMarks [op, op'] [b, c] = false := by with_unfolding_all rfl) : BT X K W (.Compare a [op, op'] [b, c] pos) (yd (vat f f' fa fb fc)) := by
 obtain ⟨r, f, ho, hr⟩ := ho
 obtain ⟨r', f', ho', hr'⟩ := ho'
 obtain ⟨ta, pa, sa⟩ := ha
 obtain ⟨tb, pb, sb⟩ := hb
 obtain ⟨tc, pc, sc⟩ := hc
 exact ⟨_, fun i => pt_chain (ho i) (ho' i) (pa i) (pb i) (pc i) hm, vaf (sd_chain hr hr' sa sb sc)⟩
theorem vm (ha : BE X K W a fa) (he : ∀ i, ∀ whole, isTrue a (X i).env whole = (do let v ← whole; standAt a.pos; holding [v] (truthy v)) := by intro _ _; rfl) : BT X K W a (yd fa) := by
 obtain ⟨ta, pa, sa⟩ := ha
 exact ⟨_, fun i => pt_val (pa i) (he i), sd_tb sa⟩
theorem bt_w (ha : BW X K W a g) : BT X K W a g := by
 obtain ⟨ta, pa, sa⟩ := ha
 exact ⟨_, fun i => (pa i).pt, sa⟩
theorem bw_and1 (ha : BT X K W a g) : BW X K W (.BoolOp .And [a] pos) g := by
 obtain ⟨ta, pa, sa⟩ := ha
 exact ⟨_, fun i => pw_and1 (pa i), sa⟩
theorem za1 (ha : BT X K W a g) : BW X K W (.BoolOp .Or [a] pos) g := by
 obtain ⟨ta, pa, sa⟩ := ha
 exact ⟨_, fun i => pw_or1 (pa i), sa⟩
theorem bw_and (ha : BT X K W a g) (hb : BW X K W (.BoolOp .And (b :: es) pos) h) : BW X K W (.BoolOp .And (a :: b :: es) pos) (fAnd g h) := by
 obtain ⟨ta, pa, sa⟩ := ha
 obtain ⟨tb, pb, sb⟩ := hb
 exact ⟨_, fun i => pw_and (pa i) (pb i), sd_and sa sb⟩
theorem bw_or (ha : BT X K W a g) (hb : BW X K W (.BoolOp .Or (b :: es) pos) h) : BW X K W (.BoolOp .Or (a :: b :: es) pos) (fOr g h) := by
 obtain ⟨ta, pa, sa⟩ := ha
 obtain ⟨tb, pb, sb⟩ := hb
 exact ⟨_, fun i => pw_or (pa i) (pb i), sd_or sa sb⟩
theorem j6 (ha : BT X K W a g) : BT X K W (.UnaryOp .Not a pos) (fNot g) := by
 obtain ⟨ta, pa, sa⟩ := ha
 exact ⟨_, fun i => pt_not (pa i), sd_not sa⟩
theorem zaj {op} (ha : BE X K W a fa) : BE X K W (.BoolOp op [a] pos) fa := by
 obtain ⟨ta, pa, sa⟩ := ha
 exact ⟨_, fun i => pe_one (pa i), sa⟩
theorem xx (ha : BE X K W a fa) (hb : BE X K W (.BoolOp .And (b :: es) pos) fb) : BE X K W (.BoolOp .And (a :: b :: es) pos) (v7 fa fb) := by
 obtain ⟨ta, pa, sa⟩ := ha
 obtain ⟨tb, pb, sb⟩ := hb
 exact ⟨_, fun i => pe_and (pa i) (pb i), sd_andV sa sb⟩
theorem be_or (ha : BE X K W a fa) (hb : BE X K W (.BoolOp .Or (b :: es) pos) fb) : BE X K W (.BoolOp .Or (a :: b :: es) pos) (fOrV fa fb) := by
 obtain ⟨ta, pa, sa⟩ := ha
 obtain ⟨tb, pb, sb⟩ := hb
 exact ⟨_, fun i => pe_or (pa i) (pb i), sd_orV sa sb⟩
theorem be_not (ha : BE X K W a fa) : BE X K W (.UnaryOp .Not a pos) (fNotV fa) := by
 obtain ⟨ta, pa, sa⟩ := ha
 exact ⟨_, fun i => pe_not (pa i), sd_notV sa⟩
theorem be_if (hc : BT X K W c g) (ha : BE X K W a fa) (hb : BE X K W b fb) : BE X K W (.IfExp c a b pos) (fIf g fa fb) := by
 obtain ⟨tc, pc, sc⟩ := hc
 obtain ⟨ta, pa, sa⟩ := ha
 obtain ⟨tb, pb, sb⟩ := hb
 exact ⟨_, fun i => pe_ifExp (pc i) (pa i) (pb i), sd_if sc sa sb⟩
variable {fr : PL.P (List Rv)} {gd : PL.P (List D)} {ga : PL.P (List Arg)}
theorem wc : BAv X K W [] fNil := ⟨_, fun i => pa_nil, sd_nil⟩
theorem qb (ha : BE X K W e fe) (hr : BAv X K W es fr) (hs : ∀ i, starEach (e :: es) (X i).env = (false, eval e (X i).env) :: starEach es (X i).env := by intro _; rfl) : BAv X K W (e :: es) (zd fe fr) := by
 obtain ⟨ta, pa, sa⟩ := ha
 obtain ⟨tb, pb, sb⟩ := hr
 exact ⟨_, fun i => pa_cons (pa i) (pb i) (hs i), sd_cons sa sb⟩
theorem ve : BAd X K W [] vNil := ⟨_, fun i => pa_nil, sg_nil⟩
theorem ya (ha : BE X K W e fe) (hr : BAd X K W es gd) (hs : ∀ i, starEach (e :: es) (X i).env = (false, eval e (X i).env) :: starEach es (X i).env := by intro _; rfl) : BAd X K W (e :: es) (jb fe gd) := by
 obtain ⟨ta, pa, sa⟩ := ha
 obtain ⟨tb, pb, sb⟩ := hr
 exact ⟨_, fun i => pa_cons (pa i) (pb i) (hs i), q7 sa sb⟩
theorem xb : BAa X K W [] uNil := ⟨_, fun i => pa_nil, su_nil⟩
theorem aa_d (ha : BE X K W e fe) (hr : BAa X K W es ga) (hs : ∀ i, starEach (e :: es) (X i).env = (false, eval e (X i).env) :: starEach es (X i).env := by intro _; rfl) : BAa X K W (e :: es) (uD fe ga) := by
 obtain ⟨ta, pa, sa⟩ := ha
 obtain ⟨tb, pb, sb⟩ := hr
 exact ⟨_, fun i => pa_cons (pa i) (pb i) (hs i), su_d sa sb⟩
theorem aa_m (B : CtxOk X P w K mg base k W N sc) (n : Nat) (hr : BAa X K W es ga) (hN : N[n]? = some x := by rfl) (hv : Vis sc x := by first | exact Or.inl rfl | exact Or.inr (Or.inl rfl) | exact Or.inr (Or.inr rfl)) (hd : (x == ("__debug__" : Str)) = false := by decide)
  (hcd : (x == ("__classdict__" : Str)) = false := by decide) (hs : ∀ i, starEach (.Name x pos :: es) (X i).env = (false, eval (.Name x pos) (X i).env) :: starEach es (X i).env := by intro _; rfl) : BAa X K W (.Name x pos :: es) (uM n ga) := by
 obtain ⟨tb, pb, sb⟩ := hr
 exact ⟨_, fun i => pa_cons (pe_var (B.at_ hN i) (B.vis hv i) hd hcd) (pb i) (hs i), su_m sb⟩
theorem yae {x1} (hs : BAd X K W es gd) : BE X K W (.Tuple es x1 pos) (fTup gd) := by
 obtain ⟨ta, pa, sa⟩ := hs
 exact ⟨_, fun i => pe_tup (pa i), sd_tup sa⟩
theorem xp (hs : BAd X K W es gd) : BE X K W (.List es pos) (fLst gd) := by
 obtain ⟨ta, pa, sa⟩ := hs
 exact ⟨_, fun i => pe_lst (pa i), sd_lst sa⟩
variable {lo hi : Option Expr} {zl zh : PL.P (Option Int)}
theorem vo (B : CtxOk X P w K mg base k W N sc) (ha : BE X K W a fa) (hb : BE X K W b fb) (hs : PlainIx b := by exact fun _ _ => rfl) : BE X K W (.Subscript a b pos) (fOp ixD fa fb) := by
 obtain ⟨ta, pa, sa⟩ := ha
 obtain ⟨tb, pb, sb⟩ := hb
 exact ⟨_, fun i => pe_ix (by have := @ix_seq (X i); rw [B.pK i] at this; exact this) (pa i) (pb i) hs, sd_op ok_ix sa sb⟩
theorem wbo : BO X K W none zNo := ⟨_, fun i => po_none, sz_no⟩
theorem ybo (ha : BE X K W a fa) : BO X K W (some a) (zAt fa) := by
 obtain ⟨ta, pa, sa⟩ := ha
 exact ⟨_, fun i => po_some (pa i), sz_at sa⟩
theorem be_sl (B : CtxOk X P w K mg base k W N sc) (ha : BE X K W a fa) (hl : BO X K W lo zl) (hh : BO X K W hi zh) : BE X K W (.Subscript a (.Slice lo hi none p2) pos) (fSl fa zl zh) := by
 obtain ⟨ta, pa, sa⟩ := ha
 obtain ⟨tl, pl, sl⟩ := hl
 obtain ⟨tu, pu, su⟩ := hh
 exact ⟨_, fun i => pe_slice (by have := @sl_X (X i); rw [B.pK i] at this; exact this) (pa i) (pl i) (pu i), sd_sl sa sl su⟩
end
end PL
namespace PL
open PySem L2
section
variable {ι : Type} {X : ι → Cx} {P : Program} {w : World} {K : PySem.W.Frag} {mg : Str → Option Value} {base : Heap} {k : Nat} {W : WX} {N : List Str} {sc : Scope}
variable {a b c e o : Expr} {es : List Expr} {pos p p2 apos tpos : Pos} {x : Str} {fa fb fc fe fo : PL.P Rv} {g h : PL.P Bool} {fr : PL.P (List Rv)} {gd : PL.P (List D)} {ga : PL.P (List Arg)}
inductive CFn (X : ι → Cx) (K : PySem.W.Frag) (mg : Str → Option Value) (x : Str) : (List D → Option Rv) → Prop where
 | fn (id : String) (r : List V → Hp → VK → Prop) (f : List D → Option Rv) (hm : mg x = none) (hv : bootBuiltins x = some (.builtin id)) (hn : x ≠ "__name__") (hd : (x == ("__debug__" : Str)) = false) (ho : ∀ i, CallR (X i) (.builtin id) r) (hr : RCOk K r f) : CFn X K mg x f
 | ty (T : String) (r : List V → Hp → VK → Prop) (f : List D → Option Rv) (hm : mg x = none) (hv : bootBuiltins x = some (.type T)) (hn : x ≠ "__name__") (hd : (x == ("__debug__" : Str)) = false) (ho : ∀ i, CallR (X i) (.type T) r) (hr : RCOk K r f) : CFn X K mg x f
theorem b_len (B : CtxOk X P w K mg base k W N sc) (hm : mg "len" = none) : CFn X K mg "len" lenD := .fn "len" _ _ hm (by decide +kernel) (by decide) (by decide) (fun i => by have := @call_len (X i); rw [B.pK i] at this; exact this) ok_len
theorem b_max (B : CtxOk X P w K mg base k W N sc) (hm : mg "max" = none) : CFn X K mg "max" maxD := .fn "max" _ _ hm (by decide +kernel) (by decide) (by decide) (fun i => call_max2 (B.calm i)) ok_max
theorem b_tuple (B : CtxOk X P w K mg base k W N sc) (hm : mg "tuple" = none) : CFn X K mg "tuple" qay := .ty "tuple" _ _ hm (by decide +kernel) (by decide) (by decide) (fun i => by have := @call_tuple_of (X i); rw [B.pK i] at this; exact this) ok_tuple
theorem b_str (B : CtxOk X P w K mg base k W N sc) (hm : mg "str" = none) : CFn X K mg "str" strD := .ty "str" _ _ hm (by decide +kernel) (by decide) (by decide) (fun i => call_str_int) ok_str
theorem b_int (B : CtxOk X P w K mg base k W N sc) (hm : mg "int" = none) : CFn X K mg "int" intD := .ty "int" _ _ hm (by decide +kernel) (by decide) (by decide) (fun i => call_intX) ok_int
theorem b_all (B : CtxOk X P w K mg base k W N sc) (hm : mg "all" = none) : CFn X K mg "all" allD := .fn "all" _ _ hm (by decide +kernel) (by decide) (by decide) (fun i => by have := @cr_all (X i) (B.calm i); rw [B.pK i] at this; exact this) ok_all
theorem b_sum (B : CtxOk X P w K mg base k W N sc) (hm : mg "sum" = none) : CFn X K mg "sum" sumD := .fn "sum" _ _ hm (by decide +kernel) (by decide) (by decide) (fun i => by have := @cr_sum (X i) (B.calm i); rw [B.pK i] at this; exact this) ok_sum
theorem ybd {cs : List Addr} (hcs : ∀ c, cs.contains c = true → IsiCls K c) (B : CtxOk X P w K mg base k W N sc) (hm : mg "isinstance" = none) : CFn X K mg "isinstance" (isiD K cs) := .fn "isinstance" _ _ hm (by decide +kernel) (by decide) (by decide) (fun i => by have := @call_isY (X i); rw [B.pK i] at this; exact this) (ok_isi hcs)
theorem zj {f : List D → Option Rv} (B : CtxOk X P w K mg base k W N sc) (hc : CFn X K mg x f) (ha : BAv X K W (e :: es) fr) (hg : sc.names.lookup x = some .globalImplicit := by rfl)
  (he : ∀ i, starEach (e :: es) (X i).env = (false, eval e (X i).env) :: starEach es (X i).env := by intro _; rfl) (hpl : ∀ i, (backTo pos (starEach es (X i).env)).any (·.1) = false := by intro _; rfl) : BE X K W (.Call (.Name x p) (e :: es) [] pos) (fCB f fr) := by
 obtain ⟨ta, pa, sa⟩ := ha
 cases hc with
 | fn id r _ hm hv hn hd ho hr => exact ⟨_, fun i => pe_callB (ho i) (B.gl hg i) (by rw [B.pm i]; exact hm) hv (pa i) hn hd (he i) (hpl i), sd_cb hr sa⟩
 | ty T r _ hm hv hn hd ho hr => exact ⟨_, fun i => pe_callTy (ho i) (B.gl hg i) (by rw [B.pm i]; exact hm) hv (pa i) hn hd (he i) (hpl i), sd_cb hr sa⟩
inductive CM1 (X : ι → Cx) (K : PySem.W.Frag) (name : Str) : (Str → D → Option Rv) → Prop where
 | mk (id : String) (r : V → List V → Hp → VK → Prop) (f : Str → D → Option Rv) (slot : Slot "str" name id) (ty : typeOf (.builtin id) = pure (.type "method_descriptor")) (ho : ∀ i, MtR (X i) id r) (hr : RM1 K r f) : CM1 X K name f
theorem m_join (B : CtxOk X P w K mg base k W N sc) : CM1 X K "join" joinD := .mk _ _ _ F.slot_str_join F.type_str_join (fun i => by have := @mt_join (X i); rw [B.pK i] at this; exact this) ok_join
theorem m_strip (B : CtxOk X P w K mg base k W N sc) : CM1 X K "strip" zbf := .mk _ _ _ F.slot_str_strip F.type_str_strip (fun i => mt_stripChars) ok_strip
theorem be_m1 {name : Str} {f : Str → D → Option Rv} (hc : CM1 X K name f) (ho : BE X K W o fo) (he : BE X K W e fe) (hs : ∀ i, starEach [e] (X i).env = [(false, eval e (X i).env)] := by intro _; rfl)
  (hbase : ∀ i, attributeBase o name (X i).env (eval o (X i).env) = eval o (X i).env := by intro _; rfl) (hline : (apos.endLine == pos.line) = true := by rfl) : BE X K W (.Call (.Attribute o name apos) [e] [] pos) (fM1 f fo fe) := by
 obtain ⟨to, po, so⟩ := ho
 obtain ⟨te, pe, se⟩ := he
 obtain ⟨id, r, f, slot, ty, hm, hr⟩ := hc
 exact ⟨_, fun i => pe_m1 slot ty (hm i) (po i) (pe i) (hs i) (hbase i) hline, sd_m1 hr so se⟩
theorem vav (B : CtxOk X P w K mg base k W N sc) (n : Nat) (he : BE X K W e fe) (hN : N[n]? = some x := by rfl) (hv : Vis sc x := by first | exact Or.inl rfl | exact Or.inr (Or.inl rfl) | exact Or.inr (Or.inr rfl))
  (hd : (x == ("__debug__" : Str)) = false := by decide) (hcd : (x == ("__classdict__" : Str)) = false := by decide)
  (hbase : ∀ i, attributeBase (.Name x p) "append" (X i).env (eval (.Name x p) (X i).env) = eval (.Name x p) (X i).env := by intro _; rfl)
  (hfew : ∀ i, ((backTo pos (starEach [e] (X i).env)).all (fun x => !x.1) && (backToKw pos (keywordEach [] (X i).env)).all (fun x => x.1.isSome)
   && decide (([e] : List Expr).length + ([] : List Keyword).length + (if ([] : List Keyword).isEmpty then 0 else 1) < 30)) = true := by intro _; rfl)
  (hline : (apos.endLine == pos.line) = true := by rfl) (hs : ∀ i, starEach [e] (X i).env = (false, eval e (X i).env) :: starEach [] (X i).env := by intro _; rfl) (hplain : ∀ i, (backTo pos (starEach [] (X i).env)).any (·.1) = false := by intro _; rfl) :
  BE X K W (.Call (.Attribute (.Name x p) "append" apos) [e] [] pos) (x7 n fe) := by
 obtain ⟨te, pe, se⟩ := he
 exact ⟨_, fun i => by
  have := @pe_bm (X i) (.Name x p) e [] _ _ "append" apos pos "list" _ _ PySem.F.plainAttrs_list PySem.F.slot_list_append PySem.F.type_list_append mt_append (pe_var (B.at_ hN i) (B.vis hv i) hd hcd) (pa_cons (pe i) pa_nil (hs i)) (hbase i) (hfew i) hline (hs i) (hplain i)
  rw [B.pK i] at this
  exact this, sd_append se⟩
theorem be_extend (B : CtxOk X P w K mg base k W N sc) (n : Nat) (he : BE X K W e fe) (hN : N[n]? = some x := by rfl) (hv : Vis sc x := by first | exact Or.inl rfl | exact Or.inr (Or.inl rfl) | exact Or.inr (Or.inr rfl))
  (hd : (x == ("__debug__" : Str)) = false := by decide) (hcd : (x == ("__classdict__" : Str)) = false := by decide)
  (hbase : ∀ i, attributeBase (.Name x p) "extend" (X i).env (eval (.Name x p) (X i).env) = eval (.Name x p) (X i).env := by intro _; rfl)
  (hfew : ∀ i, ((backTo pos (starEach [e] (X i).env)).all (fun x => !x.1) && (backToKw pos (keywordEach [] (X i).env)).all (fun x => x.1.isSome)
   && decide (([e] : List Expr).length + ([] : List Keyword).length + (if ([] : List Keyword).isEmpty then 0 else 1) < 30)) = true := by intro _; rfl)
  (hline : (apos.endLine == pos.line) = true := by rfl) (hs : ∀ i, starEach [e] (X i).env = (false, eval e (X i).env) :: starEach [] (X i).env := by intro _; rfl) (hplain : ∀ i, (backTo pos (starEach [] (X i).env)).any (·.1) = false := by intro _; rfl) :
  BE X K W (.Call (.Attribute (.Name x p) "extend" apos) [e] [] pos) (qah n fe) := by
 obtain ⟨te, pe, se⟩ := he
 exact ⟨_, fun i => by
  have := @pe_bm (X i) (.Name x p) e [] _ _ "extend" apos pos "list" _ _ PySem.F.plainAttrs_list PySem.F.slot_list_extend PySem.F.type_list_extend mt_extend (pe_var (B.at_ hN i) (B.vis hv i) hd hcd) (pa_cons (pe i) pa_nil (hs i)) (hbase i) (hfew i) hline (hs i) (hplain i)
  rw [B.pK i] at this
  exact this, sd_extend se⟩
structure xn (P : Program) (w : World) (K : PySem.W.Frag) (mg : Str → Option Value) (base : Heap) (k : Nat) (x : Str) (n : Nat) (F : PL.P Rv) : Prop where
 ex : ∃ (f : Addr) (fd : FuncData) (ps : List Str), FnOk P w K mg base (L2.CX P w) k f fd ps (spF K n F) ∧ mg x = some (.ref f) ∧ PySem.W.keepIn K (.ref f) = true ∧ Binds K fd ps []
 rv : ∀ cs r cs', F cs = some (.ok r cs') → rvD r = true
theorem pe_callE {X : Cx} {f : Addr} {fd : FuncData} {ps : List Str} {sp : Sp} {t : TA} (h1 : X.prog = P) (h2 : X.w = w) (h3 : X.K = K) (h4 : X.mg = mg) (h5 : X.base = base) (tk : Takes X W) (F : FnOk P w K mg base (L2.CX P w) k f fd ps sp) (hr : Room k X.A) (hg : Gl X x) (hm : mg x = some (.ref f))
  (hk : PySem.W.keepIn K (.ref f) = true) (hb : Binds K fd ps []) (ha : PA X (e :: es) t) (hdb : (x == ("__debug__" : Str)) = false) (he : starEach (e :: es) X.env = (false, eval e X.env) :: starEach es X.env) (hpl : (backTo pos (starEach es X.env)).any (·.1) = false) :
  PE X (.Call (.Name x p) (e :: es) [] pos) (tCallS sp (WE W) t) := by
 subst h1 h2 h3 h4 h5
 exact pe_callS F hr hg hm hk hb (fun σ => passAt tk σ) ha hdb he hpl
theorem wa {n : Nat} {F : PL.P Rv} (B : CtxOk X P w K mg base k W N sc) (hF : xn P w K mg base k x n F) (ha : BAa X K W (e :: es) ga) (hg : sc.names.lookup x = some .globalImplicit := by rfl) (hdb : (x == ("__debug__" : Str)) = false := by decide)
  (he : ∀ i, starEach (e :: es) (X i).env = (false, eval e (X i).env) :: starEach es (X i).env := by intro _; rfl) (hpl : ∀ i, (backTo pos (starEach es (X i).env)).any (·.1) = false := by intro _; rfl) : BE X K W (.Call (.Name x p) (e :: es) [] pos) (zc n F ga) := by
 obtain ⟨ta, pa, sa⟩ := ha
 obtain ⟨f, fd, ps, h1, h2, h3, h4⟩ := hF.ex
 exact ⟨_, fun i => pe_callE (B.pP i) (B.pw i) (B.pK i) (B.pm i) (B.pb i) (B.tk i) h1 (B.room i) (B.gl hg i) h2 h3 h4 (pa i) hdb (he i) (hpl i), sd_call hF.rv sa⟩
variable {tg : Expr} {fi : PL.P (List D)} {js ks : List Nat} {at_ : Tgt} {ats : List D → En → Option En} {tgs : List Expr}
theorem bi_X (B : CtxOk X P w K mg base k W N sc) (ha : BE X K W a fa) : BI X K W tg a (qr fa) := by
 obtain ⟨ta, pa, sa⟩ := ha
 exact ⟨_, fun i => by have := @pi_X (X i) tg a ta (pa i); rw [B.pK i] at this; exact this, sd_iter sa⟩
theorem xav (B : CtxOk X P w K mg base k W N sc) (hm : mg "range" = none) (ha : BAv X K W [a] fr) (hg : sc.names.lookup ("range" : Str) = some .globalImplicit := by rfl) (hs : ∀ i, starEach [a] (X i).env = [(false, eval a (X i).env)] := by intro _; rfl) : BI X K W tg (.Call (.Name "range" p) [a] [] pos) (qbc fr) := by
 obtain ⟨ta, pa, sa⟩ := ha
 exact ⟨_, fun i => pi_range1 (B.gl hg i) (by rw [B.pm i]; exact hm) (pa i) (hs i), sd_rng1 sa⟩
theorem bi_rng2 (B : CtxOk X P w K mg base k W N sc) (hm : mg "range" = none) (ha : BAv X K W [a, b] fr) (hg : sc.names.lookup ("range" : Str) = some .globalImplicit := by rfl) (hs : ∀ i, starEach [a, b] (X i).env = [(false, eval a (X i).env), (false, eval b (X i).env)] := by intro _; rfl) (hs2 : ∀ i, starEach [b] (X i).env = [(false, eval b (X i).env)] := by intro _; rfl) : BI X K W tg (.Call (.Name "range" p) [a, b] [] pos) (fRng2 fr) := by
 obtain ⟨ta, pa, sa⟩ := ha
 exact ⟨_, fun i => pi_range2 (B.gl hg i) (by rw [B.pm i]; exact hm) (pa i) (hs i) (hs2 i), sd_rng2 sa⟩
theorem bi_zip {elts : List Expr} {kk : Nat} (B : CtxOk X P w K mg base k W N sc) (hm : mg "zip" = none) (ha : BAd X K W [a, b] gd) (hg : sc.names.lookup ("zip" : Str) = some .globalImplicit := by rfl)
  (hs : ∀ i, starEach [a, b] (X i).env = (false, eval a (X i).env) :: starEach [b] (X i).env := by intro _; rfl) (hpl : ∀ i, (backTo pos (starEach [b] (X i).env)).any (·.1) = false := by intro _; rfl) : BI X K W (.Tuple elts kk tpos) (.Call (.Name "zip" p) [a, b] [] pos) (fZip gd) := by
 obtain ⟨ta, pa, sa⟩ := ha
 exact ⟨_, fun i => by have := @RZ.pi_zipA (X i) a b ta p pos tpos elts kk (B.gl hg i) (by rw [B.pm i]; exact hm) (pa i) (hs i) (hpl i); rw [B.pK i] at this; exact this, sd_zip sa⟩
theorem xc (B : CtxOk X P w K mg base k W N sc) (n : Nat) (hi : N[n]? = some x := by rfl) (hx : Loc sc x := by first | exact .inl rfl | exact .inr rfl) (hf : ∀ i, (X i).fn x = true ∨ (X i).env.scope.names.lookup x = some .local := by intro _; first | exact .inl rfl | exact .inr rfl) : BG X K [n] (.Name x pos) (aN n) :=
 ⟨_, fun i => pg_name (B.nd i) (B.at_ hi i) (B.lo hx i) (hf i), sg_name⟩
theorem zbd : BGs X K [] [] aNil := ⟨_, fun i => pgs_nil, sgs_nil⟩
end
end PL
namespace PL
open PySem L2
section
variable {ι : Type} {X : ι → Cx} {P : Program} {w : World} {K : PySem.W.Frag} {mg : Str → Option Value} {base : Heap} {k : Nat} {W : WX} {N : List Str} {sc : Scope}
variable {a b c e o : Expr} {es : List Expr} {pos p p2 apos tpos : Pos} {x : Str} {fa fb fc fe fo : PL.P Rv} {g h : PL.P Bool} {fr : PL.P (List Rv)} {gd : PL.P (List D)} {ga : PL.P (List Arg)}
variable {tg : Expr} {fi : PL.P (List D)} {js ks fx : List Nat} {at_ : Tgt} {ats : List D → En → Option En} {tgs : List Expr}
theorem yn (h1 : BG X K js e at_) (h2 : BGs X K ks es ats) (hs : ∀ i, (assignEach (e :: es) (X i).env).map (·.2) = assign e (X i).env :: (assignEach es (X i).env).map (·.2) := by intro _; rfl) : BGs X K (js ++ ks) (e :: es) (jai at_ ats) := by
 obtain ⟨ta, pa, sa⟩ := h1
 obtain ⟨tb, pb, sb⟩ := h2
 exact ⟨_, fun i => pgs_cons (pa i) (pb i) (hs i), sgs_cons sa sb⟩
theorem bg_tup {kk : Nat} (B : CtxOk X P w K mg base k W N sc) (n : Nat) (hs : BGs X K js es ats) (hn : ∀ i, (assignEach es (X i).env).length = n := by intro _; rfl) (hst : ∀ i, (assignEach es (X i).env).findIdx? (·.1) = none := by intro _; rfl) : BG X K js (.Tuple es kk pos) (aT n ats) := by
 obtain ⟨ta, pa, sa⟩ := hs
 exact ⟨_, fun i => by have := @pg_tup (X i) pos es kk ta n (B.calm i) (pa i) (hn i) (hst i); rw [B.pK i] at this; exact this, sg_tup sa⟩
abbrev BlkIx (ι : Type) := ι × Shared × Hp × Addr × List (Str × Addr) × List Addr
abbrev blkX (X : ι → Cx) (scope : Scope) : BlkIx ι → Cx := fun j => (X j.1).blk j.2.1 j.2.2.1 scope (compEnvC scope j.2.2.2.2.1 j.2.2.2.1 (X j.1).env) j.2.2.2.2.2
theorem CtxOk.blkOk (B : CtxOk X P w K mg base k W N sc) {scope : Scope} {own : List (Str × Nat)} (h : BlkOk N sc scope own) (i : ι) : BlkOk (X i).N (X i).env.scope scope own := by rw [B.nN i, B.ns i]; exact h
def W0 : WX := fun _ _ _ _ => False
def relab (scope sc : Scope) : Scope := relabel scope { scope := sc, locals := 0, globals := 0, cells := [] }
theorem CtxOk.blk (B : CtxOk X P w K mg base k W N sc) (scope : Scope) : CtxOk (blkX X scope) P w K mg base k W0 N (relab scope sc) :=
 ⟨fun j => B.pP j.1, fun j => B.pw j.1, fun j => B.pK j.1, fun j => B.pm j.1, fun j => B.pb j.1, fun j => B.room j.1, fun j => takes0, fun j => B.calm j.1, fun j => PassesOwn.never, fun j => B.nN j.1, fun j => by obtain ⟨i, s, H, C, cl, fp⟩ := j; rw [← B.ns i]; rfl, B.nd'⟩
theorem km : BTs X K W [] fYes := ⟨_, fun i => pts_nil, fun σ C H ρ e => At.ret (R := BRel H) (v := true) e rfl⟩
theorem bts_one (ha : BT X K W a g) : BTs X K W [a] g := by
 obtain ⟨ta, pa, sa⟩ := ha
 exact ⟨_, fun i => pts_one (pa i), sa⟩
variable {iter elt : Expr} {ifs : List Expr} {scope : Scope} {own : List (Str × Nat)}
theorem kbd (B : CtxOk X P w K mg base k W N sc) (own : List (Str × Nat)) (hi : BI X K W tg iter fi) (hg : BG (blkX X scope) K js tg at_) (ht : BTs (blkX X scope) K W0 ifs g) (he : BE (blkX X scope) K W0 elt fe)
  (ok : BlkOk N sc scope own := by exact blkOk_by (by decide +kernel)) (hj : ∀ j ∈ js, j ∈ own.map (·.2) := by decide) (hs : ∀ i, ∀ x, foldedSetIterable iter (X i).env x = pure x := by intro _ _; rfl) :
  BE X K W (.ListComp elt [⟨tg, iter, ifs, 0⟩] scope pos) (ko (own.map (·.2)) fi at_ g fe) := by
 obtain ⟨ti, pi, si⟩ := hi
 obtain ⟨tG, pG, sG⟩ := hg
 obtain ⟨tt, pt, st⟩ := ht
 obtain ⟨te, pe, se⟩ := he
 exact ⟨_, fun i => pe_lc (B.calm i) (B.nd i) (pi i) (B.blkOk ok i) (fun s H C cl fp => pG (i, s, H, C, cl, fp)) (fun s H C cl fp => pt (i, s, H, C, cl, fp)) (fun s H C cl fp => pe (i, s, H, C, cl, fp)) (hs i), sd_comp hj si sG st se⟩
variable {st : Stmt} {sts th el : List Stmt} {G1 G2 G3 : PL.P Fl}
theorem ye : BSs X K W fx [] wm := ⟨_, fun i => pss_nil, ss_next⟩
theorem za (h1 : BS X K W fx st G1) (h2 : BSs X K W fx sts G2) : BSs X K W fx (st :: sts) (sSeq G1 G2) := by
 obtain ⟨ta, pa, sa⟩ := h1
 obtain ⟨tb, pb, sb⟩ := h2
 exact ⟨_, fun i => pss_cons (pa i) (pb i), ss_seq sa sb⟩
theorem xa (h1 : BS X K W fx st G1) : BSs X K W fx [st] G1 := by
 obtain ⟨ta, pa, sa⟩ := h1
 exact ⟨_, fun i => pss_one (pa i), sa⟩
theorem zx (he : BE X K W e fe) (hs : ∀ i, swapsWith e none pos.line (X i).env = pure false := by intro _; rfl) : BS X K W fx (.Expr e pos) (jak fe) := by
 obtain ⟨ta, pa, sa⟩ := he
 exact ⟨_, fun i => ps_expr (pa i) (hs i), ss_drop sa⟩
theorem vc (he : BE X K W e fe) : BS X K W fx (.Return (some e) pos) (sRet fe) := by
 obtain ⟨ta, pa, sa⟩ := he
 exact ⟨_, fun i => ps_ret (pa i), ss_ret sa⟩
theorem jr (hc : BT X K W c g) (h1 : BSs X K W fx th G1) (h2 : BSs X K W fx el G2) : BS X K W fx (.If c th el pos) (sIf g G1 G2) := by
 obtain ⟨tc, pc, sc⟩ := hc
 obtain ⟨ta, pa, sa⟩ := h1
 obtain ⟨tb, pb, sb⟩ := h2
 exact ⟨_, fun i => ps_if (pc i) (pa i) (pb i), ss_if sc sa sb⟩
theorem yf (B : CtxOk X P w K mg base k W N sc) (n : Nat) (he : BE X K W e fe) (hi : N[n]? = some x := by rfl) (hx : Loc sc x := by first | exact .inl rfl | exact .inr rfl) (hs : ∀ i, swapsWith e (some (.Name x p)) pos.line (X i).env = pure false := by intro _; rfl)
  (hf : ∀ i, (X i).fn x = true ∨ (X i).env.scope.names.lookup x = some .local := by intro _; first | exact .inl rfl | exact .inr rfl) (hn : n ∉ fx := by decide) : BS X K W fx (.Assign [.Name x p] e pos) (sSet n fe) := by
 obtain ⟨ta, pa, sa⟩ := he
 exact ⟨_, fun i => ps_set (B.nd i) (B.at_ hi i) (B.lo hx i) (pa i) (hs i) (hf i), ss_set hn sa⟩
theorem yah (B : CtxOk X P w K mg base k W N sc) (n : Nat) (he : BE X K W e fe) (hi : N[n]? = some x := by rfl) (hx : Loc sc x := by first | exact .inl rfl | exact .inr rfl) (hs : ∀ i, swapsWith e (some (.Name x p)) pos.line (X i).env = pure false := by intro _; rfl)
  (hf : ∀ i, (X i).fn x = true ∨ (X i).env.scope.names.lookup x = some .local := by intro _; first | exact .inl rfl | exact .inr rfl) (hn : n ∉ fx := by decide) : BS X K W fx (.Assign [.Name x p] e pos) (yaa n fe) := by
 obtain ⟨ta, pa, sa⟩ := he
 exact ⟨_, fun i => ps_set (B.nd i) (B.at_ hi i) (B.lo hx i) (pa i) (hs i) (hf i), ss_setM hn sa⟩
theorem ps_lcE {spos : Pos} (B : CtxOk X P w K mg base k W N sc) (own : List (Str × Nat)) (hi : BI X K W tg iter fi) (hg : BG (blkX X scope) K js tg at_) (ht : BTs (blkX X scope) K W0 ifs g) (he : BE (blkX X scope) K W0 elt fe)
  (ok : BlkOk N sc scope own) (hj : ∀ j ∈ js, j ∈ own.map (·.2)) (hs : ∀ i, ∀ x, foldedSetIterable iter (X i).env x = pure x)
  {n : Nat} (hN : N[n]? = some x) (hx : sc.names.lookup x = some .local) (hsw : ∀ i, swapsWith (.ListComp elt [⟨tg, iter, ifs, 0⟩] scope pos) (some (.Name x p)) spos.line (X i).env = pure true) :
  ∃ t, (∀ i, PS (X i) (.Assign [.Name x p] (.ListComp elt [⟨tg, iter, ifs, 0⟩] scope pos) spos) (tAsg t (gName n))) ∧ Sd K W (VRel K) t (ko (own.map (·.2)) fi at_ g fe) := by
 obtain ⟨ti, pi, si⟩ := hi
 obtain ⟨tG, pG, sG⟩ := hg
 obtain ⟨tt, pt, st⟩ := ht
 obtain ⟨te, pe, se⟩ := he
 exact ⟨_, fun i => ps_setLc (B.calm i) (B.nd i) (B.at_ hN i) (B.lcl hx i) (hsw i) (pi i) (B.blkOk ok i) (fun s H C cl fp => pG (i, s, H, C, cl, fp)) (fun s H C cl fp => pt (i, s, H, C, cl, fp)) (fun s H C cl fp => pe (i, s, H, C, cl, fp)) (hs i), sd_comp hj si sG st se⟩
theorem bs_lc {spos : Pos} (B : CtxOk X P w K mg base k W N sc) (n : Nat) (own : List (Str × Nat)) (hi : BI X K W tg iter fi) (hg : BG (blkX X scope) K js tg at_) (ht : BTs (blkX X scope) K W0 ifs g) (he : BE (blkX X scope) K W0 elt fe)
  (ok : BlkOk N sc scope own := by exact blkOk_by (by decide +kernel)) (hj : ∀ j ∈ js, j ∈ own.map (·.2) := by decide) (hs : ∀ i, ∀ x, foldedSetIterable iter (X i).env x = pure x := by intro _ _; rfl)
  (hN : N[n]? = some x := by rfl) (hx : sc.names.lookup x = some .local := by rfl) (hsw : ∀ i, swapsWith (.ListComp elt [⟨tg, iter, ifs, 0⟩] scope pos) (some (.Name x p)) spos.line (X i).env = pure true := by intro _; exact sw_true rfl rfl rfl (by decide +kernel)) (hn : n ∉ fx := by decide) :
  BS X K W fx (.Assign [.Name x p] (.ListComp elt [⟨tg, iter, ifs, 0⟩] scope pos) spos) (sSet n (ko (own.map (·.2)) fi at_ g fe)) := by
 obtain ⟨t, h1, h2⟩ := ps_lcE B own hi hg ht he ok hj hs hN hx hsw
 exact ⟨_, h1, ss_set hn h2⟩
theorem bs_lcM {spos : Pos} (B : CtxOk X P w K mg base k W N sc) (n : Nat) (own : List (Str × Nat)) (hi : BI X K W tg iter fi) (hg : BG (blkX X scope) K js tg at_) (ht : BTs (blkX X scope) K W0 ifs g) (he : BE (blkX X scope) K W0 elt fe)
  (ok : BlkOk N sc scope own := by exact blkOk_by (by decide +kernel)) (hj : ∀ j ∈ js, j ∈ own.map (·.2) := by decide) (hs : ∀ i, ∀ x, foldedSetIterable iter (X i).env x = pure x := by intro _ _; rfl)
  (hN : N[n]? = some x := by rfl) (hx : sc.names.lookup x = some .local := by rfl) (hsw : ∀ i, swapsWith (.ListComp elt [⟨tg, iter, ifs, 0⟩] scope pos) (some (.Name x p)) spos.line (X i).env = pure true := by intro _; exact sw_true rfl rfl rfl (by decide +kernel)) (hn : n ∉ fx := by decide) :
  BS X K W fx (.Assign [.Name x p] (.ListComp elt [⟨tg, iter, ifs, 0⟩] scope pos) spos) (yaa n (ko (own.map (·.2)) fi at_ g fe)) := by
 obtain ⟨t, h1, h2⟩ := ps_lcE B own hi hg ht he ok hj hs hN hx hsw
 exact ⟨_, h1, ss_setM hn h2⟩
def augAddD : D → D → Option Rv
 | .s (.int i), .s (.int j) => some (rvI (i + j))
 | .s (.str a), .s (.str b) => if a.length + b.length ≤ sizeLine then some (rvS (a ++ b)) else none
 | _, _ => none
theorem bs_incL {j j2 : Nat} {p3 p4 : Pos} (B : CtxOk X P w K mg base k W N sc) (n q : Nat) (z : Int) (hN : N[n]? = some x := by rfl) (hv : Vis sc x := by first | exact Or.inl rfl | exact Or.inr (Or.inl rfl) | exact Or.inr (Or.inr rfl)) (hd : (x == ("__debug__" : Str)) = false := by decide)
  (hcd : (x == ("__classdict__" : Str)) = false := by decide) (ha : ∀ ov iv new, augStore (.Constant (.int ((q : Nat) : Int)) j p3) ov iv new = (do holding [new, ov, iv] (setItem ov iv new); release [new, ov, iv] []; pure .next) := by intros; rfl) :
  BS X K W fx (.AugAssign (.Subscript (.Name x p) (.Constant (.int ((q : Nat) : Int)) j p3) p2) .Add (.Constant (.int z) j2 p4) pos) (sIncL n q z) :=
 ⟨_, fun i => by
  have := @ps_augS (X i) pos (.Name x p) (.Constant (.int ((q : Nat) : Int)) j p3) (.Constant (.int z) j2 p4) _ _ _ _ _ _ .Add p2 (pe_var (B.at_ hN i) (B.vis hv i) hd hcd) pe_int pget_list pe_int iop_add set_list ha
  rw [B.pK i] at this
  exact this, ss_incL⟩
theorem z6 (B : CtxOk X P w K mg base k W N sc) (hi : BI X K W tg iter fi) (hg : BG X K js tg at_) (hb : BSs X K W fx sts G1) (hj : ∀ i ∈ fx, i ∉ js := by decide) (hs : ∀ i, ∀ x, foldedSetIterable iter (X i).env x = pure x := by intro _ _; rfl) : BS X K W fx (.For tg iter sts [] pos) (sFor fi at_ G1) := by
 obtain ⟨ti, pi, si⟩ := hi
 obtain ⟨tG, pG, sG⟩ := hg
 obtain ⟨tb, pb, sb⟩ := hb
 exact ⟨_, fun i => ps_for (B.pass i) (B.calm i) (pi i) (pG i) (pb i) (hs i), ss_for hj si sG sb⟩
end
def WB (E : XK) : WX := fun cls d _ H => E cls d H
section
variable {P : Program} {w : World} {K : PySem.W.Frag} {mg : Str → Option Value} {base : Heap} {k n : Nat} {x qual : Str} {st : Stmt} {f : Addr} {fd : FuncData} {N ps : List Str} {fx : List Nat} {body : PL.P Fl}
theorem xh (F : Fun K x qual st f fd) (hmg : mg x = some (.ref f)) (hb : Binds K fd ps []) (S : FnScope N ps (defScope st)) (hn : ps.length = n) (hN : n ≤ N.length)
  (hbody : ∀ (cdv : Value) (A : Around) (outer : List PySem.Env) (s : Shared) (H : Hp) (E : XK), CtxOk (fun _ : Unit => cxOf (L2.CX P w) P w K mg base N qual (defScope st) f cdv A outer s H E) P w K mg base k (WB E) N (defScope st) →
   BSs (fun _ : Unit => cxOf (L2.CX P w) P w K mg base N qual (defScope st) f cdv A outer s H E) K (WB E) fx (defBody st) body) : xn P w K mg base (k + 1) x n (runF fx N.length body) :=
 ⟨⟨f, fd, ps, fn_ok F S hn hN fun cdv A outer s H E hr => by
  obtain ⟨t, h1, h2⟩ := hbody cdv A outer s H E ⟨fun _ => rfl, fun _ => rfl, fun _ => rfl, fun _ => rfl, fun _ => rfl, fun _ => hr, fun _ => takes_of rfl rfl rfl rfl, fun _ => rfl, fun _ => passes_of rfl, fun _ => rfl, fun _ => rfl, S.nd⟩
  exact ⟨t, h1 (), h2⟩, hmg, F.kp, hb⟩, ka7⟩
end
end PL
namespace PL
open PySem L2
theorem wae {ι : Type} {X : ι → Cx} {P : Program} {w : World} {K : PySem.W.Frag} {mg : Str → Option Value} {base : Heap} {k : Nat} {W : WX} {N : List Str} {sc : Scope} {x : Str} {pos : Pos} {v : V} (B : CtxOk X P w K mg base k W N sc) (h : ∃ u, mg x = some u ∧ RelV v u)
  (hg : sc.names.lookup x = some .globalImplicit := by rfl) (hd : (x == ("__debug__" : Str)) = false := by decide) : BE X K W (.Name x pos) (fC (.s v)) := by
 obtain ⟨u, h1, h2⟩ := h
 exact be_glob B h1 h2 hg hd
end PL
namespace PL
open PySem L2
def wp {α : Type} (f : P α) (Q : α → En → Prop) (E : Exn → En → Prop) (ρ : En) : Prop := match f ρ with
 | none => False
 | some (.ok a r) => Q a r
 | some (.ex e r) => E e r
def wpO {α : Type} (o : Option α) (Q : α → Prop) : Prop := match o with
 | some a => Q a
 | none => False
section
variable {α β : Type} {Q : α → En → Prop} {Q' : β → En → Prop} {QR : Rv → En → Prop} {QB : Bool → En → Prop} {QF : Fl → En → Prop} {QD : D → En → Prop} {QDs : List D → En → Prop} {QRs : List Rv → En → Prop} {QA : List Arg → En → Prop} {QI : Option Int → En → Prop} {E : Exn → En → Prop} {ρ : En}
theorem kal {a : α} {Q : α → Prop} : wpO (some a) Q ↔ Q a := Iff.rfl
theorem yal {Q : α → Prop} : wpO none Q ↔ False := Iff.rfl
theorem vr {c : Prop} [Decidable c] {a : α} {Q : α → Prop} : wpO (if c then some a else none) Q ↔ c ∧ Q a := by
 by_cases h : c
 ·rw [if_pos h]; exact ⟨fun q => ⟨h, q⟩, fun q => q.2⟩
 ·rw [if_neg h]; exact ⟨fun q => q.elim, fun q => h q.1⟩
theorem qk {a : α} : wp (P.ret a) Q E ρ ↔ Q a ρ := Iff.rfl
theorem wp_bind {f : P α} {k : α → P β} : wp (f.bind k) Q' E ρ ↔ wp f (fun a r => wp (k a) Q' E r) E ρ := by
 unfold wp P.bind
 cases f ρ with
 | none => exact Iff.rfl
 | some o => cases o <;> exact Iff.rfl
theorem waj {o : Option α} : wp (P.of o) Q E ρ ↔ wpO o fun a => Q a ρ := by
 unfold wp P.of wpO
 cases o <;> exact Iff.rfl
theorem wp_if {b : Bool} {f g : P α} : wp (if b = true then f else g) Q E ρ ↔ if b = true then wp f Q E ρ else wp g Q E ρ := by cases b <;> exact Iff.rfl
theorem wp_mono {f : P α} {Q1 : α → En → Prop} {E1 : Exn → En → Prop} (h : wp f Q1 E1 ρ) (hq : ∀ a r, Q1 a r → Q a r) (he : ∀ e r, E1 e r → E e r) : wp f Q E ρ := by
 unfold wp at h ⊢
 cases q : f ρ with
 | none => rw [q] at h; exact h
 | some o =>
  rw [q] at h
  cases o with
  | ok a r => exact hq a r h
  | ex e r => exact he e r h
theorem wb {f : P α} {Q1 : α → En → Prop} (h : ∀ a r, Q1 a r ↔ Q a r) : wp f Q1 E ρ ↔ wp f Q E ρ := ⟨fun z => wp_mono z (fun a r => (h a r).mp) fun _ _ e => e, fun z => wp_mono z (fun a r => (h a r).mpr) fun _ _ e => e⟩
theorem xl {o : Option α} {Q1 Q2 : α → Prop} (h : ∀ a, Q1 a ↔ Q2 a) : wpO o Q1 ↔ wpO o Q2 := by
 cases o with
 | none => exact Iff.rfl
 | some a => exact h a
theorem wp_eq {f : P α} {a : α} {r : En} (h : f ρ = some (.ok a r)) (q : Q a r) : wp f Q E ρ := by
 unfold wp
 rw [h]
 exact q
theorem yax {f : P α} (h : wp f Q (fun _ _ => False) ρ) : ∃ a r, f ρ = some (.ok a r) ∧ Q a r := by
 unfold wp at h
 cases q : f ρ with
 | none => rw [q] at h; exact h.elim
 | some o =>
  rw [q] at h
  cases o with
  | ok a r => exact ⟨a, r, rfl, h⟩
  | ex e r => exact h.elim
theorem qar {r : Rv} {k : D → P Rv} : wp (pk1 r k) QR E ρ ↔ wpO (peek ρ r) fun d => wp (k d) QR E ρ := by
 unfold wp pk1 wpO
 cases peek ρ r <;> exact Iff.rfl
theorem wp_pks {rs : List Rv} {k : List D → P α} : wp (pks rs k) Q E ρ ↔ wpO (xq ρ rs) fun d => wp (k d) Q E ρ := by
 unfold wp pks wpO
 cases xq ρ rs <;> exact Iff.rfl
def atS (ρ : En) (i : Nat) (Q : Cell → Prop) : Prop := match ρ[i]? with
 | some c => Q c
 | none => False
def varQ (i : Nat) (QR : Rv → En → Prop) (ρ : En) : Cell → Prop
 | .no => False
 | .dat d => QR (.dat d) ρ
 | .own _ => QR (.bor i) ρ
theorem wp_var {i : Nat} : wp (fVar i) QR E ρ ↔ atS ρ i (varQ i QR ρ) := by
 unfold wp fVar atS
 cases ρ[i]? with
 | none => exact Iff.rfl
 | some c => cases c <;> exact Iff.rfl
theorem kaq {c : Cell} {r : En} {Q : Cell → Prop} : atS (c :: r) 0 Q ↔ Q c := Iff.rfl
theorem vaq {c : Cell} {r : En} {Q : Cell → Prop} {i : Nat} : atS (c :: r) (i + 1) Q ↔ atS r i Q := Iff.rfl
theorem qam {i : Nat} {d : D} : varQ i QR ρ (.dat d) ↔ QR (.dat d) ρ := Iff.rfl
theorem wal {i : Nat} {m : M} : varQ i QR ρ (.own m) ↔ QR (.bor i) ρ := Iff.rfl
theorem wp_c {d : D} : wp (fC d) QR E ρ ↔ QR (.dat d) ρ := Iff.rfl
theorem wp_op {op : D → D → Option Rv} {fa fb : P Rv} : wp (fOp op fa fb) QR E ρ ↔ wp fa (fun ra r1 => wp fb (fun rb r2 => wpO (peek r2 ra) fun da => wpO (peek r2 rb) fun db => wpO (op da db) fun v => QR v r2) E r1) E ρ := by
 unfold fOp
 simp only [wp_bind, qar, waj]
theorem wp_un {op : D → Option Rv} {fa : P Rv} : wp (fUn op fa) QR E ρ ↔ wp fa (fun ra r1 => wpO (peek r1 ra) fun da => wpO (op da) fun v => QR v r1) E ρ := by
 unfold fUn
 simp only [wp_bind, qar, waj]
def isB (d : D) (Q : Bool → Prop) : Prop := match d with
 | .s (.bl b) => Q b
 | _ => False
theorem isB_bl {b : Bool} {Q : Bool → Prop} : isB (.s (.bl b)) Q ↔ Q b := Iff.rfl
theorem wp_asB {r : Rv} : wp (asB r) QB E ρ ↔ wpO (peek ρ r) fun d => isB d fun b => QB b ρ := by
 unfold wp asB wpO isB
 cases peek ρ r with
 | none => exact Iff.rfl
 | some d =>
  cases d with
  | s x => cases x <;> exact Iff.rfl
  | _ => exact Iff.rfl
theorem waq {f : P Rv} : wp (yd f) QB E ρ ↔ wp f (fun r ρ1 => wpO (peek ρ1 r) fun d => isB d fun b => QB b ρ1) E ρ := by
 unfold yd
 simp only [wp_bind, wp_asB]
theorem wp_and {g h : P Bool} : wp (fAnd g h) QB E ρ ↔ wp g (fun b r => if b = true then wp h QB E r else QB false r) E ρ := by
 unfold fAnd
 simp only [wp_bind, wp_if, qk]
theorem wp_or {g h : P Bool} : wp (fOr g h) QB E ρ ↔ wp g (fun b r => if b = true then QB true r else wp h QB E r) E ρ := by
 unfold fOr
 simp only [wp_bind, wp_if, qk]
theorem wp_not {g : P Bool} : wp (fNot g) QB E ρ ↔ wp g (fun b r => QB (!b) r) E ρ := by
 unfold fNot
 simp only [wp_bind, qk]
theorem ka5 {f g : P Rv} : wp (v7 f g) QR E ρ ↔ wp f (fun r ρ1 => wpO (peek ρ1 r) fun d => isB d fun b => if b = true then wp g QR E ρ1 else QR (rvB false) ρ1) E ρ := by
 unfold v7
 simp only [wp_bind, wp_if, qk, waq]
theorem wp_ifE {g : P Bool} {fa fb : P Rv} : wp (fIf g fa fb) QR E ρ ↔ wp g (fun b r => if b = true then wp fa QR E r else wp fb QR E r) E ρ := by
 unfold fIf
 simp only [wp_bind, wp_if]
theorem xal {op op' : D → D → Option Rv} {fa fb fc : P Rv} : wp (vat op op' fa fb fc) QR E ρ ↔ wp fa (fun ra r1 => wp fb (fun rb r2 => wpO (peek r2 ra) fun da => wpO (peek r2 rb) fun db => wpO (op da db) fun z => wpO (peek r2 z) fun dz => isB dz fun k =>
  if k = true then wp fc (fun rc r3 => wpO (peek r3 rb) fun db => wpO (peek r3 rc) fun dc => wpO (op' db dc) fun v => QR v r3) E r2 else QR (rvB false) r2) E r1) E ρ := by
 unfold vat
 simp only [wp_bind, wp_if, qk, wp_asB, qar, waj]
theorem kam {d : D} : peek ρ (.dat d) = some d := rfl
theorem xam {ds : List D} : peek ρ (.new (.lst ds)) = some (.lst ds) := rfl
theorem vam {i : Nat} : peek ρ (.bor i) = (match ρ[i]? with | some c => cdat c | none => none) := rfl
theorem yap {d : D} : cdat (.dat d) = some d := rfl
theorem vap {ds : List D} : cdat (.own (.lst ds)) = some (.lst ds) := rfl
theorem wp_nil : wp fNil QRs E ρ ↔ QRs [] ρ := Iff.rfl
theorem ja5 {fa : P Rv} {fr : P (List Rv)} : wp (zd fa fr) QRs E ρ ↔ wp fa (fun ra r1 => wp fr (fun rs r2 => QRs (ra :: rs) r2) E r1) E ρ := by
 unfold zd
 simp only [wp_bind, qk]
theorem qab : xq ρ [] = some [] := rfl
theorem z9 {r : Rv} {rs : List Rv} {Q : List D → Prop} : wpO (xq ρ (r :: rs)) Q ↔ wpO (peek ρ r) fun d => wpO (xq ρ rs) fun ds => Q (d :: ds) := by
 unfold wpO
 simp only [xq]
 cases peek ρ r with
 | none => exact Iff.rfl
 | some d => cases xq ρ rs <;> exact Iff.rfl
def wpG (ρ : En) (r : Rv) (QD : D → En → Prop) : Prop := match grab ρ r with
 | some (d, ρ') => QD d ρ'
 | none => False
theorem wp_grab {fa : P Rv} : wp (yj fa) QD E ρ ↔ wp fa (fun r r1 => wpG r1 r QD) E ρ := by
 unfold yj
 rw [wp_bind]
 have h : ∀ r r1, wp (grab1 r) QD E r1 ↔ wpG r1 r QD := fun r r1 => by
  unfold wp grab1 wpG
  cases grab r1 r with
  | none => exact Iff.rfl
  | some z => exact Iff.rfl
 simp only [h]
theorem ya5 {d : D} : wpG ρ (.dat d) QD ↔ QD d ρ := Iff.rfl
theorem va5 {ds : List D} : wpG ρ (.new (.lst ds)) QD ↔ QD (.lst ds) ρ := Iff.rfl
def borQ (i : Nat) (QD : D → En → Prop) (ρ : En) : Cell → Prop
 | .no => False
 | .dat d => QD d ρ
 | .own (.lst ds) => QD (.lst ds) (ρ.set i (.dat (.lst ds)))
 | .own (.ob c fs) => QD (.obj c fs) (ρ.set i (.dat (.obj c fs)))
 | .own (.dk _) => False
 | .own (.dt _) => False
 | .own (.dn _ _ _) => False
theorem wa5 {i : Nat} : wpG ρ (.bor i) QD ↔ atS ρ i (borQ i QD ρ) := by
 unfold wpG atS
 simp only [grab]
 cases ρ[i]? with
 | none => exact Iff.rfl
 | some c =>
  cases c with
  | no => exact Iff.rfl
  | dat d => exact Iff.rfl
  | own m => cases m <;> exact Iff.rfl
theorem qaq {i : Nat} {d : D} : borQ i QD ρ (.dat d) ↔ QD d ρ := Iff.rfl
theorem wap {i : Nat} {ds : List D} : borQ i QD ρ (.own (.lst ds)) ↔ QD (.lst ds) (ρ.set i (.dat (.lst ds))) := Iff.rfl
theorem wa2 : wp vNil QDs E ρ ↔ QDs [] ρ := Iff.rfl
theorem kak {fa : P Rv} {fr : P (List D)} : wp (jb fa fr) QDs E ρ ↔ wp fa (fun ra r1 => wpG r1 ra fun d r2 => wp fr (fun ds r3 => QDs (d :: ds) r3) E r2) E ρ := by
 unfold jb
 simp only [wp_bind, qk, wp_grab]
theorem wp_tup {g : P (List D)} : wp (fTup g) QR E ρ ↔ wp g (fun ds r => ds.length ≤ sizeLine ∧ QR (.dat (.tup ds)) r) E ρ := by
 unfold fTup
 simp only [wp_bind, waj, vr]
theorem wp_lst {g : P (List D)} : wp (fLst g) QR E ρ ↔ wp g (fun ds r => ds.length ≤ sizeLine ∧ QR (.new (.lst ds)) r) E ρ := by
 unfold fLst
 simp only [wp_bind, waj, vr]
theorem wp_cb {op : List D → Option Rv} {fs : P (List Rv)} : wp (fCB op fs) QR E ρ ↔ wp fs (fun rs r => wpO (xq r rs) fun ds => wpO (op ds) fun v => QR v r) E ρ := by
 unfold fCB
 simp only [wp_bind, wp_pks, waj]
def isS (d : D) (Q : Str → Prop) : Prop := match d with
 | .s (.str b) => Q b
 | _ => False
theorem qbb {b : Str} {Q : Str → Prop} : isS (.s (.str b)) Q ↔ Q b := Iff.rfl
theorem wp_m1 {op : Str → D → Option Rv} {fo fe : P Rv} : wp (fM1 op fo fe) QR E ρ ↔ wp fo (fun ro r1 => wpO (peek r1 ro) fun d => isS d fun a => wp fe (fun re r2 => wpO (peek r2 re) fun x => wpO (op a x) fun v => QR v r2) E r1) E ρ := by
 unfold fM1
 simp only [wp_bind, qar]
 have h : ∀ (d : D) (r1 : En), wp (match d with
  | .s (.str a) => fe.bind fun re => pk1 re fun x => P.of (op a x)
  | _ => P.fail) QR E r1 ↔ isS d fun a => wp fe (fun re r2 => wpO (peek r2 re) fun x => wpO (op a x) fun v => QR v r2) E r1 := fun d r1 => by
  unfold isS
  cases d with
  | s x => cases x <;> first | (simp only [wp_bind, qar, waj]; done) | exact Iff.rfl
  | _ => exact Iff.rfl
 exact wb fun ro r1 => xl fun d => h d r1
def isZ (d : D) (Q : Int → Prop) : Prop := match d with
 | .s (.int i) => Q i
 | _ => False
theorem wba {b : Int} {Q : Int → Prop} : isZ (.s (.int b)) Q ↔ Q b := Iff.rfl
theorem wp_zno : wp zNo QI E ρ ↔ QI none ρ := Iff.rfl
theorem wp_zat {f : P Rv} : wp (zAt f) QI E ρ ↔ wp f (fun r r1 => wpO (peek r1 r) fun d => isZ d fun i => QI (some i) r1) E ρ := by
 unfold zAt
 rw [wp_bind]
 have h : ∀ r r1, wp (asI r) QI E r1 ↔ wpO (peek r1 r) fun d => isZ d fun i => QI (some i) r1 := fun r r1 => by
  unfold wp asI wpO isZ
  cases peek r1 r with
  | none => exact Iff.rfl
  | some d =>
   cases d with
   | s x => cases x <;> exact Iff.rfl
   | _ => exact Iff.rfl
 simp only [h]
theorem wp_sl {fo : P Rv} {lo hi : P (Option Int)} : wp (fSl fo lo hi) QR E ρ ↔ wp fo (fun ro r1 => wp lo (fun l r2 => wp hi (fun h r3 => wpO (peek r3 ro) fun d => wpO (slD d l h) fun v => QR v r3) E r2) E r1) E ρ := by
 unfold fSl
 simp only [wp_bind, qar, waj]
theorem wa3 : wp wm QF E ρ ↔ QF .next ρ := Iff.rfl
theorem wp_brk : wp sBrk QF E ρ ↔ QF .brk ρ := Iff.rfl
theorem qa5 : wp sCont QF E ρ ↔ QF .cont ρ := Iff.rfl
def onN (fl : Fl) (r : En) (N : En → Prop) (Q : Fl → En → Prop) : Prop := match fl with
 | .next => N r
 | f => Q f r
theorem qan {r : En} {N : En → Prop} {Q : Fl → En → Prop} : onN .next r N Q ↔ N r := Iff.rfl
theorem ja8 {v : Rv} {r : En} {N : En → Prop} {Q : Fl → En → Prop} : onN (.ret v) r N Q ↔ Q (.ret v) r := Iff.rfl
theorem za8 {r : En} {N : En → Prop} {Q : Fl → En → Prop} : onN .brk r N Q ↔ Q .brk r := Iff.rfl
theorem jan {r : En} {N : En → Prop} {Q : Fl → En → Prop} : onN .cont r N Q ↔ Q .cont r := Iff.rfl
theorem wp_seq {g h : P Fl} : wp (sSeq g h) QF E ρ ↔ wp g (fun fl r => onN fl r (wp h QF E) QF) E ρ := by
 unfold sSeq
 rw [wp_bind]
 have e : ∀ (fl : Fl) (r : En), wp (match fl with | .next => h | f => P.ret f) QF E r ↔ onN fl r (wp h QF E) QF := fun fl r => by cases fl <;> exact Iff.rfl
 exact wb e
theorem wp_sif {c : P Bool} {g h : P Fl} : wp (sIf c g h) QF E ρ ↔ wp c (fun b r => if b = true then wp g QF E r else wp h QF E r) E ρ := by
 unfold sIf
 simp only [wp_bind, wp_if]
theorem ja3 {f : P Rv} : wp (sRet f) QF E ρ ↔ wp f (fun v r => QF (.ret v) r) E ρ := by
 unfold sRet
 simp only [wp_bind, qk]
theorem vak : wp sRetN QF E ρ ↔ QF (.ret (.dat (.s .non))) ρ := Iff.rfl
theorem jar {f : P Rv} : wp (jak f) QF E ρ ↔ wp f (fun _ r => QF .next r) E ρ := by
 unfold jak
 simp only [wp_bind, qk]
theorem wp_set {i : Nat} {f : P Rv} : wp (sSet i f) QF E ρ ↔ wp f (fun v r => wpG r v fun d r2 => i < r2.length ∧ QF .next (r2.set i (.dat d))) E ρ := by
 unfold sSet
 simp only [wp_bind, wp_grab]
 have h : ∀ (d : D) (r : En), wp (putD i d) QF E r ↔ i < r.length ∧ QF .next (r.set i (.dat d)) := fun d r => by
  unfold wp putD
  by_cases h : i < r.length
  ·rw [if_pos h]; exact ⟨fun q => ⟨h, q⟩, fun q => q.2⟩
  ·rw [if_neg h]; exact ⟨fun q => q.elim, fun q => h q.1⟩
 simp only [h]
def isM (v : Rv) (Q : M → Prop) : Prop := match v with
 | .new m => Q m
 | _ => False
theorem zbb {m : M} {Q : M → Prop} : isM (.new m) Q ↔ Q m := Iff.rfl
theorem za3 {i : Nat} {f : P Rv} : wp (yaa i f) QF E ρ ↔ wp f (fun v r => isM v fun m => i < r.length ∧ QF .next (r.set i (.own m))) E ρ := by
 unfold yaa
 rw [wp_bind]
 have h : ∀ (v : Rv) (r : En), wp (putM i v) QF E r ↔ isM v fun m => i < r.length ∧ QF .next (r.set i (.own m)) := fun v r => by
  unfold wp putM isM
  cases v with
  | dat d => exact Iff.rfl
  | bor j => exact Iff.rfl
  | new m =>
   dsimp only
   by_cases h : i < r.length
   ·rw [if_pos h]; exact ⟨fun q => ⟨h, q⟩, fun q => q.2⟩
   ·rw [if_neg h]; exact ⟨fun q => q.elim, fun q => h q.1⟩
 simp only [h]
def jag (Q : List D → Prop) : Cell → Prop
 | .own (.lst ds) => Q ds
 | _ => False
theorem qac {ds : List D} {Q : List D → Prop} : jag Q (.own (.lst ds)) ↔ Q ds := Iff.rfl
theorem yt {i : Nat} {k : List D → P α} : wp (ownL i k) Q E ρ ↔ atS ρ i (jag fun ds => wp (k ds) Q E ρ) := by
 unfold wp ownL atS
 cases ρ[i]? with
 | none => exact Iff.rfl
 | some c =>
  cases c with
  | own m => cases m <;> exact Iff.rfl
  | _ => exact Iff.rfl
theorem y8 {i : Nat} {fe : P Rv} : wp (x7 i fe) QR E ρ ↔ atS ρ i (jag fun _ => wp fe (fun v r => wpG r v fun d r2 => atS r2 i (jag fun ds => ds.length < sizeLine ∧ QR (.dat (.s .non)) (r2.set i (.own (.lst (ds ++ [d])))))) E ρ) := by
 unfold x7
 simp only [yt, wp_bind, wp_grab]
 have h : ∀ (d : D) (ds : List D) (r : En), wp (if ds.length < sizeLine then setL i (ds ++ [d]) (.dat (.s .non)) else P.fail) QR E r ↔ ds.length < sizeLine ∧ QR (.dat (.s .non)) (r.set i (.own (.lst (ds ++ [d])))) := fun d ds r => by
  by_cases h : ds.length < sizeLine
  ·rw [if_pos h]; exact ⟨fun q => ⟨h, q⟩, fun q => q.2⟩
  ·rw [if_neg h]; exact ⟨fun q => q.elim, fun q => h q.1⟩
 simp only [h]
theorem xj {i : Nat} {Q1 Q2 : Cell → Prop} (h : ∀ c, Q1 c ↔ Q2 c) : atS ρ i Q1 ↔ atS ρ i Q2 := by
 unfold atS
 cases ρ[i]? with
 | none => exact Iff.rfl
 | some c => exact h c
theorem wg {c : Cell} {Q1 Q2 : List D → Prop} (h : ∀ ds, Q1 ds ↔ Q2 ds) : jag Q1 c ↔ jag Q2 c := by
 cases c with
 | own m => cases m with
  | lst ds => exact h ds
  | dk _ => exact Iff.rfl
  | dt _ => exact Iff.rfl
  | dn _ _ _ => exact Iff.rfl
  | ob _ _ => exact Iff.rfl
 | _ => exact Iff.rfl
theorem x9 {r : Rv} {Q1 Q2 : D → En → Prop} (h : ∀ d e, Q1 d e ↔ Q2 d e) : wpG ρ r Q1 ↔ wpG ρ r Q2 := by
 unfold wpG
 cases grab ρ r with
 | none => exact Iff.rfl
 | some z => exact h _ _
theorem za4 {i k : Nat} {c : Int} : wp (sIncL i k c) QF E ρ ↔ atS ρ i (jag fun ds => wpO ds[k]? fun d => isZ d fun n => QF .next (ρ.set i (.own (.lst (ds.set k (.s (.int (n + c)))))))) := by
 unfold sIncL
 simp only [yt]
 have h : ∀ (ds : List D), wp (match ds[k]? with | some (.s (.int n)) => setL i (ds.set k (.s (.int (n + c)))) .next | _ => P.fail) QF E ρ ↔ wpO ds[k]? fun d => isZ d fun n => QF .next (ρ.set i (.own (.lst (ds.set k (.s (.int (n + c))))))) := fun ds => by
  unfold wpO isZ
  cases ds[k]? with
  | none => exact Iff.rfl
  | some d =>
   cases d with
   | s x => cases x <;> exact Iff.rfl
   | _ => exact Iff.rfl
 exact xj fun c => wg h
def datQ (Q : D → Prop) : Cell → Prop
 | .dat d => Q d
 | _ => False
theorem vz {d : D} {Q : D → Prop} : datQ Q (.dat d) ↔ Q d := Iff.rfl
end
end PL
namespace PL
open PySem L2
section
variable {α β : Type} {Q : α → En → Prop} {QR : Rv → En → Prop} {QB : Bool → En → Prop} {QF : Fl → En → Prop} {QD : D → En → Prop} {QDs : List D → En → Prop} {QRs : List Rv → En → Prop} {QA : List Arg → En → Prop} {E : Exn → En → Prop} {ρ : En}
def one1 (ds : List D) (Q : D → Prop) : Prop := match ds with
 | [d] => Q d
 | _ => False
def two2 (ds : List D) (Q : D → D → Prop) : Prop := match ds with
 | [d, e] => Q d e
 | _ => False
theorem wam {d : D} {Q : D → Prop} : one1 [d] Q ↔ Q d := Iff.rfl
theorem y9 {d e : D} {Q : D → D → Prop} : two2 [d, e] Q ↔ Q d e := Iff.rfl
theorem wp_par {i j : Nat} {g : P (List D)} : wp (sPar i j g) QF E ρ ↔ wp g (fun ds r => two2 ds fun d e => (i < r.length ∧ j < r.length) ∧ QF .next ((r.set i (.dat d)).set j (.dat e))) E ρ := by
 unfold sPar
 rw [wp_bind]
 refine wb fun ds r => ?_
 match ds with
 | [] => exact Iff.rfl
 | [d] => exact Iff.rfl
 | d :: e :: f :: t => exact Iff.rfl
 | [d, e] =>
  show wp (fun ρ => if i < ρ.length ∧ j < ρ.length then some (.ok .next ((ρ.set i (.dat d)).set j (.dat e))) else none) QF E r ↔ _
  unfold wp
  simp only [y9]
  by_cases h : i < r.length ∧ j < r.length
  ·rw [if_pos h]; exact ⟨fun q => ⟨h, q⟩, fun q => q.2⟩
  ·rw [if_neg h]; exact ⟨fun q => q.elim, fun q => h q.1⟩
def isL (d : D) (Q : List D → Prop) : Prop := match d with
 | .lst ds => Q ds
 | _ => False
theorem xbb {ds : List D} {Q : List D → Prop} : isL (.lst ds) Q ↔ Q ds := Iff.rfl
theorem wp_ext {i : Nat} {f : P Rv} : wp (sExt i f) QF E ρ ↔ atS ρ i (jag fun _ => wp f (fun v r => wpO (peek r v) fun d => isL d fun es => atS r i (jag fun ds => ds.length + es.length ≤ sizeLine ∧ QF .next (r.set i (.own (.lst (ds ++ es)))))) E ρ) := by
 unfold sExt
 simp only [yt, wp_bind]
 refine xj fun c => wg fun _ => wb fun v r => ?_
 show wp (fun ρ => match peek ρ v with
  | some (.lst es) => (ownL i fun ds => if ds.length + es.length ≤ sizeLine then setL i (ds ++ es) .next else P.fail) ρ
  | _ => none) QF E r ↔ _
 cases q : peek r v with
 | none => unfold wp wpO; simp only [q]
 | some d =>
  cases d with
  | lst es =>
   have e1 : wp (fun ρ => match peek ρ v with
    | some (.lst es) => (ownL i fun ds => if ds.length + es.length ≤ sizeLine then setL i (ds ++ es) .next else P.fail) ρ
    | _ => none) QF E r ↔ wp (ownL i fun ds => if ds.length + es.length ≤ sizeLine then setL i (ds ++ es) .next else P.fail) QF E r := by unfold wp; simp only [q]
   refine e1.trans ?_
   rw [yt]
   show _ ↔ atS r i _
   refine xj fun c => wg fun ds => ?_
   by_cases h : ds.length + es.length ≤ sizeLine
   ·rw [if_pos h]; exact ⟨fun q => ⟨h, q⟩, fun q => q.2⟩
   ·rw [if_neg h]; exact ⟨fun q => q.elim, fun q => h q.1⟩
  | _ => unfold wp wpO; simp only [q, isL]
theorem qa3 : wp uNil QA E ρ ↔ QA [] ρ := Iff.rfl
theorem wp_ud {f : P Rv} {g : P (List Arg)} : wp (uD f g) QA E ρ ↔ wp f (fun v r => wpG r v fun d r2 => wp g (fun as r3 => QA (.inl d :: as) r3) E r2) E ρ := by
 unfold uD
 simp only [wp_bind, qk, wp_grab]
def ownQ (Q : M → Prop) : Cell → Prop
 | .own m => Q m
 | _ => False
theorem yam {m : M} {Q : M → Prop} : ownQ Q (.own m) ↔ Q m := Iff.rfl
theorem wp_um {i : Nat} {g : P (List Arg)} : wp (uM i g) QA E ρ ↔ atS ρ i (ownQ fun _ => wp g (fun as r3 => QA (.inr i :: as) r3) E ρ) := by
 unfold uM
 rw [wp_bind]
 simp only [wp_bind, qk]
 unfold wp uM.ownS atS
 cases ρ[i]? with
 | none => exact Iff.rfl
 | some c => cases c <;> exact Iff.rfl
theorem v8 {n : Nat} {F : P Rv} {as : List Arg} : wp (jx n F as) QR E ρ ↔ ((slotsOf as).Nodup ∧ as.length = n) ∧ wpO (cellsOf ρ as) fun cs => wp F (fun r cs' => QR r (wj ρ as cs')) (fun e cs' => E e (wj ρ as cs')) cs := by
 unfold wp jx wpO
 by_cases h : (slotsOf as).Nodup ∧ as.length = n
 ·rw [if_pos h]
  cases cellsOf ρ as with
  | none => exact ⟨fun q => q.elim, fun q => q.2⟩
  | some cs =>
   dsimp only
   cases F cs with
   | none => exact ⟨fun q => q.elim, fun q => q.2⟩
   | some o => cases o <;> exact ⟨fun q => ⟨h, q⟩, fun q => q.2⟩
 ·rw [if_neg h]
  exact ⟨fun q => q.elim, fun q => h q.1⟩
theorem wp_call {n : Nat} {F : P Rv} {fs : P (List Arg)} : wp (zc n F fs) QR E ρ ↔ wp fs (fun as r => ((slotsOf as).Nodup ∧ as.length = n) ∧ wpO (cellsOf r as) fun cs => wp F (fun v cs' => QR v (wj r as cs')) (fun e cs' => E e (wj r as cs')) cs) E ρ := by
 unfold zc
 simp only [wp_bind, v8]
theorem xaa : slotsOf [] = [] := rfl
theorem vaa {d : D} {as : List Arg} : slotsOf (.inl d :: as) = slotsOf as := rfl
theorem kaa {i : Nat} {as : List Arg} : slotsOf (.inr i :: as) = i :: slotsOf as := rfl
theorem xae : cellsOf ρ [] = some [] := rfl
theorem vae {d : D} {as : List Arg} {Q : List Cell → Prop} : wpO (cellsOf ρ (.inl d :: as)) Q ↔ wpO (cellsOf ρ as) fun cs => Q (.dat d :: cs) := by
 unfold wpO
 simp only [cellsOf]
 cases cellsOf ρ as <;> exact Iff.rfl
theorem kae {i : Nat} {as : List Arg} {Q : List Cell → Prop} : wpO (cellsOf ρ (.inr i :: as)) Q ↔ atS ρ i (ownQ fun m => wpO (cellsOf ρ as) fun cs => Q (.own m :: cs)) := by
 unfold wpO atS
 simp only [cellsOf]
 cases ρ[i]? with
 | none => exact Iff.rfl
 | some c =>
  cases c with
  | own m => cases cellsOf ρ as <;> exact Iff.rfl
  | _ => exact Iff.rfl
theorem jaq {cs : List Cell} : wj ρ [] cs = ρ := rfl
theorem xaq {d : D} {as : List Arg} {c : Cell} {cs : List Cell} : wj ρ (.inl d :: as) (c :: cs) = wj ρ as cs := rfl
theorem zaq {i : Nat} {as : List Arg} {c : Cell} {cs : List Cell} : wj ρ (.inr i :: as) (c :: cs) = (wj ρ as cs).set i c := rfl
def endQ (fx : List Nat) (cs : List Cell) (QR : Rv → En → Prop) (fl : Fl) (r : En) : Prop := match fl with
 | .ret v => wpO (handed cs.length r v) fun v' => wpO (merge fx 0 cs r) fun cs' => QR v' cs'
 | .next => wpO (merge fx 0 cs r) fun cs' => QR (.dat (.s .non)) cs'
 | _ => False
theorem zap {fx : List Nat} {cs : List Cell} {v : Rv} {r : En} : endQ fx cs QR (.ret v) r ↔ wpO (handed cs.length r v) fun v' => wpO (merge fx 0 cs r) fun cs' => QR v' cs' := Iff.rfl
theorem wad {fx : List Nat} {cs : List Cell} {r : En} : endQ fx cs QR .next r ↔ wpO (merge fx 0 cs r) fun cs' => QR (.dat (.s .non)) cs' := Iff.rfl
theorem wp_run {fx : List Nat} {N : Nat} {body : P Fl} {cs : List Cell} : wp (runF fx N body) QR E cs ↔ wp body (endQ fx cs QR) (fun e r => wpO (merge fx 0 cs r) fun cs' => E e cs') (cs ++ List.replicate (N - cs.length) .no) := by
 unfold wp runF
 cases body (cs ++ List.replicate (N - cs.length) .no) with
 | none => exact Iff.rfl
 | some o =>
  cases o with
  | ex e r =>
   dsimp only
   unfold wpO
   cases merge fx 0 cs r <;> exact Iff.rfl
  | ok fl r =>
   cases fl with
   | next =>
    dsimp only
    unfold endQ wpO
    cases merge fx 0 cs r <;> exact Iff.rfl
   | brk => exact Iff.rfl
   | cont => exact Iff.rfl
   | ret v =>
    dsimp only
    simp only [endQ, wpO]
    cases handed cs.length r v with
    | none => exact Iff.rfl
    | some v' => dsimp only; cases merge fx 0 cs r <;> exact Iff.rfl
theorem xab {fx : List Nat} {k : Nat} {r : En} : merge fx k [] r = some [] := by unfold merge; rfl
theorem yab {fx : List Nat} {k : Nat} {d : D} {c : Cell} {cs : List Cell} {r : En} {Q : List Cell → Prop} : wpO (merge fx k (.dat d :: cs) (c :: r)) Q ↔ wpO (merge fx (k + 1) cs r) fun x => Q (.dat d :: x) := by
 unfold wpO
 simp only [merge]
 cases merge fx (k + 1) cs r <;> exact Iff.rfl
theorem kab {fx : List Nat} {k : Nat} {m m' : M} {cs : List Cell} {r : En} {Q : List Cell → Prop} : wpO (merge fx k (.own m :: cs) (.own m' :: r)) Q ↔ k ∈ fx ∧ wpO (merge fx (k + 1) cs r) fun x => Q (.own m' :: x) := by
 unfold wpO
 simp only [merge]
 by_cases h : k ∈ fx
 ·rw [if_pos h]
  cases merge fx (k + 1) cs r with
  | none => exact ⟨fun q => q.elim, fun q => q.2⟩
  | some x => exact ⟨fun q => ⟨h, q⟩, fun q => q.2⟩
 ·rw [if_neg h]
  exact ⟨fun q => q.elim, fun q => h q.1⟩
theorem zz {n : Nat} {d : D} : handed n ρ (.dat d) = some (.dat d) := rfl
theorem jz {n : Nat} {m : M} : handed n ρ (.new m) = some (.new m) := rfl
def handQ (n i : Nat) (Q : Rv → Prop) : Cell → Prop
 | .no => False
 | .dat d => Q (.dat d)
 | .own m => n ≤ i ∧ Q (.new m)
theorem kz {n i : Nat} {Q : Rv → Prop} : wpO (handed n ρ (.bor i)) Q ↔ atS ρ i (handQ n i Q) := by
 unfold wpO atS
 simp only [handed]
 cases ρ[i]? with
 | none => exact Iff.rfl
 | some c =>
  cases c with
  | no => exact Iff.rfl
  | dat d => exact Iff.rfl
  | own m =>
   dsimp only
   unfold handQ
   by_cases h : n ≤ i
   ·rw [if_pos h]; exact ⟨fun q => ⟨h, q⟩, fun q => q.2⟩
   ·rw [if_neg h]; exact ⟨fun q => q.elim, fun q => h q.1⟩
theorem jad {n i : Nat} {d : D} {Q : Rv → Prop} : handQ n i Q (.dat d) ↔ Q (.dat d) := Iff.rfl
theorem qad {n i : Nat} {m : M} {Q : Rv → Prop} : handQ n i Q (.own m) ↔ n ≤ i ∧ Q (.new m) := Iff.rfl
theorem ja4 {f : P Rv} : wp (qr f) QDs E ρ ↔ wp f (fun v r => wpG r v fun d r2 => wpO (walked d) fun ds => QDs ds r2) E ρ := by
 unfold qr
 simp only [wp_bind, wp_grab, waj]
theorem zy {ds : List D} : walked (.lst ds) = some ds := rfl
theorem qy {ds : List D} : walked (.tup ds) = some ds := rfl
theorem v9 {ds : List D} : walked (.ro ds) = some ds := rfl
theorem jy {z : Str} : walked (.s (.str z)) = some (jay z) := rfl
theorem va3 {fs : P (List Rv)} : wp (qbc fs) QDs E ρ ↔ wp fs (fun rs r => wpO (xq r rs) fun ds => one1 ds fun d => isZ d fun j => inBd j = true ∧ QDs (rngD 0 j.toNat) r) E ρ := by
 unfold qbc
 rw [wp_bind]
 simp only [wp_pks]
 refine wb fun rs r => xl fun ds => ?_
 match ds with
 | [] => exact Iff.rfl
 | d :: e :: t => cases d with
  | s x => cases x <;> exact Iff.rfl
  | _ => exact Iff.rfl
 | [d] =>
  cases d with
  | s x =>
   cases x with
   | int j =>
    show wp (if inBd j = true then P.ret (rngD 0 j.toNat) else P.fail) QDs E r ↔ inBd j = true ∧ QDs (rngD 0 j.toNat) r
    by_cases h : inBd j = true
    ·rw [if_pos h]; exact ⟨fun q => ⟨h, q⟩, fun q => q.2⟩
    ·rw [if_neg h]; exact ⟨fun q => q.elim, fun q => h q.1⟩
   | _ => exact Iff.rfl
  | _ => exact Iff.rfl
theorem ka3 {fs : P (List Rv)} : wp (fRng2 fs) QDs E ρ ↔ wp fs (fun rs r => wpO (xq r rs) fun ds => two2 ds fun d e => isZ d fun i => isZ e fun j => (inBd i = true ∧ inBd j = true) ∧ QDs (rngD i (j - i).toNat) r) E ρ := by
 unfold fRng2
 rw [wp_bind]
 simp only [wp_pks]
 refine wb fun rs r => xl fun ds => ?_
 match ds with
 | [] => exact Iff.rfl
 | [d] => cases d with
  | s x => cases x <;> exact Iff.rfl
  | _ => exact Iff.rfl
 | d :: e :: f :: t => cases d with
  | s x => cases x with
   | int i => cases e with
    | s y => cases y <;> exact Iff.rfl
    | _ => exact Iff.rfl
   | _ => exact Iff.rfl
  | _ => exact Iff.rfl
 | [d, e] =>
  cases d with
  | s x =>
   cases x with
   | int i =>
    cases e with
    | s y =>
     cases y with
     | int j =>
      show wp (if inBd i = true ∧ inBd j = true then P.ret (rngD i (j - i).toNat) else P.fail) QDs E r ↔ (inBd i = true ∧ inBd j = true) ∧ QDs (rngD i (j - i).toNat) r
      by_cases h : inBd i = true ∧ inBd j = true
      ·rw [if_pos h]; exact ⟨fun q => ⟨h, q⟩, fun q => q.2⟩
      ·rw [if_neg h]; exact ⟨fun q => q.elim, fun q => h q.1⟩
     | _ => exact Iff.rfl
    | _ => exact Iff.rfl
   | _ => exact Iff.rfl
  | _ => exact Iff.rfl
def isLL (d : D) (Q : List D → Prop) : Prop := match d with
 | .lst ds => Q ds
 | .ro ds => Q ds
 | _ => False
theorem yao {ds : List D} {Q : List D → Prop} : isLL (.lst ds) Q ↔ Q ds := Iff.rfl
theorem kbb {ds : List D} {Q : List D → Prop} : isLL (.ro ds) Q ↔ Q ds := Iff.rfl
def pairL (d e : D) (Q : List D → List D → Prop) : Prop := match d, e with
 | .lst xs, .lst ys => Q xs ys
 | .tup xs, .tup ys => Q xs ys
 | _, _ => False
theorem zab {xs ys : List D} {Q : List D → List D → Prop} : pairL (.lst xs) (.lst ys) Q ↔ Q xs ys := Iff.rfl
theorem jab {xs ys : List D} {Q : List D → List D → Prop} : pairL (.tup xs) (.tup ys) Q ↔ Q xs ys := Iff.rfl
theorem wp_zip {g : P (List D)} : wp (fZip g) QDs E ρ ↔ wp g (fun ds r => two2 ds fun d e => pairL d e fun xs ys => QDs (zipD xs ys) r) E ρ := by
 unfold fZip
 rw [wp_bind]
 refine wb fun ds r => ?_
 match ds with
 | [] => exact Iff.rfl
 | [d] => cases d <;> exact Iff.rfl
 | d :: e :: f :: t => cases d <;> cases e <;> exact Iff.rfl
 | [d, e] => cases d <;> cases e <;> exact Iff.rfl
def turnQ (fl : Fl) (r : En) (N : En → Prop) (QF : Fl → En → Prop) : Prop := match fl with
 | .next => N r
 | .cont => N r
 | .brk => QF .next r
 | .ret v => QF (.ret v) r
theorem ql {r : En} {N : En → Prop} : turnQ .next r N QF ↔ N r := Iff.rfl
theorem xy {r : En} {N : En → Prop} : turnQ .cont r N QF ↔ N r := Iff.rfl
theorem qaa {r : En} {N : En → Prop} : turnQ .brk r N QF ↔ QF .next r := Iff.rfl
theorem w9 {v : Rv} {r : En} {N : En → Prop} : turnQ (.ret v) r N QF ↔ QF (.ret v) r := Iff.rfl
theorem wbe {fi : P (List D)} {a : Tgt} {body : P Fl} : wp (sFor fi a body) QF E ρ ↔ wp fi (fun ds r => wp (wab a body ds) QF E r) E ρ := by
 unfold sFor
 rw [wp_bind]
theorem ybe {a : Tgt} {body : P Fl} {d : D} {ds : List D} : wp (wab a body (d :: ds)) QF E ρ ↔ wpO (a d ρ) fun r1 => wp body (fun fl r2 => turnQ fl r2 (wp (wab a body ds) QF E) QF) E r1 := by
 show wp (fun ρ => match a d ρ with
  | none => none
  | some ρ1 => jd (body ρ1) fun f => match f with
   | .next => wab a body ds
   | .cont => wab a body ds
   | .brk => P.ret .next
   | .ret r => P.ret (.ret r)) QF E ρ ↔ _
 unfold wpO
 cases q : a d ρ with
 | none => unfold wp; simp only [q]
 | some r1 =>
  unfold wp
  simp only [q]
  cases q2 : body r1 with
  | none => exact Iff.rfl
  | some o =>
   cases o with
   | ex e r => exact Iff.rfl
   | ok fl r => cases fl <;> exact Iff.rfl
theorem zo {a : Tgt} {body : P Fl} {ds : List D} (I : Nat → En → Prop) (h0 : I 0 ρ) (hs : ∀ i d r, ds[i]? = some d → I i r → wpO (a d r) fun r1 => wp body (fun fl r2 => turnQ fl r2 (I (i + 1)) QF) E r1) (hd : ∀ r, I ds.length r → QF .next r) : wp (wab a body ds) QF E ρ := by
 have key : ∀ (n i : Nat) (r : En), n = ds.length - i → i ≤ ds.length → I i r → wp (wab a body (ds.drop i)) QF E r := by
  intro n
  induction n with
  | zero =>
   intro i r hn hi h
   have : i = ds.length := by omega
   subst this
   rw [List.drop_length]
   exact hd r h
  | succ n ih =>
   intro i r hn hi h
   have hlt : i < ds.length := by omega
   have hg := List.getElem?_eq_getElem hlt
   rw [xap hg, ybe]
   have hh := hs i _ r hg h
   unfold wpO at hh ⊢
   cases q : a ds[i] r with
   | none => rw [q] at hh; exact hh
   | some r1 =>
    rw [q] at hh
    refine wp_mono hh (fun fl r2 z => ?_) fun _ _ z => z
    cases fl with
    | next => exact ih (i + 1) r2 (by omega) hlt z
    | cont => exact ih (i + 1) r2 (by omega) hlt z
    | brk => exact z
    | ret v => exact z
 have := key ds.length 0 ρ (by omega) (Nat.zero_le _) h0
 rwa [List.drop_zero] at this
abbrev EF : Exn → En → Prop := fun _ _ => False
theorem za5 {vs : List Nat} {fi : P (List D)} {a : Tgt} {tests : P Bool} {elt : P Rv} : wp (ko vs fi a tests elt) QR E ρ ↔ wp fi (fun ds r => wpO (vt vs a tests elt ds [] (vg r vs)) fun z => QR (.new (.lst z.1)) (j7 r z.2 vs)) E ρ := by
 unfold ko
 rw [wp_bind]
 refine wb fun ds r => ?_
 unfold wp wpO
 dsimp only
 cases vt vs a tests elt ds [] (vg r vs) <;> exact Iff.rfl
theorem kau {vs : List Nat} {a : Tgt} {tests : P Bool} {elt : P Rv} {ds acc0 : List D} (I : Nat → List D → En → Prop) (h0 : I 0 acc0 ρ)
  (hs : ∀ i d acc r, ds[i]? = some d → I i acc r → wpO (a d r) fun r1 => wp tests (fun b r2 => if b = true then wp elt (fun v r3 => wpG r3 v fun y r4 => acc.length < sizeLine ∧ I (i + 1) (acc ++ [y]) (vg r4 vs)) EF r2 else I (i + 1) acc (vg r2 vs)) EF r1) :
  ∃ acc r, vt vs a tests elt ds acc0 ρ = some (acc, r) ∧ I ds.length acc r := by
 have key : ∀ (n i : Nat) (acc : List D) (r : En), n = ds.length - i → i ≤ ds.length → I i acc r → ∃ acc' r', vt vs a tests elt (ds.drop i) acc r = some (acc', r') ∧ I ds.length acc' r' := by
  intro n
  induction n with
  | zero =>
   intro i acc r hn hi h
   have : i = ds.length := by omega
   subst this
   rw [List.drop_length]
   exact ⟨acc, r, rfl, h⟩
  | succ n ih =>
   intro i acc r hn hi h
   have hlt : i < ds.length := by omega
   have hg := List.getElem?_eq_getElem hlt
   rw [xap hg]
   have hh := hs i _ acc r hg h
   unfold wpO at hh
   cases q : a ds[i] r with
   | none => rw [q] at hh; exact hh.elim
   | some r1 =>
    rw [q] at hh
    obtain ⟨b, r2, e1, h2⟩ := yax hh
    simp only [vt, q, e1]
    cases b with
    | false => exact ih (i + 1) acc _ (by omega) hlt h2
    | true =>
     rw [if_pos rfl] at h2
     have h3 : wp (yj elt) (fun y r4 => acc.length < sizeLine ∧ I (i + 1) (acc ++ [y]) (vg r4 vs)) EF r2 := wp_grab.mpr h2
     obtain ⟨y, r4, e2, h4, h5⟩ := yax h3
     simp only [e2, if_pos h4]
     exact ih (i + 1) _ _ (by omega) hlt h5
 have := key ds.length 0 acc0 ρ (by omega) (Nat.zero_le _) h0
 rwa [List.drop_zero] at this
theorem wpO_eq {α : Type} {o : Option α} {a : α} {Q : α → Prop} (h : o = some a) (q : Q a) : wpO o Q := by rw [h]; exact q
theorem qbp {i : Nat} {d : D} {Q : En → Prop} : wpO (aN i d ρ) Q ↔ i < ρ.length ∧ Q (ρ.set i (.dat d)) := vr
theorem vbk {n : Nat} {as : List D → En → Option En} {ds : List D} {Q : En → Prop} : wpO (aT n as (.tup ds) ρ) Q ↔ ds.length = n ∧ wpO (as ds ρ) Q := by
 show wpO (if ds.length = n then as ds ρ else none) Q ↔ _
 by_cases h : ds.length = n
 ·rw [if_pos h]; exact ⟨fun q => ⟨h, q⟩, fun q => q.2⟩
 ·rw [if_neg h]; exact ⟨fun q => q.elim, fun q => h q.1⟩
theorem zaf {a : Tgt} {as : List D → En → Option En} {d : D} {ds : List D} {Q : En → Prop} : wpO (jai a as (d :: ds) ρ) Q ↔ wpO (a d ρ) fun r => wpO (as ds r) Q := by
 unfold wpO
 simp only [jai]
 cases a d ρ <;> exact Iff.rfl
theorem yaw {Q : En → Prop} : wpO (aNil [] ρ) Q ↔ Q ρ := Iff.rfl
end
end PL
namespace PL
open PySem L2
section
variable {K : PySem.W.Frag} {cs : List Addr}
theorem isi_ty {a b : String} {r : Bool} {x : D} (h : kitB a b = some r) (ht : tyD x = some (.type a)) (hc : xbn cs x = true) : isiD K cs [x, .s (.ty b)] = some (rvB r) := by
 unfold isiD isiB
 simp only [ht, clsD, if_pos hc, kit_ty h]
variable {b : Bool} {i : Int} {z : Str} {ds : List D}
theorem kq : isiD K cs [.s (.str z), .s (.ty "str")] = some (rvB true) := isi_ty (a := "str") (by decide +kernel) rfl rfl
theorem jh : isiD K cs [.tup ds, .s (.ty "tuple")] = some (rvB true) := isi_ty (a := "tuple") (by decide +kernel) rfl rfl
theorem x4 : isiD K cs [.ro ds, .s (.ty "bool")] = some (rvB false) := isi_ty (a := "list") (by decide +kernel) rfl rfl
end
theorem mulIB_r {i j : Int} (h : j.natAbs < 18446744073709551616) : ybm i j = true := by unfold ybm; rw [decide_eq_true h, Bool.or_true]
theorem qa9 {i j : Int} (h : i.natAbs < 18446744073709551616) : ybm i j = true := by unfold ybm; rw [decide_eq_true h, Bool.true_or]
theorem jm {j : Int} (h1 : -4611686018427387904 ≤ j) (h2 : j < 4611686018427387904) : inBd j = true := by
 unfold inBd
 rw [decide_eq_true (by omega), decide_eq_true (by omega)]; rfl
theorem zao {y : Str} {Q : Rv → Prop} : wpO (lenD [.s (.str y)]) Q ↔ y.length ≤ sizeLine ∧ Q (rvI y.length) := vr
theorem xao {ds : List D} : lenD [.lst ds] = some (rvI ds.length) := rfl
theorem qba {ds : List D} : lenD [.ro ds] = some (rvI ds.length) := rfl
theorem jao {ds : List D} : lenD [.tup ds] = some (rvI ds.length) := rfl
theorem size_eq : sizeLine = 16777216 := sizeLine_eq
end PL
namespace PL
open PySem L2
section
variable {ds : List D} {i : Int} {z : Str} {Q : Rv → Prop}
theorem vba : wpO (ixD (.lst ds) (.s (.int i))) Q ↔ wpO (atI ds i) fun d => Q (.dat d) := by
 unfold wpO
 simp only [ixD, items]
 cases atI ds i <;> exact Iff.rfl
theorem ixw_ro : wpO (ixD (.ro ds) (.s (.int i))) Q ↔ wpO (atI ds i) fun d => Q (.dat d) := by
 unfold wpO
 simp only [ixD, items]
 cases atI ds i <;> exact Iff.rfl
theorem xba : wpO (ixD (.tup ds) (.s (.int i))) Q ↔ wpO (atI ds i) fun d => Q (.dat d) := by
 unfold wpO
 simp only [ixD, items]
 cases atI ds i <;> exact Iff.rfl
theorem kba : wpO (ixD (.s (.str z)) (.s (.int i))) Q ↔ z.length ≤ sizeLine ∧ wpO (atI z.cps.toList i) fun c => Q (rvS ⟨#[c]⟩) := by
 unfold wpO
 simp only [ixD]
 by_cases h : z.length ≤ sizeLine
 ·rw [if_pos h]
  cases atI z.cps.toList i with
  | none => exact ⟨fun q => q.elim, fun q => q.2⟩
  | some c => exact ⟨fun q => ⟨h, q⟩, fun q => q.2⟩
 ·rw [if_neg h]
  exact ⟨fun q => q.elim, fun q => h q.1⟩
theorem yaj {α : Type} {xs : List α} {i : Int} (h : 0 ≤ i) : atI xs i = xs[i.toNat]? := by
 unfold atI ixN
 rw [if_pos h]
 by_cases h1 : i < xs.length
 ·rw [if_pos h1]; rfl
 ·rw [if_neg h1, List.getElem?_eq_none (by omega)]; rfl
theorem jbk {α : Type} {xs : List α} {i : Int} {Q : α → Prop} (h0 : 0 ≤ i) (h1 : i < xs.length) (h : ∀ x ∈ xs, Q x) : wpO (atI xs i) Q := by
 rw [yaj h0, List.getElem?_eq_getElem (by omega)]
 exact h _ (List.getElem_mem _)
theorem atI_0 {α : Type} {a : α} {l : List α} : atI (a :: l) 0 = some a := by rw [yaj (by decide)]; rfl
theorem atI_1 {α : Type} {a b : α} {l : List α} : atI (a :: b :: l) 1 = some b := by rw [yaj (by decide)]; rfl
end
end PL
namespace PL
open PySem
abbrev okS (z : Str) : Prop := PyData.strOk z = true
theorem okS_iff {z : Str} : okS z ↔ ∀ c ∈ z.cps.toList, c < 0x110000 := by
 show PyData.strOk z = true ↔ _
 unfold PyData.strOk
 rw [← Array.all_toList, List.all_eq_true]
 exact ⟨fun h c m => of_decide_eq_true (h c m), fun h c m => decide_eq_true (h c m)⟩
theorem okS_app {a b : Str} (ha : okS a) (hb : okS b) : okS (a ++ b) := by
 rw [okS_iff] at ha hb ⊢
 intro c m
 have m : c ∈ (a.cps ++ b.cps).toList := m
 rw [Array.toList_append, List.mem_append] at m
 rcases m with m | m
 ·exact ha c m
 ·exact hb c m
theorem okS_sub {a : Str} (i j : Nat) (ha : okS a) : okS (Builtin.Str.strSub a i j) := by
 rw [okS_iff] at ha ⊢
 intro c m
 have m : c ∈ (a.cps.extract i j).toList := m
 rw [Array.toList_extract] at m
 exact ha c (List.mem_of_mem_drop (List.mem_of_mem_take m))
theorem okS_strip {a : Str} (y : Str) (ha : okS a) : okS (Txt.stripChars a y) := by
 unfold Txt.stripChars
 rw [PyProof.Rows.stripBy_eq]
 exact okS_sub _ _ ha
theorem len_app {a b : Str} : (a ++ b).length = a.length + b.length := by
 show (a.cps ++ b.cps).size = _
 rw [Array.size_append]
 rfl
section
variable {K : PySem.W.Frag}
theorem wy {d : D} {a : PyData} (h : toPy d = some a) : shp d = SeqAt.shaped a := by unfold shp; rw [h]
theorem kbm {d : D} {a : PyData} (h : toPy d = some a) : py d = a := by unfold py; rw [h]; rfl
theorem eqB_shp {x y : D} (hx : shp x = true) (hy : shp y = true) : eqB x y = some (PyData.eqv (py x) (py y)) := by
 obtain ⟨h1, h2⟩ := zay hx
 obtain ⟨h3, h4⟩ := zay hy
 unfold eqB
 rw [h1, h3]
 dsimp only
 rw [if_pos (by rw [h2, h4]; rfl)]
theorem eqD_shp {x y : D} (hx : shp x = true) (hy : shp y = true) : eqD x y = some (rvB (PyData.eqv (py x) (py y))) := by
 unfold eqD; rw [eqB_shp hx hy]
theorem vbm {x y : D} (hx : shp x = true) (hy : shp y = true) : neD x y = some (rvB (!PyData.eqv (py x) (py y))) := by
 unfold neD; rw [eqB_shp hx hy]
theorem qas {i : Int} : shp (.s (.int i)) = true := by rw [wy (a := .int i) rfl]; rfl
theorem shp_bl {i : Bool} : shp (.s (.bl i)) = true := by rw [wy (a := .bool i) rfl]; rfl
theorem shp_non : shp (.s .non) = true := by rw [wy (a := .none) rfl]; rfl
theorem shp_str {z : Str} : shp (.s (.str z)) = PyData.strOk z := by
 rw [wy (a := .str z) rfl]
 show (PyData.canLay0 (.str z) && decide (PyData.depth (.str z) ≤ 64)) = _
 simp [PyData.canLay0, PyData.depth]
theorem kbg {i : Int} : py (.s (.int i)) = .int i := rfl
theorem py_bl {i : Bool} : py (.s (.bl i)) = .bool i := rfl
theorem py_str {i : Str} : py (.s (.str i)) = .str i := rfl
theorem jbc {i j : Int} : eqD (.s (.int i)) (.s (.int j)) = some (rvB (i == j)) := by
 rw [eqD_shp qas qas, kbg, kbg]; simp only [PyData.eqv]
theorem wa8 {i j : Int} : neD (.s (.int i)) (.s (.int j)) = some (rvB (!(i == j))) := by
 rw [vbm qas qas, kbg, kbg]; simp only [PyData.eqv]
theorem qbo {a b : Str} (ha : okS a) (hb : okS b) : eqD (.s (.str a)) (.s (.str b)) = some (rvB (a == b)) := by
 rw [eqD_shp (shp_str.trans ha) (shp_str.trans hb), py_str, py_str]; simp only [PyData.eqv]
def dep (d : D) : Nat := (py d).depth
theorem zu : ∀ {ds : List D}, (∀ d ∈ ds, shp d = true) → w6 ds = some (ds.map py)
 | [], _ => by simp [w6]
 | d :: ds, h => by
  rw [w6, (zay (h d List.mem_cons_self)).1, zu fun e m => h e (List.mem_cons_of_mem _ m)]
  rfl
theorem vah : ∀ {ds : List D}, (∀ d ∈ ds, shp d = true) → PyData.canLayAll0 (ds.map py) = true
 | [], _ => by simp [PyData.canLayAll0]
 | d :: ds, h => by
  rw [List.map_cons, PyData.canLayAll0, vah fun e m => h e (List.mem_cons_of_mem _ m), SeqAt.canLay_of_shaped (zay (h d List.mem_cons_self)).2]
  rfl
theorem wat {n : Nat} : ∀ {ds : List D}, (∀ d ∈ ds, dep d ≤ n) → PyData.depthAll (ds.map py) ≤ n
 | [], _ => by simp [PyData.depthAll]
 | d :: ds, h => by
  rw [List.map_cons, PyData.depthAll]
  have h1 := h d List.mem_cons_self
  have h2 := wat fun e m => h e (List.mem_cons_of_mem _ m)
  unfold dep at h1
  omega
theorem py_lst {ds : List D} (h : ∀ d ∈ ds, shp d = true) : py (.lst ds) = .list (ds.map py) := kbm (by rw [toPy, zu h])
theorem x3 {ds : List D} (h : ∀ d ∈ ds, shp d = true) : py (.tup ds) = .tuple (ds.map py) := kbm (by rw [toPy, zu h])
theorem shp_lst {n : Nat} {ds : List D} (h : ∀ d ∈ ds, shp d = true) (hd : ∀ d ∈ ds, dep d ≤ n) (hn : n ≤ 63) : shp (.lst ds) = true := by
 rw [wy (a := .list (ds.map py)) (by rw [toPy, zu h])]
 show (PyData.canLay0 (.list (ds.map py)) && decide (PyData.depth (.list (ds.map py)) ≤ 64)) = true
 have := wat hd
 rw [PyData.canLay0, vah h, decide_eq_true (by rw [PyData.depth]; omega)]; rfl
theorem shp_tup {n : Nat} {ds : List D} (h : ∀ d ∈ ds, shp d = true) (hd : ∀ d ∈ ds, dep d ≤ n) (hn : n ≤ 63) : shp (.tup ds) = true := by
 rw [wy (a := .tuple (ds.map py)) (by rw [toPy, zu h])]
 show (PyData.canLay0 (.tuple (ds.map py)) && decide (PyData.depth (.tuple (ds.map py)) ≤ 64)) = true
 have := wat hd
 rw [PyData.canLay0, vah h, decide_eq_true (by rw [PyData.depth]; omega)]; rfl
theorem dep_lst {n : Nat} {ds : List D} (h : ∀ d ∈ ds, shp d = true) (hd : ∀ d ∈ ds, dep d ≤ n) : dep (.lst ds) ≤ n + 1 := by
 unfold dep; rw [py_lst h, PyData.depth]; have := wat hd; omega
theorem dep_tup {n : Nat} {ds : List D} (h : ∀ d ∈ ds, shp d = true) (hd : ∀ d ∈ ds, dep d ≤ n) : dep (.tup ds) ≤ n + 1 := by
 unfold dep; rw [x3 h, PyData.depth]; have := wat hd; omega
theorem dep_int {i : Int} : dep (.s (.int i)) = 0 := by unfold dep; rw [kbg, PyData.depth]
theorem dep_bl {i : Bool} : dep (.s (.bl i)) = 0 := by unfold dep; rw [py_bl, PyData.depth]
theorem dep_str {i : Str} : dep (.s (.str i)) = 0 := by unfold dep; rw [py_str, PyData.depth]
theorem dep_non : dep (.s .non) = 0 := by unfold dep; rw [show py (.s .non) = .none from rfl, PyData.depth]
theorem jj (xs ys : List PyData) : PyData.eqv (.tuple xs) (.tuple ys) = PyData.eqvAll xs ys := by simp only [PyData.eqv]
theorem eqvAll_nil : ∀ xs : List PyData, PyData.eqvAll xs [] = xs.isEmpty
 | [] => by simp [PyData.eqvAll]
 | _ :: _ => by simp [PyData.eqvAll]
end
end PL
namespace PL
open PySem
section
variable {i j : Int} {a b : Str} {p q : Bool} {ds es : List D} {l h : Option Int} {x : D} {Q : Rv → Prop}
theorem lt_int : ltXD (.s (.int i)) (.s (.int j)) = some (rvB (decide (i < j))) := rfl
theorem lt_str : ltXD (.s (.str a)) (.s (.str b)) = some (rvB (strLt a b)) := rfl
theorem le_int : leD (.s (.int i)) (.s (.int j)) = some (rvB (decide (i ≤ j))) := rfl
theorem gt_int : gtD (.s (.int i)) (.s (.int j)) = some (rvB (decide (j < i))) := rfl
theorem ge_int : geD (.s (.int i)) (.s (.int j)) = some (rvB (decide (j ≤ i))) := rfl
theorem va9 : maxD [.s (.int i), .s (.int j)] = some (rvI (if j > i then j else i)) := rfl
theorem za9 : minD [.s (.int i), .s (.int j)] = some (rvI (if j < i then j else i)) := rfl
theorem wan : listD [.lst ds] = some (.new (.lst ds)) := rfl
theorem yan : listD [.tup ds] = some (.new (.lst ds)) := rfl
theorem ya9 : listD [.ro ds] = some (.new (.lst ds)) := rfl
theorem ja6 : qay [.lst ds] = some (.dat (.tup ds)) := rfl
theorem qa6 : qay [.tup ds] = some (.dat (.tup ds)) := rfl
theorem sl_lst : slD (.lst ds) l h = some (.new (.lst (cutG ds l h))) := rfl
theorem sl_tup : slD (.tup ds) l h = some (.dat (.tup (cutG ds l h))) := rfl
theorem sl_ro : slD (.ro ds) l h = some (.new (.lst (cutG ds l h))) := rfl
theorem sl_str : wpO (slD (.s (.str a)) l h) Q ↔ a.length ≤ sizeLine ∧ Q (rvS (L2.cutS a l h)) := vr
theorem neg_int : negD (.s (.int i)) = some (rvI (-i)) := rfl
theorem is_bl : isD (.s (.bl p)) (.s (.bl q)) = some (rvB (decide (p = q))) := rfl
theorem yac : kaz (.s (.bl p)) (.s (.bl q)) = some (rvB (!decide (p = q))) := rfl
theorem is_none : isD x (.s .non) = some (rvB (isNone x)) := rfl
theorem vq : kaz x (.s .non) = some (rvB (!isNone x)) := rfl
theorem kan : isNone (.s .non) = true := rfl
theorem none_int : isNone (.s (.int i)) = false := rfl
theorem none_str : isNone (.s (.str a)) = false := rfl
theorem ya8 : isNone (.s (.bl p)) = false := rfl
theorem van : isNone (.lst ds) = false := rfl
theorem xan : isNone (.tup ds) = false := rfl
theorem wbd : augAddD (.s (.int i)) (.s (.int j)) = some (rvI (i + j)) := rfl
theorem qbe {d : D} {k : Nat} {r : En} {QF : Fl → En → Prop} : (match (Rv.dat d) with | .dat z => k < r.length ∧ QF .next (r.set k (.dat z)) | _ => False) ↔ k < r.length ∧ QF .next (r.set k (.dat d)) := Iff.rfl
end
end PL
namespace PL
open PySem
section
variable {a b : Str} {ds : List D} {ys : List Str} {Q : Rv → Prop}
theorem zaa : wpO (zbf a (.s (.str b))) Q ↔ a.length ≤ sizeLine ∧ Q (rvS (Txt.stripChars a b)) := vr
theorem yy : startsD a (.s (.str b)) = some (rvB (Txt.startswith a b)) := rfl
theorem jap : endsD a (.s (.str b)) = some (rvB (Txt.endswith a b)) := rfl
theorem strL_map : ∀ ys : List Str, strL (ys.map fun y => D.s (.str y)) = some ys
 | [] => rfl
 | y :: ys => by simp only [List.map_cons, strL, strL_map ys]
theorem join_lst : wpO (joinD a (.lst (ys.map fun y => D.s (.str y)))) Q ↔ (ys.map (·.length)).sum + ys.length * a.length ≤ 16777216 ∧ Q (rvS (Txt.join a ys)) := by
 unfold joinD
 simp only [items, strL_map]
 exact vr
end
end PL
namespace PL
open PySem L2
def spLaw (K : PySem.W.Frag) : Sp := fun vs H Q _ => ∃ (a : Addr) (ns : List Int), vs = [.ref a] ∧ SqL K H a (ns.map V.int) ∧ ns.length ≤ 63 ∧ (∀ P, TabP K P → TS1 H P) ∧ ∀ H', Q (.bl true) H'
theorem ints_iss {K : PySem.W.Frag} {C : Hp} : ∀ ns : List Int, Iss K C (ns.map fun i => D.s (.int i)) (ns.map V.int)
 | [] => kc
 | n :: ns => yb is_s (ints_iss ns)
theorem spF_law {F : P Rv} {K : PySem.W.Frag} (hF : ∀ ns : List Int, ns.length ≤ 63 → wp F (fun r _ => r = rvB true) EF [.dat (.ro (ns.map fun i => D.s (.int i)))]) : ∀ vs H Q E, spLaw K vs H Q E → spF K 1 F vs H Q E := by
 rintro vs H Q E ⟨a, ns, rfl, hS, hl, tb, q⟩
 obtain ⟨r, cs', h1, rfl⟩ := yax (hF ns hl)
 have ec : Ex (fun b => if b = a then H a else none) H := ⟨fun b o h _ => by
  by_cases hb : b = a
  ·subst hb; simpa using h
  ·simp [hb] at h, fun b h => by
  by_cases hb : b = a
  ·subst hb; simpa using h
  ·simp [hb]⟩
 have hC : SqL K (fun b => if b = a then H a else none) a (ns.map V.int) := by
  rcases hS with (h | ⟨o, h⟩) | h
  ·exact .inl (.inl (by simpa using h))
  ·exact .inl (.inr ⟨o, by simpa using h⟩)
  ·exact .inr h
 refine ⟨rfl, _, _, _, ⟨rfl, ec, fun i c h => ?_, fun i j m n b h => ?_, tb⟩, h1, fun r' cs2 z => ?_, fun e cs2 z => by cases z⟩
 ·cases i with
  | zero =>
   have h : Cell.dat (.ro (ns.map fun i => D.s (.int i))) = c := by simpa using h
   subst h
   exact ⟨_, rfl, _, rfl, is_ro_iff.mpr ⟨a, _, rfl, hC, ints_iss ns⟩⟩
  | succ i => simp at h
 ·cases i with
  | zero => simp at h
  | succ i => simp at h
 ·cases z
  refine ⟨rfl, fun v C' H' p k => ?_⟩
  have e : v = .bl true := is_s_iff.mp (show Is K C' (.s (.bl true)) v from k)
  rw [e]
  exact q H'
theorem def_fn {P : Program} {w : World} {K : PySem.W.Frag} {mg : Str → Option Value} {base : Heap} {k n : Nat} {x qual : Str} {st : Stmt} {f : Addr} {fd : FuncData} {N ps : List Str} {fx : List Nat} {body : PL.P Fl} (F : Fun K x qual st f fd) (S : FnScope N ps (defScope st)) (hn : ps.length = n) (hN : n ≤ N.length)
  (hbody : ∀ (cdv : Value) (A : Around) (outer : List PySem.Env) (s : Shared) (H : Hp) (E : XK), CtxOk (fun _ : Unit => cxOf (L2.CX P w) P w K mg base N qual (defScope st) f cdv A outer s H E) P w K mg base k (WB E) N (defScope st) →
   BSs (fun _ : Unit => cxOf (L2.CX P w) P w K mg base N qual (defScope st) f cdv A outer s H E) K (WB E) fx (defBody st) body) : FnOk P w K mg base (L2.CX P w) (k + 1) f fd ps (spF K n (runF fx N.length body)) :=
 fn_ok F S hn hN fun cdv A outer s H E hr => by
  obtain ⟨t, h1, h2⟩ := hbody cdv A outer s H E ⟨fun _ => rfl, fun _ => rfl, fun _ => rfl, fun _ => rfl, fun _ => rfl, fun _ => hr, fun _ => takes_of rfl rfl rfl rfl, fun _ => rfl, fun _ => passes_of rfl, fun _ => rfl, fun _ => rfl, S.nd⟩
  exact ⟨t, h1 (), h2⟩
end PL
namespace PL
open PySem L2 PySem.Spec PyProof.Rows
section
variable {X : Cx} {CX : CXT} {k : Nat} {f C : Addr} {fd : FuncData} {ps : List Str} {sp : Sp} {E : L2.St → XK} {x m : Str} {p pos apos : Pos} {e o : Expr} {es : List Expr} {ta : TE} {t : TA}
theorem run_makeS {pins : List (Addr × Obj)} {σ : L2.St} {H : Hp} {s : Shared} {Q : VK} {us : List Value} {vs : List V} (M : Mk X.K C f) (F : FnOk X.prog X.w X.K X.mg X.base CX k f fd ps sp) (hr : Room (k + 1) X.A) (hb : Binds X.K fd ps [])
  (hx : PassesAt CX X σ (E σ)) (I : Inv X pins σ H s) (r : Vals vs us)
  (h : ∀ x dx, H x = none → H dx = none → dx ≠ x → sp (.ref x :: vs) (upd (upd H dx (.own x)) x (.ins C dx [])) (fun v H2 => v = .non ∧ Q (.ref x) H2) (E σ)) :
  wpAny (model X.prog X.w) X.A (call (.ref C) us) (EP X pins σ Q) X.xe s := by
 have hq := h (s.heap.objs.size + 1) s.heap.objs.size (I.hok.fresh (Nat.le_succ _)) (I.hok.fresh (Nat.le_refl _)) (Nat.ne_of_lt (Nat.lt_succ_self _))
 have I2 := Inv.made (C := C) I
 have r2 : Vals (V.ref (s.heap.objs.size + 1) :: vs) (Value.ref (s.heap.objs.size + 1) :: us) := .cons rfl r
 have hl : (Value.ref (s.heap.objs.size + 1) :: us ++ []).length = ps.length := by
  have e := r2.length
  rw [F.len _ _ _ _ hq] at e
  rw [List.append_nil]
  exact e.symm
 have hb2 := hb _ (Value.ref (s.heap.objs.size + 1) :: us) I2.kIn hl
 rw [List.append_nil] at hb2
 refine wpAny_call (make_map (f := f) I.kIn M.makes M.init (beq_iff_eq.mp M.fn) (codeAny_mono (F.run _ X.stack _ _ ⟨Value.ref (s.heap.objs.size + 1) :: us, []⟩ (Value.ref (s.heap.objs.size + 1) :: us) _ _ (E σ) (hr.make C us [])
  (I2.env0.make C us []) hb2 r2 hq) fun r s' hq' => ?_))
 cases r with
 | error e => exact hx pins _ _ e s' I2 hq'
 | ok fl =>
  cases fl with
  | ret u =>
   obtain ⟨v, H', I3, rv, ev, q3⟩ := I2.after hq'
   subst ev
   exact ⟨rv, ⟨V.ref (s.heap.objs.size + 1), H', I3, rfl, q3⟩⟩
  | next => exact False.elim hq'
  | brk => exact False.elim hq'
  | cont => exact False.elim hq'
def tMakeS (C : Addr) (sp : Sp) (E : L2.St → XK) (t : TA) : TE := fun σ H Q => t σ H fun vs H1 => ∀ x dx, H1 x = none → H1 dx = none → dx ≠ x →
 sp (.ref x :: vs) (upd (upd H1 dx (.own x)) x (.ins C dx [])) (fun v H2 => v = .non ∧ Q (.ref x) H2) (E σ)
theorem pe_makeS (M : Mk X.K C f) (F : FnOk X.prog X.w X.K X.mg X.base CX k f fd ps sp) (hr : Room (k + 1) X.A) (hg : Gl X x) (hm : X.mg x = some (.ref C)) (hb : Binds X.K fd ps []) (hx : ∀ σ, PassesAt CX X σ (E σ))
  (ha : PA X (e :: es) t) (hdb : (x == ("__debug__" : Str)) = false := by decide) (he : starEach (e :: es) X.env = (false, eval e X.env) :: starEach es X.env := by rfl) (hpl : (backTo pos (starEach es X.env)).any (·.1) = false := by rfl) :
  PE X (.Call (.Name x p) (e :: es) [] pos) (tMakeS C sp E t) := by
 refine ⟨fun pins s σ H Q I h => ?_⟩
 refine wpAny_Call_Name_kw (ld_glob I hg hm ?_ hdb)
 refine PySem.W.callWith_K (h₀ := X.base) I.ok.mod.kin M.kp (thn (ha.run pos pins s σ H _ I h) fun us s1 ⟨vs, H1, I1, r, q⟩ => ⟨I1.kIn, ?_⟩) he hpl
 exact run_makeS M F hr hb (hx σ) I1 r q
end
def putG {α : Type} (f : Str) (v : α) : List (Str × α) → List (Str × α)
 | [] => [(f, v)]
 | (g, x) :: r => if g = f then (g, v) :: r else (g, x) :: putG f v r
theorem isf_put {K : PySem.W.Frag} {C : Hp} {f : Str} {d : D} {v : V} (h : Is K C d v) : ∀ {fs : List (Str × D)} {gs : List (Str × V)}, Isf K C fs gs → Isf K C (putG f d fs) (L2.putF f v gs)
 | [], gs, i => by rw [isf_nil_iff.mp i]; exact yba h kbn
 | (g, x) :: r, gs, i => by
  obtain ⟨y, t, rfl, h1, h2⟩ := isf_cons_iff.mp i
  unfold putG L2.putF
  by_cases c : g = f
  ·rw [if_pos c, if_pos c]; exact yba h h2
  ·rw [if_neg c, if_neg c]; exact yba h1 (isf_put h h2)
theorem zaz {K : PySem.W.Frag} {C : Hp} : ∀ {fs : List (Str × D)} {gs : List (Str × V)}, Isf K C fs gs → gs.length = fs.length
 | [], gs, i => by rw [isf_nil_iff.mp i]; rfl
 | (g, x) :: r, gs, i => by
  obtain ⟨y, t, rfl, h1, h2⟩ := isf_cons_iff.mp i
  rw [List.length_cons, List.length_cons, zaz h2]
def fldD (cs : List Addr) (f : Str) : D → Option Rv
 | .obj c fs => if cs.contains c = true then (match fs.lookup f with
  | some d => some (.dat d)
  | none => none) else none
 | _ => none
section
variable {K : PySem.W.Frag}
theorem ok_fld {cs : List Addr} {f : Str} (hc : ∀ c, cs.contains c = true → Cls K c ∧ NoAttr K c f) : R1Ok K (fun x H Q => ∃ a C dx fs v, x = .ref a ∧ H a = some (.ins C dx fs) ∧ Cls K C ∧ NoAttr K C f ∧ fs.lookup f = some v ∧ Q v H) (fldD cs f) := by
 intro C H e dx x rv Q h hx g
 unfold fldD at h
 split at h
 ·rename_i c fs
  obtain ⟨a, dx, gs, rfl, h1, h2⟩ := pk_obj e hx
  by_cases q : cs.contains c = true
  ·rw [if_pos q] at h
   cases q2 : fs.lookup f with
   | none => rw [q2] at h; cases h
   | some d =>
    rw [q2] at h
    cases h
    obtain ⟨v, h3, h4⟩ := Isf.lookup h2 q2
    exact ⟨a, c, dx, gs, v, rfl, h1, (hc c q).1, (hc c q).2, h3, g.same e h4⟩
  ·rw [if_neg q] at h; cases h
 ·cases h
end
section
variable {ι : Type} {X : ι → Cx} {P : Program} {w : World} {K : PySem.W.Frag} {mg : Str → Option Value} {base : Heap} {k : Nat} {W : WX} {N : List Str} {sc : Scope} {e : Expr} {pos : Pos} {fe : PL.P Rv} {f : Str}
theorem qe {cs : List Addr} (B : CtxOk X P w K mg base k W N sc) (hc : ∀ c, cs.contains c = true → Cls K c ∧ NoAttr K c f) (he : BE X K W e fe) (hb : ∀ i, attributeBase e f (X i).env (eval e (X i).env) = eval e (X i).env := by intro _; rfl) : BE X K W (.Attribute e f pos) (fUn (fldD cs f) fe) := by
 obtain ⟨t, p, s⟩ := he
 exact ⟨_, fun i => by have := @pe_fld (X i) e f pos t (p i) (hb i); rw [B.pK i] at this; exact this, sd_un (ok_fld hc) s⟩
theorem bs_never {fx : List Nat} {st : Stmt} : BS X K W fx st PL.P.fail := ⟨tNever, fun i => ps_never, fun σ C H ρ out D e h => by cases h⟩
end
def ownO (i : Nat) {α : Type} (k : Addr → List (Str × D) → PL.P α) : PL.P α := fun ρ => match ρ[i]? with
 | some (.own (.ob c fs)) => k c fs ρ
 | _ => none
def setO (i : Nat) {α : Type} (c : Addr) (fs : List (Str × D)) (a : α) : PL.P α := fun ρ => some (.ok a (ρ.set i (.own (.ob c fs))))
def jas (cs : List Addr) (i : Nat) (f : Str) (fe : PL.P Rv) : PL.P Fl := (yj fe).bind fun d => ownO i fun c fs => if cs.contains c = true ∧ fs.length < 1000 then setO i c (putG f d fs) .next else PL.P.fail
section
variable {K : PySem.W.Frag} {W : WX} {fx : List Nat}
theorem ss_setF {cs : List Addr} {i : Nat} {f : Str} {te : TE} {fe : PL.P Rv} (hc : ∀ c, cs.contains c = true → Cls K c ∧ NoAttr K c f) (he : Sd K W (VRel K) te fe) : SdS K W fx (sFld K (tVar i) te f) (jas cs i f fe) := by
 intro σ C H ρ out D e ho m
 refine yl (kj he) e ho m fun d ρ1 y C1 H1 p r z => ?_
 unfold ownO at z
 cases q : ρ1[i]? with
 | none => rw [q] at z; cases z
 | some c =>
  rw [q] at z
  cases c with
  | no => cases z
  | dat d => cases z
  | own mm =>
   cases mm with
   | lst ds => cases z
   | dk kvs => cases z
   | dt kvs => cases z
   | dn _ _ _ => cases z
   | ob c fs =>
    dsimp only at z
    by_cases g : cs.contains c = true ∧ fs.length < 1000
    ·rw [if_pos g] at z
     cases z
     obtain ⟨a, o, h1, h2, h3, dx, gs, rfl, h4⟩ := jk p.env q
     refine ⟨.ref a, h1, a, c, dx, gs, rfl, h3, (hc c g.1).1, (hc c g.1).2, by rw [zaz h4]; exact g.2, ?_⟩
     exact m σ C1 _ ((PostS.of p).trans (PostS.of (qh (m' := .ob c (putG f d fs)) p.env q h1 ⟨dx, _, rfl, isf_put r h4⟩)))
    ·rw [if_neg g] at z; cases z
end
section
variable {ι : Type} {X : ι → Cx} {P : Program} {w : World} {K : PySem.W.Frag} {mg : Str → Option Value} {base : Heap} {k : Nat} {W : WX} {N : List Str} {sc : Scope} {e : Expr} {pos p p2 : Pos} {fe : PL.P Rv} {f x : Str} {fx : List Nat}
theorem q8 {cs : List Addr} (B : CtxOk X P w K mg base k W N sc) (n : Nat) (hc : ∀ c, cs.contains c = true → Cls K c ∧ NoAttr K c f) (he : BE X K W e fe) (hN : N[n]? = some x := by rfl) (hv : Vis sc x := by first | exact Or.inl rfl | exact Or.inr (Or.inl rfl) | exact Or.inr (Or.inr rfl)) (hd : (x == ("__debug__" : Str)) = false := by decide)
  (hcd : (x == ("__classdict__" : Str)) = false := by decide) (hs : ∀ i, swapsWith e (some (.Attribute (.Name x p) f p2)) pos.line (X i).env = pure false := by intro _; rfl) : BS X K W fx (.Assign [.Attribute (.Name x p) f p2] e pos) (jas cs n f fe) := by
 obtain ⟨t, q, s⟩ := he
 exact ⟨_, fun i => by have := @ps_fld (X i) (.Name x p) e f pos p2 _ _ (pe_var (B.at_ hN i) (B.vis hv i) hd hcd) (q i) (hs i); rw [B.pK i] at this; exact this, ss_setF hc s⟩
end
def made (n : Nat) (C : Addr) (F : PL.P Rv) (ds : List D) : PL.P Rv := fun ρ => if ds.length = n then (match F (.own (.ob C []) :: ds.map .dat) with
 | some (.ok (.dat (.s .non)) (.own (.ob c fs) :: _)) => some (.ok (.new (.ob c fs)) ρ)
 | some (.ex e _) => some (.ex e ρ)
 | _ => none) else none
def fMake (n : Nat) (C : Addr) (F : PL.P Rv) (g : PL.P (List D)) : PL.P Rv := g.bind (made n C F)
section
variable {K : PySem.W.Frag} {W : WX}
theorem EnvOk.making {C0 H : Hp} {C x dx : Addr} {vs : List V} {ds : List D} (tb : ∀ P, TabP K P → TS1 H P) (ec : Ex C0 H) (h : Iss K C0 ds vs) (hx : H x = none) (hdx : H dx = none) (hne : dx ≠ x) :
  EnvOk K C0 (upd (upd H dx (.own x)) x (.ins C dx [])) ((V.ref x :: vs).map some) (.own (.ob C []) :: ds.map .dat) := by
 have e2 : Ex C0 (upd (upd H dx (.own x)) x (.ins C dx [])) := ec.trans ((Ex.new hdx).trans (Ex.new (by rw [upd_ne (Ne.symm hne)]; exact hx)))
 refine ⟨by simp [h.length], e2, fun i c q => ?_, fun i j m m' a q1 q2 => ?_, fun P hP => xu (xaf (tb P hP) hdx) fun u z => by rw [upd_ne (Ne.symm hne), hx] at z; cases z⟩
 ·cases i with
  | zero =>
   have q : Cell.own (.ob C []) = c := by simpa using q
   subst q
   refine ⟨some (.ref x), by simp, x, _, rfl, ?_, upd_same, dx, [], rfl, kbn⟩
   cases z : C0 x with
   | none => rfl
   | some o => have := ec.2 x hx; rw [z] at this; cases this
  | succ i =>
   have q : (ds.map Cell.dat)[i]? = some c := by simpa using q
   rw [List.getElem?_map] at q
   cases z : ds[i]? with
   | none => rw [z] at q; cases q
   | some d =>
    rw [z] at q
    cases q
    obtain ⟨v, h1, h2⟩ := h.get z
    exact ⟨some v, by simp [h1], v, rfl, h2⟩
 ·have only : ∀ (i : Nat) (m : M), (Cell.own (.ob C []) :: ds.map .dat)[i]? = some (.own m) → i = 0 := fun i m q => by
   cases i with
   | zero => rfl
   | succ i =>
    have q : (ds.map Cell.dat)[i]? = some (.own m) := by simpa using q
    rw [List.getElem?_map] at q
    cases z : ds[i]? with
    | none => rw [z] at q; cases q
    | some d => rw [z] at q; cases q
  intro _ _
  rw [only i m q1, only j m' q2]
theorem sd_make {n : Nat} {C : Addr} {F : PL.P Rv} {t : TA} {g : PL.P (List D)} (hg : Sd K W (xak K) t g) : Sd K W (VRel K) (tMakeS C (spF K (n + 1) F) (WE W) t) (fMake n C F g) := by
 intro σ C0 H ρ e
 show At K W (VRel K H) σ C0 H ρ (fun H Q => t σ H fun vs H1 => ∀ x dx, H1 x = none → H1 dx = none → dx ≠ x → spF K (n + 1) F (.ref x :: vs) (upd (upd H1 dx (.own x)) x (.ins C dx [])) (fun v H2 => v = .non ∧ Q (.ref x) H2) (WE W σ)) (jd (g ρ) (made n C F))
 refine At.bind (tk := fun (vs : List V) (H1 : Hp) (Q : VK) => ∀ x dx, H1 x = none → H1 dx = none → dx ≠ x → spF K (n + 1) F (.ref x :: vs) (upd (upd H1 dx (.own x)) x (.ins C dx [])) (fun v H2 => v = .non ∧ Q (.ref x) H2) (WE W σ)) (hg σ C0 H ρ e) fun ds ρ1 vs C1 H1 p1 r1 => ?_
 intro out Q ho hok hex x dx hx hdx hne
 have r1 : Iss K C1 ds vs := r1
 unfold made at ho
 by_cases hn : ds.length = n
 ·rw [if_pos hn] at ho
  have ee := EnvOk.making (C := C) p1.env.tab p1.env.ext r1 hx hdx hne
  -- what stays
  have own0 : ∀ (b : Addr), qd ((V.ref x :: vs).map some) (.own (.ob C []) :: ds.map .dat) b → b = x := fun b ⟨i, m, q1, q2⟩ => by
   cases i with
   | zero => simpa using q2.symm
   | succ i =>
    have q : (ds.map Cell.dat)[i]? = some (.own m) := by simpa using q1
    rw [List.getElem?_map] at q
    cases z : ds[i]? with
    | none => rw [z] at q; cases q
    | some d => rw [z] at q; cases q
  have st : ∀ {C' H' : Hp}, Step C1 (upd (upd H1 dx (.own x)) x (.ins C dx [])) C' H' (qd ((V.ref x :: vs).map some) (.own (.ob C []) :: ds.map .dat)) → Step C1 H1 C' H' (fun _ => False) := fun {C' H'} s => by
   refine ⟨s.core, s.ext, fun b o hb nt _ => ?_, fun b h1 h2 => ?_, fun b h => ?_, fun P h => s.tabs P (xu (xaf h hdx) fun u z => by rw [upd_ne (Ne.symm hne), hx] at z; cases z)⟩
   ·have n1 : b ≠ x := fun z => by rw [z, hx] at hb; cases hb
    have n2 : b ≠ dx := fun z => by rw [z, hdx] at hb; cases hb
    exact s.keep b o (by rw [upd_ne n1, upd_ne n2]; exact hb) nt fun z => n1 (own0 b z)
   ·rcases s.new b h1 h2 with z | z
    ·by_cases n1 : b = x
     ·exact .inl (by rw [n1]; exact hx)
     ·by_cases n2 : b = dx
      ·exact .inl (by rw [n2]; exact hdx)
      ·rw [upd_ne n1, upd_ne n2] at z; exact .inl z
    ·exact .inl (by rw [own0 b z]; exact hx)
   ·have z := s.dom b h
    by_cases n1 : b = x
    ·rw [n1]; exact hx
    ·by_cases n2 : b = dx
     ·rw [n2]; exact hdx
     ·rw [upd_ne n1, upd_ne n2] at z; exact z
  cases q : F (.own (.ob C []) :: ds.map .dat) with
  | none => rw [q] at ho; cases ho
  | some o =>
   rw [q] at ho
   refine ⟨by simp [r1.length, hn], C1, _, o, ee, q, fun r cs' z => ?_, fun x2 cs' z d C' H' p k => ?_⟩
   ·subst z
    match r, cs', ho with
    | .dat (.s .non), .own (.ob c fs) :: rest, ho =>
     have ho : some (Out.ok (Rv.new (.ob c fs)) ρ1) = some out := ho
     cases ho
     refine ⟨rfl, fun v C' H' p k => ⟨is_s_iff.mp (show Is K C' (.s .non) v from k), ?_⟩⟩
     obtain ⟨u, hu, a, o, h1, h2, h3, h4⟩ := p.env.cell 0 _ rfl
     have hu : some (V.ref x) = u := by simpa using hu
     subst hu
     cases h1
     refine hok _ _ rfl (.ref x) C' H' (Post.of_step p1.env (st p.step)) ⟨x, o, rfl, h2, h3, h4, fun ⟨i, m, z1, z2⟩ => ?_, p1.step.dom x hx⟩
     obtain ⟨b, o', y1, y2, y3, y4⟩ := jk p1.env z1
     rw [z2] at y1; cases y1
     rw [hx] at y3; cases y3
   ·subst z
    have ho : some (Out.ex x2 ρ1) = some out := ho
    cases ho
    exact hex x2 _ rfl d C' H' (Post.of_step p1.env (st p.step)) k
 ·rw [if_neg hn] at ho; cases ho
end
structure va2 (P : Program) (w : World) (K : PySem.W.Frag) (mg : Str → Option Value) (base : Heap) (k : Nat) (m : Str) (n : Nat) (a : Addr × PL.P Rv) : Prop where
 cls : Cls K a.1
 ex : ∃ (f : Addr) (fd : FuncData) (ps : List Str), FnOk P w K mg base (L2.CX P w) k f fd ps (spF K n a.2) ∧ Meth K a.1 m f ∧ Binds K fd ps []
 rv : ∀ cs r cs', a.2 cs = some (.ok r cs') → rvD r = true
def tMX (K : PySem.W.Frag) (m : Str) (n : Nat) (alts : List (Addr × PL.P Rv)) (E : L2.St → XK) (ta : TE) (t : TA) : TE := fun σ H Q => ta σ H fun x H1 => ∃ b ∈ alts, ∃ a dx fs, x = .ref a ∧ H1 a = some (.ins b.1 dx fs) ∧ fs.lookup m = none ∧
 t σ H1 fun vs H2 => spF K n b.2 (x :: vs) H2 Q (E σ)
section
variable {X : Cx} {W : WX} {k n : Nat} {m : Str} {alts : List (Addr × PL.P Rv)} {p pos apos : Pos} {e o : Expr} {es : List Expr} {ta : TE} {t : TA}
theorem pe_methX {pl : Sem Bool} (he : PE X o ta) (hA : ∀ b ∈ alts, va2 X.prog X.w X.K X.mg X.base k m n b) (hr : Room k X.A) (tk : Takes X W) (ha : PA X (e :: es) t)
  (hst : starEach (e :: es) X.env = (false, eval e X.env) :: starEach es X.env) (hpl : (backTo pos (starEach es X.env)).any (·.1) = false)
  (ht : eval (.Call (.Attribute o m apos) (e :: es) [] pos) X.env = (do
   let ov ← eval o X.env
   standAt apos.atName
   let (f, first) ← holding [ov] (getMethod ov m pl)
   callWith pos f first (backTo pos (starEach (e :: es) X.env)) (backToKw pos (keywordEach [] X.env)))) :
  PE X (.Call (.Attribute o m apos) (e :: es) [] pos) (tMX X.K m n alts (WE W) ta t) := by
 refine ⟨fun pins s σ H Q I h => ?_⟩
 refine PySem.W.methodCall_KW (pl := pl) (thn (he.run pins s σ H _ I h) fun u s1 ⟨x, H1, I1, rx, b, hb, a, dx, fs, ex, ea, l, q⟩ => ?_) ht
 subst ex
 obtain rfl : u = Value.ref a := rx
 obtain ⟨f, fd, ps, F, hm, bi⟩ := (hA b hb).ex
 refine getmeth_ok I1 ea (hA b hb).cls hm l ?_
 refine PySem.W.callWith_K (first := [.ref a]) (h₀ := X.base) I.ok.mod.kin hm.kp (thn (ha.run pos pins s1 σ H1 _ I1 q) fun us s2 ⟨vs, H2, I2, r, q2⟩ => ⟨I2.kIn, ?_⟩) hst hpl
 exact run_fnS (us := .ref a :: us) (vs := .ref a :: vs) F hr bi (passAt tk σ) I2 (.cons rfl r) q2
end
def altF (alts : List (Addr × PL.P Rv)) (c : Addr) : Option (PL.P Rv) := match alts.find? (fun b => b.1 == c) with
 | some b => some b.2
 | none => none
theorem altF_mem {alts : List (Addr × PL.P Rv)} {c : Addr} {F : PL.P Rv} (h : altF alts c = some F) : (c, F) ∈ alts := by
 unfold altF at h
 cases q : alts.find? (fun b => b.1 == c) with
 | none => rw [q] at h; cases h
 | some b =>
  rw [q] at h
  cases h
  have h1 := List.mem_of_find?_eq_some q
  have h2 := List.find?_some q
  have h3 : b.1 = c := by simpa using h2
  rw [← h3]
  exact h1
def fMeth (m : Str) (n : Nat) (alts : List (Addr × PL.P Rv)) (fo : PL.P Rv) (ga : PL.P (List Arg)) : PL.P Rv := (yj fo).bind fun d => match d with
 | .obj c fs => if (match fs.lookup m with | none => true | some _ => false) = true then (match altF alts c with
  | some F => ga.bind fun as => jx n F (.inl (.obj c fs) :: as)
  | none => PL.P.fail) else PL.P.fail
 | _ => PL.P.fail
theorem qv {K : PySem.W.Frag} {C : Hp} {m : Str} : ∀ {fs : List (Str × D)} {gs : List (Str × V)}, Isf K C fs gs → fs.lookup m = none → gs.lookup m = none
 | [], gs, i, h => by rw [isf_nil_iff.mp i]; rfl
 | (g, x) :: r, gs, i, h => by
  obtain ⟨y, t, rfl, h1, h2⟩ := isf_cons_iff.mp i
  rw [List.lookup_cons] at h ⊢
  cases q : m == g with
  | true => rw [q] at h; cases h
  | false => rw [q] at h; exact qv h2 h
section
variable {K : PySem.W.Frag} {W : WX}
theorem sd_meth {m : Str} {n : Nat} {alts : List (Addr × PL.P Rv)} {to : TE} {t : TA} {fo : PL.P Rv} {ga : PL.P (List Arg)} (hrv : ∀ b ∈ alts, ∀ cs r cs', b.2 cs = some (.ok r cs') → rvD r = true) (ho : Sd K W (VRel K) to fo) (hg : Sd K W (ARel K) t ga) :
  Sd K W (VRel K) (tMX K m n alts (WE W) to t) (fMeth m n alts fo ga) := by
 intro σ C H ρ e
 show At K W (VRel K H) σ C H ρ (fun H Q => to σ H fun x H1 => ∃ b ∈ alts, ∃ a dx fs, x = .ref a ∧ H1 a = some (.ins b.1 dx fs) ∧ fs.lookup m = none ∧ t σ H1 fun vs H2 => spF K n b.2 (x :: vs) H2 Q (WE W σ)) (jd (yj fo ρ) _)
 refine At.bind (tk := fun (x : V) (H1 : Hp) (Q : VK) => ∃ b ∈ alts, ∃ a dx fs, x = .ref a ∧ H1 a = some (.ins b.1 dx fs) ∧ fs.lookup m = none ∧ t σ H1 fun vs H2 => spF K n b.2 (x :: vs) H2 Q (WE W σ)) (kj ho σ C H ρ e) fun d ρ1 x C1 H1 p1 r1 => ?_
 have r1 : Is K C1 d x := r1
 cases d with
 | obj c fs =>
  dsimp only
  obtain ⟨a, dx, gs, rfl, h1, h2⟩ := is_obj_iff.mp r1
  cases q0 : fs.lookup m with
  | some z => simp only [q0]; exact At.nil
  | none =>
   simp only [q0, if_true]
   cases q : altF alts c with
   | none => exact At.nil
   | some F =>
    have hm := altF_mem q
    refine At.imp (t := fun H1 Q => t σ H1 fun vs H2 => spF K n F (V.ref a :: vs) H2 Q (WE W σ)) ?_ fun Q h => ⟨(c, F), hm, a, dx, gs, rfl, p1.env.ext.1 _ _ h1 nt_ins, qv h2 q0, h⟩
    refine At.bind (tk := fun (vs : List V) (H2 : Hp) (Q : VK) => spF K n F (V.ref a :: vs) H2 Q (WE W σ)) (hg σ C1 H1 ρ1 p1.env) fun as ρ2 vs C2 H2 p2 r2 => ?_
    exact jbe p2.env (as := .inl (.obj c fs) :: as) (vs := V.ref a :: vs) ⟨V.ref a, vs, rfl, Is.mono p2.step.core _ _ r1, r2⟩ (fun b h => p1.step.dom b (p2.step.dom b h)) (hrv _ hm)
 | _ => exact At.nil
end
end PL
namespace PL
open PySem L2 PySem.Spec PyProof.Rows PySem.W
structure Bare (K : PySem.W.Frag) (C : Addr) : Prop where
 makes : PySem.W.makesIn K C = true
 init : PySem.W.findIn K (.ref C) "__init__" = some (some (.builtin "object.__init__"))
 top : PySem.W.mroIn K C (.type "object") = some true
 kp : PySem.W.keepIn K (.ref C) = true
def tBare (C : Addr) : TE := fun σ H Q => ∀ x dx, H x = none → H dx = none → dx ≠ x → Q (.ref x) (upd (upd H dx (.own x)) x (.ins C dx []))
section
variable {X : Cx} {C : Addr} {x : Str} {p pos : Pos}
theorem pe_bare (M : Bare X.K C) (hg : Gl X x) (hm : X.mg x = some (.ref C)) (hdb : (x == ("__debug__" : Str)) = false := by decide) : PE X (.Call (.Name x p) [] [] pos) (tBare C) := by
 refine ⟨fun pins s σ H Q I h => ?_⟩
 refine wpAny_Call_Name_kw (ld_glob I hg hm ?_ hdb)
 refine PySem.W.callWith_K0 I.kIn M.kp ?_
 have hq := h (s.heap.objs.size + 1) s.heap.objs.size (I.hok.fresh (Nat.le_succ _)) (I.hok.fresh (Nat.le_refl _)) (Nat.ne_of_lt (Nat.lt_succ_self _))
 have I2 := Inv.made (C := C) I
 refine wpAny_call (make_map0 I.kIn M.makes M.init (fun self => Looks.of_pure (oi_bind _)) ?_)
 have ho : Heap.get? ((s.heap.push PySem.W.emptyDict).push (PySem.W.instObj C s.heap.objs.size)) (s.heap.objs.size + 1) = some (PySem.W.instObj C s.heap.objs.size) := by
  have := Heap.get?_push_size (s.heap.push PySem.W.emptyDict) (o := PySem.W.instObj C s.heap.objs.size) rfl
  rwa [Heap.size_push] at this
 have t1 : Looks (model X.prog X.w) ((s.heap.push PySem.W.emptyDict).push (PySem.W.instObj C s.heap.objs.size)) (typeOf (.ref (s.heap.objs.size + 1))) (.ref C) := (Looks.ld ho).andThen .now
 have t2 : Looks (model X.prog X.w) ((s.heap.push PySem.W.emptyDict).push (PySem.W.instObj C s.heap.objs.size)) (isInstance (.ref (s.heap.objs.size + 1)) (.type "object")) true := t1.andThen (looks_mroIn I2.kIn M.top)
 refine codeAny_call_builtin oi_plain entry_oi (@check_slot (model X.prog X.w) _ _ _ "object.__init__" "object" "__init__" (.ref (s.heap.objs.size + 1)) [] [] _ oi_kind oi_split t2 (NwA.oi_args_any (.ref (s.heap.objs.size + 1)) [] []) ?_)
 rw [oi_run]
 refine wpAny_pure ?_
 exact And.intro rfl ⟨V.ref (s.heap.objs.size + 1), _, I2, rfl, hq⟩
end
def fBare (C : Addr) : PL.P Rv := fun ρ => some (.ok (.new (.ob C [])) ρ)
section
variable {K : PySem.W.Frag} {W : WX}
theorem sd_bare {C : Addr} : Sd K W (VRel K) (tBare C) (fBare C) := by
 intro σ C0 H ρ e out Q ho hok hex x dx hx hdx hne
 cases ho
 have hx2 : upd H dx (.own x) x = none := by rw [upd_ne (Ne.symm hne)]; exact hx
 have s1 : Step C0 H C0 (upd H dx (.own x)) (fun _ => False) := Step.newM e.ext hdx
 have s2 : Step C0 (upd H dx (.own x)) C0 (upd (upd H dx (.own x)) x (.ins C dx [])) (fun _ => False) := Step.newM s1.ext hx2
 have s := s1.trans s2 fun _ z => z.elim
 refine hok _ _ rfl (.ref x) C0 _ (Post.of_step e s) ⟨x, _, rfl, e.ext.none hx, upd_same, ⟨dx, [], rfl, kbn⟩, fun ⟨i, m, z1, z2⟩ => ?_, hx⟩
 obtain ⟨b, o', y1, y2, y3, y4⟩ := jk e z1
 rw [z2] at y1; cases y1
 rw [hx] at y3; cases y3
end
structure ybk (P : Program) (w : World) (K : PySem.W.Frag) (mg : Str → Option Value) (base : Heap) (k : Nat) (x : Str) (n : Nat) (C : Addr) (F : PL.P Rv) : Prop where
 ex : ∃ (f : Addr) (fd : FuncData) (ps : List Str), FnOk P w K mg base (L2.CX P w) k f fd ps (spF K (n + 1) F) ∧ Mk K C f ∧ mg x = some (.ref C) ∧ Binds K fd ps []
section
variable {ι : Type} {X : ι → Cx} {P : Program} {w : World} {K : PySem.W.Frag} {mg : Str → Option Value} {base : Heap} {k : Nat} {W : WX} {N : List Str} {sc : Scope}
variable {a b c e o : Expr} {es : List Expr} {pos p p2 apos tpos : Pos} {x m : Str} {fa fb fc fe fo : PL.P Rv} {gd : PL.P (List D)} {ga : PL.P (List Arg)}
theorem pe_makeE {X : Cx} {f C : Addr} {fd : FuncData} {ps : List Str} {sp : Sp} {t : TA} (h1 : X.prog = P) (h2 : X.w = w) (h3 : X.K = K) (h4 : X.mg = mg) (h5 : X.base = base) (tk : Takes X W) (M : Mk K C f) (F : FnOk P w K mg base (L2.CX P w) k f fd ps sp) (hr : Room (k + 1) X.A) (hg : Gl X x) (hm : mg x = some (.ref C))
  (hb : Binds K fd ps []) (ha : PA X (e :: es) t) (hdb : (x == ("__debug__" : Str)) = false) (he : starEach (e :: es) X.env = (false, eval e X.env) :: starEach es X.env) (hpl : (backTo pos (starEach es X.env)).any (·.1) = false) :
  PE X (.Call (.Name x p) (e :: es) [] pos) (tMakeS C sp (WE W) t) := by
 subst h1 h2 h3 h4 h5
 exact pe_makeS M F hr hg hm hb (fun σ => passAt tk σ) ha hdb he hpl
theorem be_make {n : Nat} {C : Addr} {F : PL.P Rv} (B : CtxOk X P w K mg base (k + 1) W N sc) (hF : ybk P w K mg base k x n C F) (ha : BAd X K W (e :: es) gd) (hg : sc.names.lookup x = some .globalImplicit := by rfl) (hdb : (x == ("__debug__" : Str)) = false := by decide)
  (he : ∀ i, starEach (e :: es) (X i).env = (false, eval e (X i).env) :: starEach es (X i).env := by intro _; rfl) (hpl : ∀ i, (backTo pos (starEach es (X i).env)).any (·.1) = false := by intro _; rfl) : BE X K W (.Call (.Name x p) (e :: es) [] pos) (fMake n C F gd) := by
 obtain ⟨ta, pa, sa⟩ := ha
 obtain ⟨f, fd, ps, h1, h2, h3, h4⟩ := hF.ex
 exact ⟨_, fun i => pe_makeE (B.pP i) (B.pw i) (B.pK i) (B.pm i) (B.pb i) (B.tk i) h2 h1 (B.room i) (B.gl hg i) h3 h4 (pa i) hdb (he i) (hpl i), sd_make sa⟩
theorem be_bare {C : Addr} (B : CtxOk X P w K mg base k W N sc) (M : Bare K C) (hm : mg x = some (.ref C)) (hg : sc.names.lookup x = some .globalImplicit := by rfl) (hdb : (x == ("__debug__" : Str)) = false := by decide) : BE X K W (.Call (.Name x p) [] [] pos) (fBare C) :=
 ⟨_, fun i => pe_bare (by rw [B.pK i]; exact M) (B.gl hg i) (by rw [B.pm i]; exact hm) hdb, sd_bare⟩
theorem pe_methE' {X : Cx} {n : Nat} {alts : List (Addr × PL.P Rv)} {ta : TE} {t : TA} {pl : Sem Bool} (h1 : X.prog = P) (h2 : X.w = w) (h3 : X.K = K) (h4 : X.mg = mg) (h5 : X.base = base) (he : PE X o ta) (hA : ∀ b ∈ alts, va2 P w K mg base k m n b) (hr : Room k X.A) (tk : Takes X W) (ha : PA X (e :: es) t)
  (hst : starEach (e :: es) X.env = (false, eval e X.env) :: starEach es X.env) (hpl : (backTo pos (starEach es X.env)).any (·.1) = false)
  (ht : eval (.Call (.Attribute o m apos) (e :: es) [] pos) X.env = (do
   let ov ← eval o X.env
   standAt apos.atName
   let (f, first) ← holding [ov] (getMethod ov m pl)
   callWith pos f first (backTo pos (starEach (e :: es) X.env)) (backToKw pos (keywordEach [] X.env)))) :
  PE X (.Call (.Attribute o m apos) (e :: es) [] pos) (tMX K m n alts (WE W) ta t) := by
 subst h1 h2 h3 h4 h5
 exact pe_methX he hA hr tk ha hst hpl ht
theorem be_meth {n : Nat} {alts : List (Addr × PL.P Rv)} {pl : ι → Sem Bool} (B : CtxOk X P w K mg base k W N sc) (hA : ∀ b ∈ alts, va2 P w K mg base k m n b) (ho : BE X K W o fo) (ha : BAa X K W (e :: es) ga)
  (hst : ∀ i, starEach (e :: es) (X i).env = (false, eval e (X i).env) :: starEach es (X i).env := by intro _; rfl) (hpl : ∀ i, (backTo pos (starEach es (X i).env)).any (·.1) = false := by intro _; rfl)
  (ht : ∀ i, eval (.Call (.Attribute o m apos) (e :: es) [] pos) (X i).env = (do
   let ov ← eval o (X i).env
   standAt apos.atName
   let (f, first) ← holding [ov] (getMethod ov m (pl i))
   callWith pos f first (backTo pos (starEach (e :: es) (X i).env)) (backToKw pos (keywordEach [] (X i).env))) := by intro _; rfl) :
  BE X K W (.Call (.Attribute o m apos) (e :: es) [] pos) (fMeth m n alts fo ga) := by
 obtain ⟨to, po, so⟩ := ho
 obtain ⟨ta, pa, sa⟩ := ha
 exact ⟨_, fun i => pe_methE' (B.pP i) (B.pw i) (B.pK i) (B.pm i) (B.pb i) (po i) hA (B.room i) (B.tk i) (pa i) (hst i) (hpl i) (ht i), sd_meth (fun b hb => (hA b hb).rv) so sa⟩
theorem be_cls {C : Addr} (B : CtxOk X P w K mg base k W N sc) (hm : mg x = some (.ref C)) (hg : sc.names.lookup x = some .globalImplicit := by rfl) (hd : (x == ("__debug__" : Str)) = false := by decide) : BE X K W (.Name x pos) (fC (.s (.ref C))) :=
 be_glob B hm (show RelV (.ref C) (.ref C) from rfl) hg hd
theorem meth_ok {fx : List Nat} {NN ps : List Str} {n : Nat} {qual : Str} {st : Stmt} {f : Addr} {fd : FuncData} {body : PL.P Fl} {C : Addr} (c : Cls K C) (hm : Meth K C m f) (F : Fun K x qual st f fd) (hb : Binds K fd ps []) (S : FnScope NN ps (defScope st)) (hn : ps.length = n) (hN : n ≤ NN.length)
  (hbody : ∀ (cdv : Value) (A : Around) (outer : List PySem.Env) (s : Shared) (H : Hp) (E : XK), CtxOk (fun _ : Unit => cxOf (L2.CX P w) P w K mg base NN qual (defScope st) f cdv A outer s H E) P w K mg base k (WB E) NN (defScope st) →
   BSs (fun _ : Unit => cxOf (L2.CX P w) P w K mg base NN qual (defScope st) f cdv A outer s H E) K (WB E) fx (defBody st) body) : va2 P w K mg base (k + 1) m n (C, runF fx NN.length body) :=
 ⟨c, ⟨f, fd, ps, def_fn F S hn hN hbody, hm, hb⟩, fun cs r cs' => ka7 cs r cs'⟩
end
end PL
namespace PL
open PySem L2
theorem con0 {p : Addr → Prop} : ∀ c, ([] : List Addr).contains c = true → p c := fun c h => by simp at h
theorem con1 {p : Addr → Prop} {a : Addr} {l : List Addr} (h : p a) (t : ∀ c, l.contains c = true → p c) : ∀ c, (a :: l).contains c = true → p c := fun c q => by
 rw [List.contains_cons, Bool.or_eq_true] at q
 rcases q with q | q
 ·rw [beq_iff_eq.mp q]; exact h
 ·exact t c q
section
variable {QR : Rv → En → Prop} {QF : Fl → En → Prop} {QD : D → En → Prop} {E : Exn → En → Prop} {ρ : En}
theorem peek_ob {c : Addr} {fs : List (Str × D)} : peek ρ (.new (.ob c fs)) = some (.obj c fs) := rfl
theorem cdat_ob {c : Addr} {fs : List (Str × D)} : cdat (.own (.ob c fs)) = some (.obj c fs) := rfl
theorem wpG_ob {c : Addr} {fs : List (Str × D)} : wpG ρ (.new (.ob c fs)) QD ↔ QD (.obj c fs) ρ := Iff.rfl
theorem borQ_ob {i : Nat} {c : Addr} {fs : List (Str × D)} : borQ i QD ρ (.own (.ob c fs)) ↔ QD (.obj c fs) (ρ.set i (.dat (.obj c fs))) := Iff.rfl
def obQ (Q : Addr → List (Str × D) → Prop) : Cell → Prop
 | .own (.ob c fs) => Q c fs
 | _ => False
theorem obQ_ob {c : Addr} {fs : List (Str × D)} {Q : Addr → List (Str × D) → Prop} : obQ Q (.own (.ob c fs)) ↔ Q c fs := Iff.rfl
theorem wp_ownO {α : Type} {i : Nat} {k : Addr → List (Str × D) → P α} {Q : α → En → Prop} : wp (ownO i k) Q E ρ ↔ atS ρ i (obQ fun c fs => wp (k c fs) Q E ρ) := by
 unfold wp ownO atS
 cases ρ[i]? with
 | none => exact Iff.rfl
 | some c =>
  cases c with
  | own m => cases m <;> exact Iff.rfl
  | _ => exact Iff.rfl
theorem obQ_congr {c : Cell} {Q1 Q2 : Addr → List (Str × D) → Prop} (h : ∀ a fs, Q1 a fs ↔ Q2 a fs) : obQ Q1 c ↔ obQ Q2 c := by
 cases c with
 | own m => cases m with
  | ob a fs => exact h a fs
  | dk _ => exact Iff.rfl
  | dt _ => exact Iff.rfl
  | dn _ _ _ => exact Iff.rfl
  | lst _ => exact Iff.rfl
 | _ => exact Iff.rfl
theorem wp_setF {cs : List Addr} {i : Nat} {f : Str} {fe : P Rv} : wp (jas cs i f fe) QF E ρ ↔ wp fe (fun v r => wpG r v fun d r2 => atS r2 i (obQ fun c fs => (cs.contains c = true ∧ fs.length < 1000) ∧ QF .next (r2.set i (.own (.ob c (putG f d fs)))))) E ρ := by
 unfold jas
 simp only [wp_bind, wp_grab, wp_ownO]
 refine wb fun v r => x9 fun d r2 => xj fun c => obQ_congr fun a fs => ?_
 by_cases h : cs.contains a = true ∧ fs.length < 1000
 ·rw [if_pos h]; exact ⟨fun q => ⟨h, q⟩, fun q => q.2⟩
 ·rw [if_neg h]; exact ⟨fun q => q.elim, fun q => h q.1⟩
def madeQ (v : Rv) (cs : En) (Q : Addr → List (Str × D) → Prop) : Prop := match v, cs with
 | .dat (.s .non), .own (.ob c fs) :: _ => Q c fs
 | _, _ => False
theorem madeQ_ob {c : Addr} {fs : List (Str × D)} {r : En} {Q : Addr → List (Str × D) → Prop} : madeQ (.dat (.s .non)) (.own (.ob c fs) :: r) Q ↔ Q c fs := Iff.rfl
theorem wp_make {n : Nat} {C : Addr} {F : P Rv} {g : P (List D)} : wp (fMake n C F g) QR E ρ ↔ wp g (fun ds r => ds.length = n ∧ wp F (fun v cs => madeQ v cs fun c fs => QR (.new (.ob c fs)) r) (fun e _ => E e r) (.own (.ob C []) :: ds.map .dat)) E ρ := by
 unfold fMake
 rw [wp_bind]
 refine wb fun ds r => ?_
 unfold wp made
 by_cases h : ds.length = n
 ·rw [if_pos h]
  cases F (.own (.ob C []) :: ds.map .dat) with
  | none => exact ⟨fun q => q.elim, fun q => q.2⟩
  | some o =>
   cases o with
   | ex e _ => exact ⟨fun q => ⟨h, q⟩, fun q => q.2⟩
   | ok v cs =>
    have key : ∀ Z : Prop, (Z ↔ madeQ v cs (fun c fs => QR (.new (.ob c fs)) r)) → (Z ↔ ds.length = n ∧ madeQ v cs (fun c fs => QR (.new (.ob c fs)) r)) := fun Z k => k.trans ⟨fun q => ⟨h, q⟩, fun q => q.2⟩
    refine key _ ?_
    cases v with
    | new m => exact Iff.rfl
    | bor i => exact Iff.rfl
    | dat d =>
     cases d with
     | s x =>
      cases x with
      | non =>
       cases cs with
       | nil => exact Iff.rfl
       | cons c cs =>
        cases c with
        | own m => cases m <;> exact Iff.rfl
        | _ => exact Iff.rfl
      | _ => exact Iff.rfl
     | _ => exact Iff.rfl
 ·rw [if_neg h]; exact ⟨fun q => q.elim, fun q => h q.1⟩
theorem wp_bare {C : Addr} : wp (fBare C) QR E ρ ↔ QR (.new (.ob C [])) ρ := Iff.rfl
def methQ (m : Str) (n : Nat) (alts : List (Addr × P Rv)) (ga : P (List Arg)) (QR : Rv → En → Prop) (E : Exn → En → Prop) (d : D) (r : En) : Prop := match d with
 | .obj c fs => if (match fs.lookup m with | none => true | some _ => false) = true then (match altF alts c with
  | some F => wp ga (fun as r2 => wp (jx n F (.inl (.obj c fs) :: as)) QR E r2) E r
  | none => False) else False
 | _ => False
theorem wp_meth {m : Str} {n : Nat} {alts : List (Addr × P Rv)} {fo : P Rv} {ga : P (List Arg)} : wp (fMeth m n alts fo ga) QR E ρ ↔ wp fo (fun v r => wpG r v fun d r2 => methQ m n alts ga QR E d r2) E ρ := by
 unfold fMeth
 simp only [wp_bind, wp_grab]
 refine wb fun v r => x9 fun d r2 => ?_
 unfold methQ
 cases d with
 | obj c fs =>
  dsimp only
  cases q1 : fs.lookup m with
  | some z => exact Iff.rfl
  | none =>
   cases q2 : altF alts c with
   | none => exact Iff.rfl
   | some F =>
    show wp (ga.bind _) QR E r2 ↔ _
    rw [wp_bind]
    exact Iff.rfl
 | _ => exact Iff.rfl
theorem methQ_obj {m : Str} {n : Nat} {alts : List (Addr × P Rv)} {ga : P (List Arg)} {c : Addr} {fs : List (Str × D)} {F : P Rv} {r : En} (h1 : fs.lookup m = none) (h2 : altF alts c = some F) : methQ m n alts ga QR E (.obj c fs) r ↔ wp ga (fun as r2 => wp (jx n F (.inl (.obj c fs) :: as)) QR E r2) E r := by
 unfold methQ
 simp only [h1, h2, if_true]
theorem altF_hit {alts : List (Addr × P Rv)} {c : Addr} {F : P Rv} : altF ((c, F) :: alts) c = some F := by
 unfold altF; simp
theorem ybb {cs : List Addr} {c : Addr} {fs : List (Str × D)} {f : Str} {d : D} {Q : Rv → Prop} (h : cs.contains c = true) (h2 : fs.lookup f = some d) : wpO (fldD cs f (.obj c fs)) Q ↔ Q (.dat d) := by
 have e : fldD cs f (.obj c fs) = some (.dat d) := by
  show (if cs.contains c = true then _ else _) = _
  rw [if_pos h, h2]
 rw [e]; exact Iff.rfl
theorem isi_obj {K : PySem.W.Frag} {cs : List Addr} {c b : Addr} {fs : List (Str × D)} {r : Bool} (h : cs.contains c = true) (k : PySem.W.kitOne K (.ref c) (.ref b) = some r) : isiD K cs [.obj c fs, .s (.ref b)] = some (rvB r) := by
 unfold isiD isiB
 simp only [tyD, clsD, xbn, h, if_true, k]
theorem none_obj {a : Addr} {fs : List (Str × D)} : isNone (.obj a fs) = false := rfl
end
end PL
namespace PL
open PySem L2 PySem.Spec PyProof.Rows
structure DefAt (K : PySem.W.Frag) (x : Str) (st : Stmt) (f : Addr) : Prop where
 at_ : PySem.W.nsIn K mainGlobals x = some (some (.ref f))
 kp : PySem.W.keepIn K (.ref f) = true
 ex : ∃ (oc : Value) (od : Option Addr) (dc pm : Value) (an : Option Addr) (cd ct : Value) (sl : Array (Option Value)) (kV : Value), K.lookup f = some ⟨oc, od, .func (PySem.W.fnOf x x (defArgs st) (defBody st) (defScope st) .none kV dc pm an cd ct), sl⟩ ∧ PySem.W.codeIn K cd x = true
structure MethAt (K : PySem.W.Frag) (C : Addr) (m qual : Str) (st : Stmt) (f : Addr) : Prop where
 at_ : PySem.W.findIn K (.ref C) m = some (some (.ref f))
 isf : PySem.W.isFn K (.ref f) = true
 kp : PySem.W.keepIn K (.ref f) = true
 ex : ∃ (oc : Value) (od : Option Addr) (dc pm : Value) (an : Option Addr) (cd ct : Value) (sl : Array (Option Value)) (kV : Value), K.lookup f = some ⟨oc, od, .func (PySem.W.fnOf m qual (defArgs st) (defBody st) (defScope st) .none kV dc pm an cd ct), sl⟩ ∧ PySem.W.codeIn K cd qual = true
theorem DefAt.of {K : PySem.W.Frag} {x : Str} {st : Stmt} {f : Addr} {oc : Value} {od : Option Addr} {dc pm : Value} {an : Option Addr} {cd ct : Value} {sl : Array (Option Value)} {kV : Value} (a : PySem.W.nsIn K mainGlobals x = some (some (.ref f))) (l : K.lookup f = some ⟨oc, od, .func (PySem.W.fnOf x x (defArgs st) (defBody st) (defScope st) .none kV dc pm an cd ct), sl⟩) (c : PySem.W.codeIn K cd x = true) (k : PySem.W.keepIn K (.ref f) = true) : DefAt K x st f :=
 ⟨a, k, _, _, _, _, _, _, _, _, _, l, c⟩
theorem MethAt.of {K : PySem.W.Frag} {C : Addr} {m qual : Str} {st : Stmt} {f : Addr} {oc : Value} {od : Option Addr} {dc pm : Value} {an : Option Addr} {cd ct : Value} {sl : Array (Option Value)} {kV : Value} (a : PySem.W.findIn K (.ref C) m = some (some (.ref f))) (l : K.lookup f = some ⟨oc, od, .func (PySem.W.fnOf m qual (defArgs st) (defBody st) (defScope st) .none kV dc pm an cd ct), sl⟩) (c : PySem.W.codeIn K cd qual = true) (k : PySem.W.keepIn K (.ref f) = true) (i : PySem.W.isFn K (.ref f) = true) : MethAt K C m qual st f :=
 ⟨a, i, k, _, _, _, _, _, _, _, _, _, l, c⟩
noncomputable def DefAt.fd {K : PySem.W.Frag} {x : Str} {st : Stmt} {f : Addr} (a : DefAt K x st f) : FuncData := Classical.choose (show ∃ fd, Fun K x x st f fd from by
 obtain ⟨oc, od, dc, pm, an, cd, ct, sl, kV, l, c⟩ := a.ex
 exact ⟨_, fun_mk l c a.kp⟩)
theorem DefAt.fn {K : PySem.W.Frag} {x : Str} {st : Stmt} {f : Addr} (a : DefAt K x st f) : Fun K x x st f a.fd := Classical.choose_spec (show ∃ fd, Fun K x x st f fd from by
 obtain ⟨oc, od, dc, pm, an, cd, ct, sl, kV, l, c⟩ := a.ex
 exact ⟨_, fun_mk l c a.kp⟩)
noncomputable def MethAt.fd {K : PySem.W.Frag} {C : Addr} {x q : Str} {st : Stmt} {f : Addr} (a : MethAt K C x q st f) : FuncData := Classical.choose (show ∃ fd, Fun K x q st f fd from by
 obtain ⟨oc, od, dc, pm, an, cd, ct, sl, kV, l, c⟩ := a.ex
 exact ⟨_, fun_mk l c a.kp⟩)
theorem MethAt.fn {K : PySem.W.Frag} {C : Addr} {x q : Str} {st : Stmt} {f : Addr} (a : MethAt K C x q st f) : Fun K x q st f a.fd := Classical.choose_spec (show ∃ fd, Fun K x q st f fd from by
 obtain ⟨oc, od, dc, pm, an, cd, ct, sl, kV, l, c⟩ := a.ex
 exact ⟨_, fun_mk l c a.kp⟩)
theorem MethAt.meth {K : PySem.W.Frag} {C : Addr} {x q : Str} {st : Stmt} {f : Addr} (a : MethAt K C x q st f) : Meth K C x f := ⟨a.at_, a.isf, a.kp⟩
theorem MethAt.mkOk {K : PySem.W.Frag} {C : Addr} {q : Str} {st : Stmt} {f : Addr} (a : MethAt K C "__init__" q st f) (h : PySem.W.makesIn K C = true) (k : PySem.W.keepIn K (.ref C) = true) : Mk K C f := ⟨h, a.at_, a.isf, k⟩
theorem make_ok {P : Program} {w : World} {K : PySem.W.Frag} {mg : Str → Option Value} {base : Heap} {k : Nat} {m x qual : Str} {fx : List Nat} {NN ps : List Str} {n : Nat} {st : Stmt} {f : Addr} {fd : FuncData} {body : PL.P Fl} {C : Addr} (F : Fun K m qual st f fd) (M : Mk K C f) (hm : mg x = some (.ref C)) (hb : Binds K fd ps []) (S : FnScope NN ps (defScope st)) (hn : ps.length = n + 1) (hN : n + 1 ≤ NN.length)
  (hbody : ∀ (cdv : Value) (A : Around) (outer : List PySem.Env) (s : Shared) (H : Hp) (E : XK), CtxOk (fun _ : Unit => cxOf (L2.CX P w) P w K mg base NN qual (defScope st) f cdv A outer s H E) P w K mg base k (WB E) NN (defScope st) →
   BSs (fun _ : Unit => cxOf (L2.CX P w) P w K mg base NN qual (defScope st) f cdv A outer s H E) K (WB E) fx (defBody st) body) : ybk P w K mg base (k + 1) x n C (runF fx NN.length body) :=
 ⟨⟨f, fd, ps, def_fn F S hn hN hbody, M, hm, hb⟩⟩
end PL
namespace PL
open PySem L2 PySem.Spec PyProof.Rows
abbrev lamF (q : Str) (params : Arguments) (scope : Scope) (cl : List (Str × Addr)) (c : Addr) : NdefX.NF := ⟨"<lambda>", q, params, [], scope, cl, c⟩
def LamRun (P : Program) (w : World) (K : PySem.W.Frag) (mg : Str → Option Value) (base : Heap) (k : Nat) (f : Addr) (F : NdefX.NF) (body : Expr) (fr : List Str) (sp : List (Option V) → Sp) : Prop :=
 ∀ (A : Around) (outer : List Env) (s : Shared) (H : Hp) (us : List Value) (vs : List V) (ws : List (Option V)) (pm ctv : Value) (Q : VK) (E : XK), Room k A → Env0 P w K mg base A outer s H →
  s.heap.get? f = some (PySem.W.kla_obj "<lambda>" F.qual F.params body F.scope F.cl pm F.c ctv) → H F.c = some (LamX.CodeO F.c F.qual) → NdefX.CellsAt F.cl fr ws s.heap H → Vals vs us → sp ws vs H Q E →
  codeAny (model P w) A (.call (.ref f) ⟨us, []⟩) (CR (L2.CX P w) outer P w H s Q E) s
section
variable {P : Program} {w : World} {K : PySem.W.Frag} {mg : Str → Option Value} {base : Heap} {N ps fr : List Str} {F : NdefX.NF} {f : Addr} {k : Nat} {sp : List (Option V) → Sp} {body : Expr}
theorem lam_of (S : NdefX.NScope N ps fr F.scope) (hb : ∀ (pm ctv : Value) (us : List Value), us.length = ps.length → bindArgs (PySem.W.kla_fn "<lambda>" F.qual F.params body F.scope F.cl pm (.ref F.c) ctv) ⟨us, []⟩ = pure (ps.zip us)) (len : ∀ ws vs H Q E, sp ws vs H Q E → vs.length = ps.length)
  (hbody : ∀ (A : Around) (outer : List Env) (s : Shared) (H : Hp) (vs : List V) (ws : List (Option V)) (Q : VK) (E : XK), Room k (A.deeper (NdefX.envF F f s.heap.objs.size)) → ws.length = fr.length → sp ws vs H Q E →
   ∃ te, PE (NdefX.ncx (L2.CX P w) P w K mg base N F f A outer s H E) body te ∧ te (NdefX.startF N vs ws) H Q) :
  LamRun P w K mg base (k + 1) f F body fr sp := by
 intro A outer s H us vs ws pm ctv Q E hr e0 ho hc Cl r hsp
 have hl := len _ _ _ _ _ hsp
 have nl : s.heap.NoLimit := e0.mod.nolimit.keeps fun b o e => (e0.bs b o e).1
 refine PySem.W.kla_callFunE hr.depth ho rfl S.co S.gen rfl (NdefX.codeO_at e0.hok hc) ?_
 rw [hb pm ctv us (by rw [← r.length]; exact hl)]
 refine wpAny_pure (wpAny_newFunctionEnv S.nocell (fun ⟨n, _⟩ hy => S.par n (List.of_mem_zip hy).1) (fun h2 hn2 hs2 => ⟨nl.fresh _ hs2, ?_⟩) S.kind)
 have kp2 : ∀ b o, s.heap.get? b = some o → h2.get? b = some o := fun b o z => hs2.extBut b o (Nat.ne_of_lt (Heap.lt_size z)) (Heap.get?_push_of_some _ z)
 obtain ⟨te, ht, hq⟩ := hbody A outer s H vs ws Q E (hr.deeper _) Cl.len hsp
 have J0 : Inv (NdefX.ncx (L2.CX P w) P w K mg base N F f A outer s H E) [] (NdefX.startF N vs ws) H { s with heap := h2, toks := s.toks + (ps.zip us).length } := NdefX.inv_startN S hr.hd e0 hl r Cl hn2 kp2
 refine PySem.W.kla_codeExpr (wpAny_mono (ht.run [] _ _ H Q J0 hq) (fun v s' z => ?_) fun e s' z => z)
 obtain ⟨w', H', J, rv, q⟩ := z
 exact ⟨w', H', J.os, J.bare, J.base, J.hok, rv, q⟩
end
def spL (K : PySem.W.Frag) (n m : Nat) (F : PL.P Rv) : List (Option V) → Sp := fun ws vs H Q E => ∃ zs : List V, ws = zs.map some ∧ vs.length = n ∧ zs.length = m ∧ spF K (n + m) F (vs ++ zs) H Q E
theorem start_F {N : List Str} {vs zs : List V} : NdefX.startF N vs (zs.map some) = L2.start N (vs ++ zs) := by
 unfold NdefX.startF L2.start
 rw [List.map_append, List.append_assoc, List.length_map, List.length_append, Nat.sub_sub]
theorem lam_ok {P : Program} {w : World} {K : PySem.W.Frag} {mg : Str → Option Value} {base : Heap} {N ps fr : List Str} {F : NdefX.NF} {f : Addr} {k n m : Nat} {body : Expr} {fe : PL.P Rv} (S : NdefX.NScope N ps fr F.scope)
  (hb : ∀ (pm ctv : Value) (us : List Value), us.length = ps.length → bindArgs (PySem.W.kla_fn "<lambda>" F.qual F.params body F.scope F.cl pm (.ref F.c) ctv) ⟨us, []⟩ = pure (ps.zip us)) (hn : ps.length = n) (hm : fr.length = m) (hN : n + m ≤ N.length)
  (hbody : ∀ (A : Around) (outer : List Env) (s : Shared) (H : Hp) (E : XK), CtxOk (fun _ : Unit => NdefX.ncx (L2.CX P w) P w K mg base N F f A outer s H E) P w K mg base k (WB E) N F.scope →
   BE (fun _ : Unit => NdefX.ncx (L2.CX P w) P w K mg base N F f A outer s H E) K (WB E) body fe) :
  LamRun P w K mg base (k + 1) f F body fr (spL K n m (runF [] N.length (sRet fe))) := by
 refine lam_of S hb (fun ws vs H Q E ⟨zs, _, h, _⟩ => h.trans hn.symm) fun A outer s H vs ws Q E hr hw hsp => ?_
 obtain ⟨te, h1, h2⟩ := hbody A outer s H E ⟨fun _ => rfl, fun _ => rfl, fun _ => rfl, fun _ => rfl, fun _ => rfl, fun _ => hr, fun _ => takes_of rfl rfl rfl rfl, fun _ => rfl, fun _ => passes_of rfl, fun _ => rfl, fun _ => rfl, S.nd⟩
 refine ⟨te, h1 (), ?_⟩
 obtain ⟨zs, rfl, hvl, hzl, hl, C, cs, out, e, ho, hok, hex⟩ := hsp
 rw [start_F]
 have hs := ss_ret (fx := []) h2
 have hlen : (vs ++ zs).length ≤ N.length := by rw [hl]; exact hN
 have e0 := EnvOk.begin (N := N) hlen e
 unfold runF at ho
 cases q : sRet fe (cs ++ List.replicate (N.length - cs.length) .no) with
 | none => rw [q] at ho; cases ho
 | some o =>
  rw [q] at ho
  refine hs (L2.start N (vs ++ zs)) C H _ o { nx := fun _ H' => Q .non H', rt := Q } e0 q ?_
  cases o with
  | ex x r =>
   dsimp only at ho
   cases z : merge [] 0 cs r with
   | none => rw [z] at ho; cases ho
   | some cs' =>
    rw [z] at ho; cases ho
    exact fun d σ' C' H' p k => hex x cs' rfl d C' H' (Post.finish e p z) k
  | ok fl r =>
   cases fl with
   | next =>
    dsimp only at ho
    cases z : merge [] 0 cs r with
    | none => rw [z] at ho; cases ho
    | some cs' =>
     rw [z] at ho; cases ho
     exact fun σ' C' H' p => (hok _ cs' rfl).2 .non C' H' (Post.finish e p z) (show Is K C' (.s .non) .non from is_s)
   | brk => cases ho
   | cont => cases ho
   | ret v =>
    dsimp only at ho
    cases y : handed cs.length r v with
    | none => rw [y] at ho; cases ho
    | some r' =>
     rw [y] at ho
     dsimp only at ho
     cases z : merge [] 0 cs r with
     | none => rw [z] at ho; cases ho
     | some cs' =>
      rw [z] at ho; cases ho
      exact fun u σ' C' H' p k => (hok r' cs' rfl).2 u C' H' (Post.finish e p z) (VOk.finish e p z k y).2
end PL
namespace PL
open PySem L2 PySem.Spec PyProof.Rows
def LamO (f : Addr) (F : NdefX.NF) (body : Expr) : Heap → Prop := fun h => ∃ (pm ctv : Value), h.get? f = some (PySem.W.kla_obj "<lambda>" F.qual F.params body F.scope F.cl pm F.c ctv)
def Told (H : Hp) (P : Addr) (pos : Pos) (c : Addr) : Prop := ∃ ps : Array Value, H P = some (.tbl ps) ∧ TriplesOk ps.toList ∧ codeAmong pos ps.toList = some (.ref c)
theorem among_more {pos : Pos} {cv : Value} (l m : List Value) (h : TriplesOk l) (hc : codeAmong pos l = some cv) : codeAmong pos (l ++ m) = some cv := by
 fun_induction TriplesOk l with
 | case1 => simp [codeAmong] at hc
 | case2 a t b u x rest ih =>
  simp only [List.cons_append, codeAmong] at hc ⊢
  split at hc
  ·rename_i q; rw [if_pos q]; exact hc
  ·rename_i q; rw [if_neg q]; exact ih h hc
 | case3 l h1 h2 => exact h.elim
theorem among_last {pos : Pos} {c : Value} (l : List Value) (h : TriplesOk l) (hc : codeAmong pos l = none) : codeAmong pos (l ++ [rawInt pos.line, rawInt pos.col, c]) = some c := by
 fun_induction TriplesOk l with
 | case1 => simp [codeAmong, rawInt]
 | case2 a t b u x rest ih =>
  simp only [List.cons_append, codeAmong] at hc ⊢
  split at hc
  ·cases hc
  ·rename_i q; rw [if_neg q]; exact ih h hc
 | case3 l h1 h2 => exact h.elim
structure Mkd (H : Hp) (P : Addr) (lpos : Pos) (mk : Addr → NdefX.NF) (body : Expr) (f c : Addr) (H1 : Hp) : Prop where
 ex : Ex H H1
 tabs : ∀ P', TS1 H P' → TS1 H1 P'
 new : H f = none
 fn : H1 f = some (.ext (LamO f (mk c) body))
 told : Told H1 P lpos c
def tLamE (P : Addr) (lpos : Pos) (mk : Addr → NdefX.NF) (body : Expr) : TE := fun σ H Q => TS1 H P ∧ ∀ (f c : Addr) (H1 : Hp), Mkd H P lpos mk body f c H1 → Q (.ref f) H1
section
variable {X : Cx} {pins : List (Addr × Obj)} {σ : L2.St} {H : Hp} {s : Shared}
theorem inv_lam {F : NdefX.NF} {body : Expr} {o : Obj} {t' : Nat} {pm ctv : Value} (I : Inv X pins σ H s) (ho : o = PySem.W.kla_obj "<lambda>" F.qual F.params body F.scope F.cl pm F.c ctv) :
  Inv X pins σ (upd H s.heap.objs.size (.ext (LamO s.heap.objs.size F body))) { s with heap := s.heap.push o, toks := t' } := by
 subst ho
 refine I.laid (a := s.heap.objs.size) (fun b u z => Heap.get?_push_of_some _ z) (Nat.le_refl _) ?_
 have z : (s.heap.push (PySem.W.kla_obj "<lambda>" F.qual F.params body F.scope F.cl pm F.c ctv)).get? s.heap.objs.size = some (PySem.W.kla_obj "<lambda>" F.qual F.params body F.scope F.cl pm F.c ctv) := Heap.get?_push_size _ rfl
 exact ⟨⟨pm, ctv, z⟩, ⟨_, z⟩, fun h1 h2 ⟨p, t, y⟩ st => ⟨p, t, st _ y⟩⟩
theorem lam_made {c P : Addr} {params : Arguments} {body : Expr} {scope : Scope} {lpos : Pos} {E : Value → Shared → Prop} {Q : Value → Shared → Prop} (I : Inv X pins σ H s) (TB : LamX.TabB X.base X.mg c P) (hcode : X.env.code = .ref c) (hq : X.env.qual ++ "<lambda>" = lamQ)
  (hT : TS1 H P) (hdef : defaultsOf params X.env = ([], [])) (hfree : ∀ y ∈ scope.names, y.2 = .free → ∃ c, X.env.cells.lookup y.1 = some c)
  (h : ∀ (f c' : Addr) (H1 : Hp) (s' : Shared), Inv X pins σ H1 s' → Mkd H P lpos (fun c' => lamF lamQ params scope (cloFrom X.env.cells scope.names []) c') body f c' H1 → Q (.ref f) s') :
  wpAny (model X.prog X.w) X.A (eval (.Lambda params body scope lpos) X.env) Q E s := by
 obtain ⟨ps, hP, ht, ha⟩ := hT
 refine PySem.W.kla_eval hdef ?_
 rw [hq]
 have bP := TB.bm.keeps I.bk
 have hP2 : s.heap.get? P = some { cls := .none, data := .fields ps } := I.hok P _ hP
 cases hc : codeAmong lpos ps.toList with
 | some cv =>
  obtain ⟨c', rfl, hco⟩ := ha lpos cv hc
  refine PySem.W.kla_makeFunctionHit (mg := X.mg) (c := c) (P := P) (ps := ps) (closure_ok hfree) I.ok.glob (I.mod.glob.keeps I.bk) hcode (TB.code.keeps I.bk) hP2 ht hc bP fun ctv h' tk hx _ => ?_
  have I1 : Inv X pins σ H { s with heap := h', toks := tk } := I.kept hx
  have nF : H h'.objs.size = none := I1.hok.fresh (Nat.le_refl _)
  have I2 := inv_lam (F := lamF lamQ params scope (cloFrom X.env.cells scope.names []) c') (body := body) (t' := tk) (pm := (X.mg "__name__").getD .none) (ctv := ctv) I1 rfl
  exact h _ c' _ _ I2 ⟨Ex.new nF, fun P' q => xaf q nF, nF, upd_same, ps, by rw [upd_ne (ne_of_none hP nF)]; exact hP, ht, hc⟩
 | none =>
  refine PySem.W.kla_makeFunction (mg := X.mg) (c := c) (P := P) (ps := ps) (closure_ok hfree) I.ok.glob (I.mod.glob.keeps I.bk) hcode (TB.code.keeps I.bk) hP2 ht hc TB.gP bP fun c' ctv h' tk hx hge hlt hrec htb => ?_
  obtain ⟨c2, oc, vs, t, e2, hoc, hd, hv⟩ := hrec
  cases e2
  have nC : H c' = none := I.hok.fresh hge
  have I1 := LamX.inv_table (t' := tk) (more := #[rawInt lpos.line, rawInt lpos.col, .ref c']) (h' := h') I hP (fun b o hb z => hx b o hb z) htb hge ⟨oc, vs, t, hoc, hd, hv⟩
  have nF : (upd (upd H P (.tbl (ps ++ #[rawInt lpos.line, rawInt lpos.col, .ref c']))) c' (LamX.CodeO c' lamQ)) h'.objs.size = none := I1.hok.fresh (Nat.le_refl _)
  have I2 := inv_lam (F := lamF lamQ params scope (cloFrom X.env.cells scope.names []) c') (body := body) (t' := tk) (pm := (X.mg "__name__").getD .none) (ctv := ctv) I1 rfl
  have nPc : P ≠ c' := ne_of_none hP nC
  have nF0 : H h'.objs.size = none := by
   by_cases z1 : h'.objs.size = c'
   ·rw [z1]; exact nC
   ·rw [upd_ne z1] at nF
    by_cases z2 : h'.objs.size = P
    ·rw [z2, upd_same] at nF; cases nF
    ·rw [upd_ne z2] at nF; exact nF
  have exA : Ex H (upd (upd H P (.tbl (ps ++ #[rawInt lpos.line, rawInt lpos.col, .ref c']))) c' (LamX.CodeO c' lamQ)) := ⟨fun b o z n => by
   rw [upd_ne (ne_of_none z nC), upd_ne (fun y => n ps (Option.some.inj (z.symm.trans (by rw [y]; exact hP))))]; exact z, fun b z => by
   by_cases z1 : b = c'
   ·rw [z1]; exact nC
   ·rw [upd_ne z1] at z
    by_cases z2 : b = P
    ·rw [z2, upd_same] at z; cases z
    ·rw [upd_ne z2] at z; exact z⟩
  have eL : (ps ++ #[rawInt lpos.line, rawInt lpos.col, .ref c']).toList = ps.toList ++ [rawInt lpos.line, rawInt lpos.col, .ref c'] := by simp
  have tbA : ∀ P', TS1 H P' → TS1 (upd (upd H P (.tbl (ps ++ #[rawInt lpos.line, rawInt lpos.col, .ref c']))) c' (LamX.CodeO c' lamQ)) P' := fun P' q => by
   by_cases zb : P' = P
   ·subst zb
    refine ⟨_, by rw [upd_ne nPc, upd_same], by rw [eL]; exact PySem.TriplesOk_snoc _ _ _ _ ht, fun p' cv hcv => ?_⟩
    rw [eL] at hcv
    rcases LamX.among_app _ ht hcv with z | z
    ·obtain ⟨c0, e1, e2⟩ := ha p' cv z
     exact ⟨c0, e1, exA.1 _ _ e2 (LamX.codeO_ne)⟩
    ·exact ⟨c', z, upd_same⟩
   ·obtain ⟨qs, q1, q2, q3⟩ := q
    refine ⟨qs, by rw [upd_ne (ne_of_none q1 nC), upd_ne zb]; exact q1, q2, fun p' cv hcv => ?_⟩
    obtain ⟨c0, e1, e2⟩ := q3 p' cv hcv
    exact ⟨c0, e1, exA.1 _ _ e2 (LamX.codeO_ne)⟩
  refine h _ c' _ _ I2 ⟨exA.trans (Ex.new nF), fun P' q => xaf (tbA P' q) nF, nF0, upd_same, _, ?_, by rw [eL]; exact PySem.TriplesOk_snoc _ _ _ _ ht, by rw [eL]; exact among_last _ ht hc⟩
  show upd _ h'.objs.size _ P = _
  rw [upd_ne (fun z => by rw [← z, upd_ne nPc, upd_same] at nF; cases nF), upd_ne nPc, upd_same]
theorem pe_lamE {c P : Addr} {params : Arguments} {body : Expr} {scope : Scope} {lpos : Pos} (TB : LamX.TabB X.base X.mg c P) (hcode : X.env.code = .ref c) (hq : X.env.qual ++ "<lambda>" = lamQ) (hdef : defaultsOf params X.env = ([], []))
  (hfree : ∀ y ∈ scope.names, y.2 = .free → X.env.scope.names.lookup y.1 = some .cell ∨ X.env.scope.names.lookup y.1 = some .free) :
  PE X (.Lambda params body scope lpos) (tLamE P lpos (fun c' => lamF lamQ params scope (cloFrom X.env.cells scope.names []) c') body) := by
 refine ⟨fun pins s σ H Q I h => ?_⟩
 obtain ⟨hT, h⟩ := h
 refine lam_made I TB hcode hq hT hdef (fun y hy e => (hfree y hy e).elim (fun z => I.ok.has _ (.inl z)) fun z => I.ok.has _ (.inr z)) fun f c' H1 s' I1 m => ?_
 exact ⟨.ref f, H1, I1, rfl, h f c' H1 m⟩
end
end PL
namespace PL
open PySem L2 PySem.Spec PyProof.Rows
theorem vbj {K : PySem.W.Frag} {fx : List Nat} {N : List Str} {n : Nat} {t : TS} {body : PL.P Fl} {vs : List V} {H : Hp} {Q : VK} {E : XK} (hs : SdS K (fun cls d _ H => E cls d H) fx t body) (hN : n ≤ N.length) (h : spF K n (runF fx N.length body) vs H Q E) : t { nx := fun _ H' => Q .non H', rt := Q } (L2.start N vs) H := by
 obtain ⟨hl, C, cs, out, e, ho, hok, hex⟩ := h
 have e0 := EnvOk.begin (N := N) (by rw [hl]; exact hN) e
 unfold runF at ho
 cases q : body (cs ++ List.replicate (N.length - cs.length) .no) with
 | none => rw [q] at ho; cases ho
 | some o =>
  rw [q] at ho
  refine hs (L2.start N vs) C H _ o _ e0 q ?_
  cases o with
  | ex x r =>
   dsimp only at ho
   cases z : merge fx 0 cs r with
   | none => rw [z] at ho; cases ho
   | some cs' => rw [z] at ho; cases ho; exact fun d σ' C' H' p k => hex x cs' rfl d C' H' (Post.finish e p z) k
  | ok fl r =>
   cases fl with
   | next =>
    dsimp only at ho
    cases z : merge fx 0 cs r with
    | none => rw [z] at ho; cases ho
    | some cs' => rw [z] at ho; cases ho; exact fun σ' C' H' p => (hok _ cs' rfl).2 .non C' H' (Post.finish e p z) (show Is K C' (.s .non) .non from is_s)
   | brk => cases ho
   | cont => cases ho
   | ret v =>
    dsimp only at ho
    cases y : handed cs.length r v with
    | none => rw [y] at ho; cases ho
    | some r' =>
     rw [y] at ho
     dsimp only at ho
     cases z : merge fx 0 cs r with
     | none => rw [z] at ho; cases ho
     | some cs' => rw [z] at ho; cases ho; exact fun u σ' C' H' p k => (hok r' cs' rfl).2 u C' H' (Post.finish e p z) (VOk.finish e p z k y).2
structure ActOk (P : Program) (w : World) (K : PySem.W.Frag) (mg : Str → Option Value) (base : Heap) (k : Nat) (Z : Cx) (Pt f : Addr) (NF : NdefX.NF) (body : Expr) (fr : List Str) (zs : List V) (n m : Nat) (F : PL.P Rv) : Prop where
 run : LamRun P w K mg base k f NF body fr (spL K n m F)
 told : ∃ lpos, Told Z.H_0 Pt lpos NF.c
 nf : ∀ y c, NF.cl.lookup y = some c → c ∉ Z.fs
 cells : NdefX.CellsAt NF.cl fr (zs.map some) Z.s_0.heap Z.H_0
 ex : Z.ex = []
 q : NF.qual = lamQ
def tAct (Pt f : Addr) (φ : Heap → Prop) (zs : List V) (i : Nat) (sp : List (Option V) → Sp) (E : L2.St → XK) (t : TA) : TE := fun σ H Q => σ[i]? = some (some (.ref f)) ∧ H f = some (.ext φ) ∧ t σ H fun vs H1 => H1 f = some (.ext φ) ∧ TS1 H1 Pt ∧ sp (zs.map some) vs H1 Q (E σ)
section
variable {P : Program} {w : World} {K : PySem.W.Frag} {mg : Str → Option Value} {base : Heap} {k : Nat} {Z : Cx} {Pt f : Addr} {NF : NdefX.NF} {body : Expr} {fr : List Str} {zs : List V} {n m : Nat} {F : PL.P Rv} {W : WX} {i : Nat} {x : Str} {p pos : Pos} {e : Expr} {es : List Expr} {t : TA}
theorem lam_at {pins : List (Addr × Obj)} {σ : L2.St} {H : Hp} {s : Shared} (I : Inv Z pins σ H s) (h : H f = some (.ext (LamO f NF body))) : ∃ pm ctv, s.heap.get? f = some (PySem.W.kla_obj "<lambda>" NF.qual NF.params body NF.scope NF.cl pm NF.c ctv) := by
 obtain ⟨z, _, _⟩ := I.hok f _ h
 exact z
theorem pe_actL (h1 : Z.prog = P) (h2 : Z.w = w) (h3 : Z.K = K) (h4 : Z.mg = mg) (h5 : Z.base = base) (a : ActOk P w K mg base k Z Pt f NF body fr zs n m F) (hr : Room k Z.A) (tk : Takes Z W) (hN : Z.N[i]? = some x) (hv : Vis Z.env.scope x) (ha : PA Z (e :: es) t)
  (hd : (x == ("__debug__" : Str)) = false) (hcd : (x == ("__classdict__" : Str)) = false)
  (he : starEach (e :: es) Z.env = (false, eval e Z.env) :: starEach es Z.env) (hpl : (backTo pos (starEach es Z.env)).any (·.1) = false) :
  PE Z (.Call (.Name x p) (e :: es) [] pos) (tAct Pt f (LamO f NF body) zs i (spL K n m F) (WE W) t) := by
 subst h1 h2 h3 h4 h5
 refine ⟨fun pins s σ H Q I h => ?_⟩
 obtain ⟨hs, hf, ht⟩ := h
 refine wpAny_Call_Name_kw (thn ((pe_var (pos := p) hN hv hd hcd).run pins s σ H (fun v H1 => v = .ref f ∧ H1 = H) I ⟨.ref f, hs, rfl, rfl⟩) fun u s1 ⟨v, H1, I1, r1, q1⟩ => ?_)
 obtain ⟨rfl, rfl⟩ := q1
 obtain rfl : u = Value.ref f := r1
 obtain ⟨pm, ctv, hg⟩ := lam_at I1 hf
 refine PySem.W.callWith_F (first := []) ⟨_, _, _, _, hg⟩ (thn (ha.run pos pins s1 σ H1 _ I1 ht) fun us s2 ⟨vs, H2, I2, r, h1, h2, q⟩ => ?_) he hpl
 obtain ⟨pm2, ctv2, hg2⟩ := lam_at I2 h1
 refine ⟨⟨_, _, _, _, hg2⟩, ?_⟩
 show wpAny _ _ (call (.ref f) us) _ _ _
 have hc : H2 NF.c = some (LamX.CodeO NF.c NF.qual) := by
  obtain ⟨lpos, ps, t1, t2, t3⟩ := a.told
  obtain ⟨more, hm⟩ := I2.base.tbls _ _ t1
  obtain ⟨ps2, k1, k2, k3⟩ := h2
  rw [hm] at k1
  cases k1
  obtain ⟨c0, e1, e2⟩ := k3 lpos (.ref NF.c) (by rw [Array.toList_append]; exact among_more _ _ t2 t3)
  cases e1
  rw [a.q]; exact e2
 have hC := NdefX.CellsAt.later a.cells a.nf (fun y c _ z => by rw [a.ex] at z; cases z) I2
 refine wpAny_call (codeAny_mono (a.run Z.A Z.stack s2 H2 us vs _ pm2 ctv2 Q (WE W σ) hr I2.env0 hg2 hc hC r q) fun r s' hq => ?_)
 cases r with
 | error e => exact passAt tk σ pins H2 s2 e s' I2 hq
 | ok fl =>
  cases fl with
  | ret u => exact I2.after hq
  | next => exact False.elim hq
  | brk => exact False.elim hq
  | cont => exact False.elim hq
theorem pe_actK {g : Addr} {fd : FuncData} {ps : List Str} {sp : Sp} (h1 : Z.prog = P) (h2 : Z.w = w) (h3 : Z.K = K) (h4 : Z.mg = mg) (h5 : Z.base = base) (hF : FnOk P w K mg base (L2.CX P w) k g fd ps sp) (hk : PySem.W.keepIn K (.ref g) = true) (hb : Binds K fd ps []) (hr : Room k Z.A) (tk : Takes Z W) (hN : Z.N[i]? = some x) (hv : Vis Z.env.scope x) (ha : PA Z (e :: es) t)
  (hd : (x == ("__debug__" : Str)) = false) (hcd : (x == ("__classdict__" : Str)) = false)
  (he : starEach (e :: es) Z.env = (false, eval e Z.env) :: starEach es Z.env) (hpl : (backTo pos (starEach es Z.env)).any (·.1) = false) :
  PE Z (.Call (.Name x p) (e :: es) [] pos) (fun σ H Q => σ[i]? = some (some (.ref g)) ∧ t σ H fun vs H1 => sp vs H1 Q (WE W σ)) := by
 subst h1 h2 h3 h4 h5
 refine ⟨fun pins s σ H Q I h => ?_⟩
 obtain ⟨hs, ht⟩ := h
 refine wpAny_Call_Name_kw (thn ((pe_var (pos := p) hN hv hd hcd).run pins s σ H (fun v H1 => v = .ref g ∧ H1 = H) I ⟨.ref g, hs, rfl, rfl⟩) fun u s1 ⟨v, H1, I1, r1, q1⟩ => ?_)
 obtain ⟨rfl, rfl⟩ := q1
 obtain rfl : u = Value.ref g := r1
 refine PySem.W.callWith_K (h₀ := Z.base) I1.ok.mod.kin hk (thn (ha.run pos pins s1 σ H1 _ I1 ht) fun us s2 ⟨vs, H2, I2, r, q⟩ => ⟨I2.kIn, ?_⟩) he hpl
 exact run_fnS hF hr hb (passAt tk σ) I2 r q
end
open Classical in
noncomputable def fAct (f : Addr) (φ : Heap → Prop) (zs : List V) (n m : Nat) (F : PL.P Rv) (i : Nat) (ga : PL.P (List Arg)) : PL.P Rv := fun ρ => match ρ[i]? with
 | some (.dat (.lam f0 φ0 zs0 ks)) => if f0 = f ∧ φ0 = φ ∧ zs0 = zs ∧ ks.length = m then (ga.bind fun as => if as.length = n then jx (n + m) F (as ++ ks.map .inl) else PL.P.fail) ρ else none
 | _ => none
def jah (f : Addr) (n : Nat) (F : PL.P Rv) (i : Nat) (ga : PL.P (List Arg)) : PL.P Rv := fun ρ => match ρ[i]? with
 | some (.dat (.s (.ref f0))) => if f0 = f then (ga.bind (jx n F)) ρ else none
 | _ => none
theorem ja2 {K : PySem.W.Frag} {C : Hp} {σ : Sl} : ∀ {ks : List D} {zs : List V}, Iss K C ks zs → ArgOk K C σ (ks.map .inl) zs
 | [], zs, h => iss_nil_iff.mp h
 | d :: ds, zs, h => by
  obtain ⟨y, r, rfl, h2, h3⟩ := iss_cons_iff.mp h
  exact ⟨y, r, rfl, h2, ja2 h3⟩
theorem kaw {K : PySem.W.Frag} {C : Hp} {σ : Sl} {ks : List D} {zs : List V} (h : Iss K C ks zs) : ∀ {as : List Arg} {vs : List V}, ArgOk K C σ as vs → ArgOk K C σ (as ++ ks.map .inl) (vs ++ zs)
 | [], vs, q => by
  have q : vs = [] := q
  subst q
  exact ja2 h
 | .inl d :: as, vs, q => by
  obtain ⟨y, r, rfl, h2, h3⟩ := q
  exact ⟨y, r ++ zs, rfl, h2, kaw h h3⟩
 | .inr j :: as, vs, q => by
  obtain ⟨y, r, rfl, h2, h3⟩ := q
  exact ⟨y, r ++ zs, rfl, h2, kaw h h3⟩
section
variable {K : PySem.W.Frag} {W : WX} {t : TA} {ga : PL.P (List Arg)} {i n m : Nat} {F : PL.P Rv}
theorem sd_act {Pt f : Addr} {φ : Heap → Prop} {zs : List V} (hP : TabP K Pt) (hF : ∀ cs r cs', F cs = some (.ok r cs') → rvD r = true) (hg : Sd K W (ARel K) t ga) : Sd K W (VRel K) (tAct Pt f φ zs i (spL K n m F) (WE W) t) (fAct f φ zs n m F i ga) := by
 intro σ C H ρ e
 unfold fAct
 cases q : ρ[i]? with
 | none => exact At.nil
 | some c =>
  obtain ⟨v, hv, ok⟩ := e.cell i c q
  cases c with
  | no => exact At.nil
  | own m => exact At.nil
  | dat d =>
   cases d with
   | lam f0 φ0 zs0 ks =>
    dsimp only
    by_cases c : f0 = f ∧ φ0 = φ ∧ zs0 = zs ∧ ks.length = m
    ·rw [if_pos c]
     obtain ⟨rfl, rfl, rfl, hm⟩ := c
     obtain ⟨u, rfl, ok⟩ := ok
     obtain ⟨rfl, o2, o3⟩ := is_lam_iff.mp ok
     have nx : ∀ φ, NT (.ext φ) := fun φ ps z => by cases z
     refine At.imp (t := fun H1 Q => t σ H1 fun vs H2 => H2 f0 = some (.ext φ0) ∧ TS1 H2 Pt ∧ spL K n m F (zs0.map some) vs H2 Q (WE W σ)) ?_ fun Q h => ⟨hv, e.ext.1 _ _ o2 (nx _), h⟩
     refine At.bind (tk := fun (vs : List V) (H2 : Hp) (Q : VK) => H2 f0 = some (.ext φ0) ∧ TS1 H2 Pt ∧ spL K n m F (zs0.map some) vs H2 Q (WE W σ)) (hg σ C H ρ e) fun as ρ2 vs C2 H2 p2 r2 => ?_
     have hf2 := p2.env.ext.1 _ _ (p2.step.core.1 _ _ o2 (nx _)) (nx _)
     have ht2 := p2.env.tab Pt hP
     have r2 : ArgOk K C2 σ as vs := r2
     by_cases hl : as.length = n
     ·rw [if_pos hl]
      have o4 := Iss.mono p2.step.core _ _ o3
      refine At.imp (jbe (W := W) (H0 := H) p2.env (as := as ++ ks.map .inl) (vs := vs ++ zs0) (kaw o4 r2) p2.step.dom hF) fun Q h => ⟨hf2, ht2, zs0, rfl, by rw [← hl, ← r2.len], by rw [← hm, o3.length], h⟩
     ·rw [if_neg hl]; exact At.nil
    ·rw [if_neg c]; exact At.nil
   | _ => exact At.nil
theorem sd_actK {g : Addr} (hF : ∀ cs r cs', F cs = some (.ok r cs') → rvD r = true) (hg : Sd K W (ARel K) t ga) : Sd K W (VRel K) (fun σ H Q => σ[i]? = some (some (.ref g)) ∧ t σ H fun vs H1 => spF K n F vs H1 Q (WE W σ)) (jah g n F i ga) := by
 intro σ C H ρ e
 unfold jah
 cases q : ρ[i]? with
 | none => exact At.nil
 | some c =>
  obtain ⟨v, hv, ok⟩ := e.cell i c q
  cases c with
  | no => exact At.nil
  | own m => exact At.nil
  | dat d =>
   cases d with
   | s y =>
    cases y with
    | ref f0 =>
     dsimp only
     by_cases c : f0 = g
     ·rw [if_pos c]
      subst c
      obtain ⟨u, rfl, ok⟩ := ok
      cases is_s_iff.mp ok
      refine At.imp (t := fun H1 Q => t σ H1 fun vs H2 => spF K n F vs H2 Q (WE W σ)) ?_ fun Q h => ⟨hv, h⟩
      refine At.bind (tk := fun (vs : List V) (H2 : Hp) (Q : VK) => spF K n F vs H2 Q (WE W σ)) (hg σ C H ρ e) fun as ρ2 vs C2 H2 p2 r2 => ?_
      exact jbe p2.env r2 p2.step.dom hF
     ·rw [if_neg c]; exact At.nil
    | _ => exact At.nil
   | _ => exact At.nil
end
end PL
namespace PL
open PySem L2 PySem.Spec PyProof.Rows
section
variable {P : Program} {w : World} {K : PySem.W.Frag} {mg : Str → Option Value} {base : Heap} {k : Nat} {Z : Cx} {Pt f : Addr} {W : WX} {N : List Str} {sc : Scope} {x : Str} {p pos : Pos} {e : Expr} {es : List Expr} {ga : PL.P (List Arg)} {n m : Nat} {F : PL.P Rv}
theorem be_actL {NF : NdefX.NF} {body : Expr} {fr : List Str} {zs : List V} (B : CtxOk (fun _ : Unit => Z) P w K mg base k W N sc) (a : ActOk P w K mg base k Z Pt f NF body fr zs n m F) (hP : TabP K Pt) (hF : ∀ cs r cs', F cs = some (.ok r cs') → rvD r = true) (i : Nat) (hN : N[i]? = some x) (hv : Vis sc x)
  (hd : (x == ("__debug__" : Str)) = false) (hcd : (x == ("__classdict__" : Str)) = false) (he : starEach (e :: es) Z.env = (false, eval e Z.env) :: starEach es Z.env) (hpl : (backTo pos (starEach es Z.env)).any (·.1) = false) (ha : BAa (fun _ : Unit => Z) K W (e :: es) ga) :
  BE (fun _ : Unit => Z) K W (.Call (.Name x p) (e :: es) [] pos) (fAct f (LamO f NF body) zs n m F i ga) := by
 obtain ⟨t, pa, sa⟩ := ha
 exact ⟨_, fun _ => pe_actL (B.pP ()) (B.pw ()) (B.pK ()) (B.pm ()) (B.pb ()) a (B.room ()) (B.tk ()) (B.at_ hN ()) (B.vis hv ()) (pa ()) hd hcd he hpl, sd_act hP hF sa⟩
theorem be_actK {g : Addr} {fd : FuncData} {ps : List Str} (B : CtxOk (fun _ : Unit => Z) P w K mg base k W N sc) (hF : FnOk P w K mg base (L2.CX P w) k g fd ps (spF K n F)) (hk : PySem.W.keepIn K (.ref g) = true) (hb : Binds K fd ps []) (hrv : ∀ cs r cs', F cs = some (.ok r cs') → rvD r = true) (i : Nat) (hN : N[i]? = some x) (hv : Vis sc x)
  (hd : (x == ("__debug__" : Str)) = false) (hcd : (x == ("__classdict__" : Str)) = false) (he : starEach (e :: es) Z.env = (false, eval e Z.env) :: starEach es Z.env) (hpl : (backTo pos (starEach es Z.env)).any (·.1) = false) (ha : BAa (fun _ : Unit => Z) K W (e :: es) ga) :
  BE (fun _ : Unit => Z) K W (.Call (.Name x p) (e :: es) [] pos) (jah g n F i ga) := by
 obtain ⟨t, pa, sa⟩ := ha
 exact ⟨_, fun _ => pe_actK (B.pP ()) (B.pw ()) (B.pK ()) (B.pm ()) (B.pb ()) hF hk hb (B.room ()) (B.tk ()) (B.at_ hN ()) (B.vis hv ()) (pa ()) hd hcd he hpl, sd_actK hrv sa⟩
end
structure NeedT (P : Program) (w : World) (K : PySem.W.Frag) (mg : Str → Option Value) (base : Heap) (kn : Nat) (x : Str) (st : Stmt) (Ng psg : List Str) (fx : List Nat) (bodyG : (PL.P (List Arg) → PL.P Rv) → PL.P Fl) : Prop where
 ex : ∃ (g : Addr) (fd : FuncData), Fun K x x st g fd ∧ mg x = some (.ref g) ∧ Binds K fd psg []
 sc : FnScope Ng psg (defScope st)
 body : ∀ (g : Addr) (cdv : Value) (A : Around) (outer : List PySem.Env) (s : Shared) (H : Hp) (E : XK), CtxOk (fun _ : Unit => cxOf (L2.CX P w) P w K mg base Ng x (defScope st) g cdv A outer s H E) P w K mg base kn (WB E) Ng (defScope st) → ∀ act : PL.P (List Arg) → PL.P Rv,
  (∀ (e : Expr) (es : List Expr) (ga : PL.P (List Arg)) (p pos : Pos), starEach (e :: es) (cxOf (L2.CX P w) P w K mg base Ng x (defScope st) g cdv A outer s H E).env = (false, eval e (cxOf (L2.CX P w) P w K mg base Ng x (defScope st) g cdv A outer s H E).env) :: starEach es (cxOf (L2.CX P w) P w K mg base Ng x (defScope st) g cdv A outer s H E).env →
   (backTo pos (starEach es (cxOf (L2.CX P w) P w K mg base Ng x (defScope st) g cdv A outer s H E).env)).any (·.1) = false → BAa (fun _ : Unit => cxOf (L2.CX P w) P w K mg base Ng x (defScope st) g cdv A outer s H E) K (WB E) (e :: es) ga →
   BE (fun _ : Unit => cxOf (L2.CX P w) P w K mg base Ng x (defScope st) g cdv A outer s H E) K (WB E) (.Call (.Name "is_right" p) (e :: es) [] pos) (act ga)) →
  BSs (fun _ : Unit => cxOf (L2.CX P w) P w K mg base Ng x (defScope st) g cdv A outer s H E) K (WB E) fx (defBody st) (bodyG act)
def qa0 (j : Nat) (np : D → List D → Option (Option Exn)) (ga : PL.P (List D)) : PL.P Rv := ga.bind fun ds => fun ρ => match ρ[j]? with
 | some (.dat d) => (match np d ds with
  | some none => some (.ok (.dat (.s .non)) ρ)
  | some (some e) => some (.ex e ρ)
  | none => none)
 | _ => none
def fPart (np : List D → Option (Option Exn)) (ga : PL.P (List D)) : PL.P Rv := ga.bind fun ds => fun ρ => match np ds with
 | some none => some (.ok (.dat (.s .non)) ρ)
 | some (some e) => some (.ex e ρ)
 | none => none
def va8 (cs : List Cell) : Option Exn → Out Rv
 | none => .ok (.dat (.s .non)) cs
 | some e => .ex e cs
section
variable {K : PySem.W.Frag} {C H : Hp}
theorem EnvOk.datas {ds : List D} {vs : List V} (ec : Ex C H) (tb : ∀ P, TabP K P → TS1 H P) (h : Iss K C ds vs) : EnvOk K C H (vs.map some) (ds.map .dat) := by
 refine ⟨by simp [h.length], ec, fun i c q => ?_, fun i j m m' a q1 q2 => ?_, tb⟩
 ·rw [List.getElem?_map] at q
  cases z : ds[i]? with
  | none => rw [z] at q; cases q
  | some d =>
   rw [z] at q
   cases q
   obtain ⟨v, h1, h2⟩ := h.get z
   exact ⟨some v, by simp [h1], v, rfl, h2⟩
 ·rw [List.getElem?_map] at q1
  cases z : ds[i]? with
  | none => rw [z] at q1; cases q1
  | some d => rw [z] at q1; cases q1
theorem qau {ds : List D} {vs : List V} {a : Addr} : ¬ qd (vs.map some) (ds.map .dat) a := fun ⟨i, m, q1, _⟩ => by
 rw [List.getElem?_map] at q1
 cases z : ds[i]? with
 | none => rw [z] at q1; cases q1
 | some d => rw [z] at q1; cases q1
theorem spF_part {n : Nat} {F : PL.P Rv} {ds : List D} {vs : List V} {r : Option Exn} {Q : VK} {E : XK} (ec : Ex C H) (tb : ∀ P, TabP K P → TS1 H P) (h : Iss K C ds vs) (hn : vs.length = n) (hF : F (ds.map .dat) = some (va8 (ds.map .dat) r))
  (hok : r = none → ∀ C' H', Step C H C' H' (fun _ => False) → Q .non H') (hex : ∀ e, r = some e → ∀ d C' H', Step C H C' H' (fun _ => False) → ExnOk K C' e d → E (.ref e.c) d H') : spF K n F vs H Q E := by
 refine ⟨hn, C, _, _, EnvOk.datas ec tb h, hF, fun rv cs' z => ?_, fun e cs' z d C' H' p q => ?_⟩
 ·cases r with
  | some e => cases z
  | none =>
   cases z
   refine ⟨rfl, fun v C' H' p q => ?_⟩
   have e1 : v = .non := is_s_iff.mp (show Is K C' (.s .non) v from q)
   rw [e1]
   exact hok rfl C' H' (p.step.weak fun a z => absurd z qau)
 ·cases r with
  | none => cases z
  | some e2 => cases z; exact hex e rfl d C' H' (p.step.weak fun a z => absurd z qau) q
end
def q4L (K : PySem.W.Frag) (Pt : Addr) (lpos : Pos) (mk : Addr → NdefX.NF) (body : Expr) (j : Nat) (FN : Addr → (Heap → Prop) → List V → PL.P Rv) (W : WX) (σ : Sl) (Q : VK) : List V → Hp → Prop := fun vs H4 => ∃ (f c : Addr) (H3 : Hp) (z : V), σ[j]? = some (some z) ∧ Mkd H3 Pt lpos mk body f c H4 ∧ vs.length = 4 ∧ spF K 4 (FN f (LamO f (mk c) body) [z]) vs H4 Q (WE W σ)
section
variable {P : Program} {w : World} {K : PySem.W.Frag} {mg : Str → Option Value} {base : Heap} {kl : Nat} {X0 : Cx} {c Pt : Addr} {W : WX} {N : List Str} {sc : Scope} {xg : Str} {stg : Stmt} {Ng psg fx_ : List Str} {fx : List Nat} {bodyG : (PL.P (List Arg) → PL.P Rv) → PL.P Fl}
variable {params : Arguments} {body : Expr} {scope : Scope} {lpos p pos : Pos} {Nl psl : List Str} {y0 : Str} {fe f1 f2 f3 : PL.P Rv} {e1 e2 e3 : Expr} {j : Nat}
theorem xbd (B : CtxOk (fun _ : Unit => X0) P w K mg base (kl + 1 + 1) W N sc) (hcode : X0.env.code = .ref c) (hq : X0.env.qual ++ "<lambda>" = lamQ) (hfn : ∀ x, X0.fn x = true) (TB : LamX.TabB base mg c Pt) (hP : TabP K Pt)
  (hT : NeedT P w K mg base (kl + 1) xg stg Ng psg fx bodyG) (hp4 : psg.length = 4) (h4 : 4 ≤ Ng.length) (i3 : Ng[3]? = some ("is_right" : Str)) (v3 : Vis (defScope stg) ("is_right" : Str)) (hgl : sc.names.lookup xg = some .globalImplicit) (hdb : (xg == ("__debug__" : Str)) = false)
  (S : NdefX.NScope Nl psl [y0] scope) (hl2 : psl.length = 2) (hl3 : 2 + 1 ≤ Nl.length) (hfree : ∀ y ∈ scope.names, y.2 = .free → sc.names.lookup y.1 = some .cell ∨ sc.names.lookup y.1 = some .free) (hfr : ∀ y ∈ [y0], (y, NameKind.free) ∈ scope.names) (hj : N[j]? = some y0)
  (hbind : ∀ (q : Str) (cl : List (Str × Addr)) (pm cv ctv : Value) (us : List Value), us.length = psl.length → bindArgs (PySem.W.kla_fn "<lambda>" q params body scope cl pm cv ctv) ⟨us, []⟩ = pure (psl.zip us)) (hdef : defaultsOf params X0.env = ([], []))
  (hlam : ∀ (cl : List (Str × Addr)) (c' f : Addr) (A : Around) (outer : List Env) (s : Shared) (H : Hp) (E : XK), CtxOk (fun _ : Unit => NdefX.ncx (L2.CX P w) P w K mg base Nl (lamF lamQ params scope cl c') f A outer s H E) P w K mg base kl (WB E) Nl scope →
   BE (fun _ : Unit => NdefX.ncx (L2.CX P w) P w K mg base Nl (lamF lamQ params scope cl c') f A outer s H E) K (WB E) body fe)
  (np : D → List D → Option (Option Exn)) (hnp : ∀ (f : Addr) (φ : Heap → Prop) (z : V) (d : D) (ds : List D) (r : Option Exn), np d ds = some r →
   ds.length = 3 ∧ runF fx Ng.length (bodyG (fAct f φ [z] 2 1 (runF [] Nl.length (sRet fe)) 3)) ((ds ++ [D.lam f φ [z] [d]]).map .dat) = some (va8 ((ds ++ [D.lam f φ [z] [d]]).map .dat) r))
  (h1 : BE (fun _ : Unit => X0) K W e1 f1) (h2 : BE (fun _ : Unit => X0) K W e2 f2) (h3 : BE (fun _ : Unit => X0) K W e3 f3)
  (s1 : starEach [e1, e2, e3, .Lambda params body scope lpos] X0.env = (false, eval e1 X0.env) :: starEach [e2, e3, .Lambda params body scope lpos] X0.env) (s2 : starEach [e2, e3, .Lambda params body scope lpos] X0.env = (false, eval e2 X0.env) :: starEach [e3, .Lambda params body scope lpos] X0.env)
  (s3 : starEach [e3, .Lambda params body scope lpos] X0.env = (false, eval e3 X0.env) :: starEach [.Lambda params body scope lpos] X0.env) (s4 : starEach [.Lambda params body scope lpos] X0.env = (false, eval (.Lambda params body scope lpos) X0.env) :: starEach [] X0.env) (hpl : (backTo pos (starEach [e2, e3, .Lambda params body scope lpos] X0.env)).any (·.1) = false) :
  BE (fun _ : Unit => X0) K W (.Call (.Name xg p) [e1, e2, e3, .Lambda params body scope lpos] [] pos) (qa0 j np (jb f1 (jb f2 (jb f3 vNil)))) := by
 obtain ⟨t1, p1, d1⟩ := h1
 obtain ⟨t2, p2, d2⟩ := h2
 obtain ⟨t3, p3, d3⟩ := h3
 obtain ⟨g, fd, Fg, hmg, hbg⟩ := hT.ex
 obtain ⟨oc, od, kV, doc, pm, an, cdv, ct, osl, rfl, lk, hcd⟩ := Fg.ex
 have eP := B.pP (); have ew := B.pw (); have eK := B.pK (); have em := B.pm (); have eb := B.pb ()
 have en := B.nN (); have es := B.ns ()
 subst eP ew eK em eb
 refine ⟨fun σ H Q => (tCons t1 (tCons t2 (tCons t3 (tCons (tLamE Pt lpos (fun c' => lamF lamQ params scope (cloFrom X0.env.cells scope.names []) c') body) tNil)))) σ H
  (q4L X0.K Pt lpos (fun c' => lamF lamQ params scope (cloFrom X0.env.cells scope.names []) c') body j (fun f φ zs => runF fx Ng.length (bodyG (fAct f φ zs 2 1 (runF [] Nl.length (sRet fe)) 3))) W σ Q), fun _ => ⟨fun pins s σ H Q I h => ?_⟩, ?_⟩
 ·have pe4 := pe_lamE (X := X0) (body := body) (scope := scope) (lpos := lpos) TB hcode hq hdef (by rw [es]; exact hfree)
  have pa := pa_cons (p1 ()) (pa_cons (p2 ()) (pa_cons (p3 ()) (pa_cons pe4 pa_nil s4) s3) s2) s1
  refine wpAny_Call_Name_kw (ld_glob I (B.gl hgl ()) hmg ?_ hdb)
  refine PySem.W.callWith_K (h₀ := X0.base) I.ok.mod.kin Fg.kp (thn (pa.run pos pins s σ H _ I h) fun us s2 ⟨vs, H2, I2, r, f, c', H3, z, hz, m, hl, hsp⟩ => ⟨I2.kIn, ?_⟩) s1 hpl
  have hul : us.length = psg.length := by rw [← r.length, hl, hp4]
  have hbt := hbg s2 us I2.kIn (by rw [List.append_nil]; exact hul)
  rw [List.append_nil] at hbt
  have rc : codeAny (model X0.prog X0.w) X0.A (.call (.ref g) ⟨us, []⟩) (CR (L2.CX X0.prog X0.w) X0.stack X0.prog X0.w H2 s2 Q (WE W σ)) s2 := by
   refine LamX.run_ofS (N := Ng) (ps := psg) lk hcd hT.sc (B.room ()) I2.env0 hbt r (by rw [hl, hp4]) fun hr' => ?_
   have C1 : CtxOk (fun _ : Unit => cxOf (L2.CX X0.prog X0.w) X0.prog X0.w X0.K X0.mg X0.base Ng xg (defScope stg) g cdv X0.A X0.stack s2 H2 (WE W σ)) X0.prog X0.w X0.K X0.mg X0.base (kl + 1) (WB (WE W σ)) Ng (defScope stg) :=
    ⟨fun _ => rfl, fun _ => rfl, fun _ => rfl, fun _ => rfl, fun _ => rfl, fun _ => hr', fun _ => takes_of rfl rfl rfl rfl, fun _ => rfl, fun _ => passes_of rfl, fun _ => rfl, fun _ => rfl, hT.sc.nd⟩
   have hlr : LamRun X0.prog X0.w X0.K X0.mg X0.base (kl + 1) f (lamF lamQ params scope (cloFrom X0.env.cells scope.names []) c') body [y0] (spL X0.K 2 1 (runF [] Nl.length (sRet fe))) :=
    lam_ok S (fun pm ctv us h => hbind _ _ _ _ _ us h) hl2 rfl hl3 fun A outer s H E hB => hlam _ c' f A outer s H E hB
   have hfreeX : ∀ y ∈ scope.names, y.2 = .free → X0.env.scope.names.lookup y.1 = some .cell ∨ X0.env.scope.names.lookup y.1 = some .free := by rw [es]; exact hfree
   have caps : NdefX.Caps X0 (cloFrom X0.env.cells scope.names []) [y0] [j] := NdefX.Caps.made I2.ok hfreeX hfr (by rw [List.map_cons, List.map_nil, en, hj]; rfl)
   have hcells := NdefX.cells_of I2 caps
   have hz2 : [j].map (NdefX.slotAt σ) = ([z] : List V).map some := by rw [List.map_cons, List.map_nil, NdefX.slotAt_of hz]; rfl
   rw [hz2] at hcells
   have act : ActOk X0.prog X0.w X0.K X0.mg X0.base (kl + 1) (cxOf (L2.CX X0.prog X0.w) X0.prog X0.w X0.K X0.mg X0.base Ng xg (defScope stg) g cdv X0.A X0.stack s2 H2 (WE W σ)) Pt f (lamF lamQ params scope (cloFrom X0.env.cells scope.names []) c') body [y0] [z] 2 1 (runF [] Nl.length (sRet fe)) := by
    refine ⟨hlr, ⟨lpos, m.told⟩, fun y a ha hb => ?_, hcells, rfl, rfl⟩
    have ha2 := caps.sub y a ha
    obtain ⟨v, o, ho, hd⟩ := I2.cell y a ha2
    rcases List.mem_cons.mp (I2.stkSub a hb) with e | e
    ·obtain ⟨mm, ⟨o2, es2, ep2, k1, k2, _⟩, _⟩ := I2.loc
     rw [← e, ho] at k1
     cases k1
     rw [hd] at k2; cases k2
    ·obtain ⟨_, o3, k1, _⟩ := I2.ok.funs.mem e
     have := I2.ok.cab y a (hfn y) ha2
     exact absurd (Heap.lt_size k1) (Nat.not_lt.mpr this)
   obtain ⟨t, ht, hs⟩ := hT.body g cdv X0.A X0.stack s2 H2 (WE W σ) C1 (fAct f (LamO f (lamF lamQ params scope (cloFrom X0.env.cells scope.names []) c') body) [z] 2 1 (runF [] Nl.length (sRet fe)) 3)
    fun e es ga p pos he hpl ha => be_actL C1 act hP (fun cs r cs' => ka7 cs r cs') 3 i3 v3 (by decide) (by decide) he hpl ha
   exact ⟨t, ht (), vbj hs h4 hsp⟩
  refine wpAny_call (codeAny_mono rc fun r s' hq => ?_)
  cases r with
  | error e => exact passAt (B.tk ()) σ pins H2 s2 e s' I2 hq
  | ok fl =>
   cases fl with
   | ret u => exact I2.after hq
   | next => exact False.elim hq
   | brk => exact False.elim hq
   | cont => exact False.elim hq
 ·intro σ C H ρ e
  have hg := q7 d1 (q7 d2 (q7 d3 (sg_nil (K := X0.K) (W := W))))
  show At X0.K W (VRel X0.K H) σ C H ρ (fun H Q => tCons t1 (tCons t2 (tCons t3 tNil)) σ H fun vs H3 => TS1 H3 Pt ∧ ∀ (f c : Addr) (H4 : Hp), Mkd H3 Pt lpos (fun c' => lamF lamQ params scope (cloFrom X0.env.cells scope.names []) c') body f c H4 →
   q4L X0.K Pt lpos (fun c' => lamF lamQ params scope (cloFrom X0.env.cells scope.names []) c') body j (fun f φ zs => runF fx Ng.length (bodyG (fAct f φ zs 2 1 (runF [] Nl.length (sRet fe)) 3))) W σ Q (vs ++ [.ref f]) H4) (jd (jb f1 (jb f2 (jb f3 vNil)) ρ) _)
  refine At.bind (tk := fun (vs : List V) (H3 : Hp) (Q : VK) => TS1 H3 Pt ∧ ∀ (f c : Addr) (H4 : Hp), Mkd H3 Pt lpos (fun c' => lamF lamQ params scope (cloFrom X0.env.cells scope.names []) c') body f c H4 →
   q4L X0.K Pt lpos (fun c' => lamF lamQ params scope (cloFrom X0.env.cells scope.names []) c') body j (fun f φ zs => runF fx Ng.length (bodyG (fAct f φ zs 2 1 (runF [] Nl.length (sRet fe)) 3))) W σ Q (vs ++ [.ref f]) H4) (hg σ C H ρ e) fun ds ρ1 vs C1 H3 q1 r1 => ?_
  have r1 : Iss X0.K C1 ds vs := r1
  cases z1 : ρ1[j]? with
  | none => exact At.nil
  | some cc =>
   obtain ⟨v, hv, ok⟩ := q1.env.cell j cc z1
   cases cc with
   | no => exact At.nil
   | own m => exact At.nil
   | dat d =>
    obtain ⟨z, rfl, hz⟩ := ok
    dsimp only
    intro out Q ho hok hex
    cases q2 : np d ds with
    | none => rw [q2] at ho; cases ho
    | some r =>
     rw [q2] at ho
     refine ⟨q1.env.tab Pt hP, fun f c' H4 m => ?_⟩
     have n1 : C1 f = none := q1.env.ext.none m.new
     have st : Step C1 H3 (upd C1 f (.ext (LamO f (lamF lamQ params scope (cloFrom X0.env.cells scope.names []) c') body))) H4 (fun _ => False) := by
      refine ⟨Ex.new n1, ⟨fun b o hb nt => ?_, fun b hb => ?_⟩, fun b o hb nt _ => m.ex.1 b o hb nt, fun b h1 h2 => ?_, m.ex.2, m.tabs⟩
      ·by_cases e : b = f
       ·subst e; rw [upd_same] at hb; cases hb; exact m.fn
       ·rw [upd_ne e] at hb; exact m.ex.1 b o (q1.env.ext.1 b o hb nt) nt
      ·by_cases e : b = f
       ·subst e; rw [m.fn] at hb; cases hb
       ·rw [upd_ne e]; exact q1.env.ext.2 b (m.ex.2 b hb)
      ·by_cases e : b = f
       ·exact .inl (by rw [e]; exact m.new)
       ·rw [upd_ne e] at h2; exact absurd h1 h2
     have e4 := q1.env.step st
     have iss4 : Iss X0.K (upd C1 f (.ext (LamO f (lamF lamQ params scope (cloFrom X0.env.cells scope.names []) c') body))) (ds ++ [D.lam f (LamO f (lamF lamQ params scope (cloFrom X0.env.cells scope.names []) c') body) [z] [d]]) (vs ++ [.ref f]) :=
      (Iss.mono st.core _ _ r1).app (yb (is_lam_iff.mpr ⟨rfl, upd_same, yb (Is.mono st.core _ _ hz) kc⟩) kc)
     have hl : (vs ++ [V.ref f]).length = 4 := by
      have hh := hnp f (LamO f (lamF lamQ params scope (cloFrom X0.env.cells scope.names []) c') body) z d ds r q2
      rw [List.length_append, r1.length, hh.1]; rfl
     refine ⟨f, c', H3, z, hv, m, hl, spF_part e4.ext e4.tab iss4 hl (hnp _ _ _ _ _ _ q2).2 (fun hr C' H' s' => ?_) fun ee hr dd C' H' s' k => ?_⟩
     ·subst hr
      cases ho
      exact hok _ _ rfl .non C' H' (Post.of_step q1.env (st.trans s' fun _ z => z.elim)) (show Is X0.K C' (.s .non) .non from is_s)
     ·subst hr
      cases ho
      exact hex ee _ rfl dd C' H' (Post.of_step q1.env (st.trans s' fun _ z => z.elim)) k
end
end PL
namespace PL
open PySem L2 PySem.Spec PyProof.Rows
section
variable {ι : Type} {X : ι → Cx} {P : Program} {w : World} {K : PySem.W.Frag} {mg : Str → Option Value} {base : Heap} {kn : Nat} {W : WX} {N : List Str} {sc : Scope} {xg xk : Str} {stg : Stmt} {Ng psg : List Str} {fx : List Nat} {bodyG : (PL.P (List Arg) → PL.P Rv) → PL.P Fl}
variable {p p2 pos : Pos} {f1 f2 f3 Fk : PL.P Rv} {e1 e2 e3 : Expr}
theorem be_needK (B : CtxOk X P w K mg base (kn + 1) W N sc) (hT : NeedT P w K mg base kn xg stg Ng psg fx bodyG) (hp4 : psg.length = 4) (h4 : 4 ≤ Ng.length) (i3 : Ng[3]? = some ("is_right" : Str)) (v3 : Vis (defScope stg) ("is_right" : Str)) (hK : xn P w K mg base kn xk 2 Fk)
  (np : List D → Option (Option Exn)) (hnp : ∀ (g : Addr) (ds : List D) (r : Option Exn), np ds = some r → ds.length = 3 ∧ runF fx Ng.length (bodyG (jah g 2 Fk 3)) ((ds ++ [D.s (.ref g)]).map .dat) = some (va8 ((ds ++ [D.s (.ref g)]).map .dat) r))
  (h1 : BE X K W e1 f1) (h2 : BE X K W e2 f2) (h3 : BE X K W e3 f3)
  (hgl : sc.names.lookup xg = some .globalImplicit := by rfl) (hdb : (xg == ("__debug__" : Str)) = false := by decide) (hgk : sc.names.lookup xk = some .globalImplicit := by rfl) (hdk : (xk == ("__debug__" : Str)) = false := by decide)
  (s1 : ∀ i, starEach [e1, e2, e3, .Name xk p2] (X i).env = (false, eval e1 (X i).env) :: starEach [e2, e3, .Name xk p2] (X i).env := by intro _; rfl) (s2 : ∀ i, starEach [e2, e3, .Name xk p2] (X i).env = (false, eval e2 (X i).env) :: starEach [e3, .Name xk p2] (X i).env := by intro _; rfl)
  (s3 : ∀ i, starEach [e3, .Name xk p2] (X i).env = (false, eval e3 (X i).env) :: starEach [.Name xk p2] (X i).env := by intro _; rfl) (s4 : ∀ i, starEach [.Name xk p2] (X i).env = (false, eval (.Name xk p2) (X i).env) :: starEach [] (X i).env := by intro _; rfl) (hpl : ∀ i, (backTo pos (starEach [e2, e3, .Name xk p2] (X i).env)).any (·.1) = false := by intro _; rfl) :
  BE X K W (.Call (.Name xg p) [e1, e2, e3, .Name xk p2] [] pos) (fPart np (jb f1 (jb f2 (jb f3 vNil)))) := by
 obtain ⟨t1, p1, d1⟩ := h1
 obtain ⟨t2, p2', d2⟩ := h2
 obtain ⟨t3, p3, d3⟩ := h3
 obtain ⟨g, fd, Fg, hmg, hbg⟩ := hT.ex
 obtain ⟨gk, fdk, psk, k1, k2, k3, k4⟩ := hK.ex
 have fn : FnOk P w K mg base (L2.CX P w) (kn + 1) g fd psg (spF K 4 (runF fx Ng.length (bodyG (jah gk 2 Fk 3)))) :=
  def_fn Fg hT.sc hp4 h4 fun cdv A outer s H E C1 => hT.body g cdv A outer s H E C1 (jah gk 2 Fk 3) fun e es ga p pos he hpl ha => be_actK C1 k1 k3 k4 hK.rv 3 i3 v3 (by decide) (by decide) he hpl ha
 have hg4 : ∀ i, PE (X i) (.Name xk p2) (tC (.ref gk)) := fun i => pe_glob (B.gl hgk i) (by rw [B.pm i]; exact k2) (show RelV (.ref gk) (.ref gk) from rfl) hdk
 refine ⟨_, fun i => pe_callE (B.pP i) (B.pw i) (B.pK i) (B.pm i) (B.pb i) (B.tk i) fn (B.room i) (B.gl hgl i) hmg Fg.kp hbg (pa_cons (p1 i) (pa_cons (p2' i) (pa_cons (p3 i) (pa_cons (hg4 i) pa_nil (s4 i)) (s3 i)) (s2 i)) (s1 i)) hdb (s1 i) (hpl i), ?_⟩
 intro σ C H ρ e
 have hg := q7 d1 (q7 d2 (q7 d3 (sg_nil (K := K) (W := W))))
 show At K W (VRel K H) σ C H ρ (fun H Q => tCons t1 (tCons t2 (tCons t3 tNil)) σ H fun vs H3 => spF K 4 (runF fx Ng.length (bodyG (jah gk 2 Fk 3))) (vs ++ [.ref gk]) H3 Q (WE W σ)) (jd (jb f1 (jb f2 (jb f3 vNil)) ρ) _)
 refine At.bind (tk := fun (vs : List V) (H3 : Hp) (Q : VK) => spF K 4 (runF fx Ng.length (bodyG (jah gk 2 Fk 3))) (vs ++ [.ref gk]) H3 Q (WE W σ)) (hg σ C H ρ e) fun ds ρ1 vs C1 H3 q1 r1 => ?_
 have r1 : Iss K C1 ds vs := r1
 intro out Q ho hok hex
 cases q2 : np ds with
 | none => rw [q2] at ho; cases ho
 | some r =>
  rw [q2] at ho
  have hh := hnp gk ds r q2
  have iss4 : Iss K C1 (ds ++ [D.s (.ref gk)]) (vs ++ [.ref gk]) := r1.app (yb is_s kc)
  refine spF_part q1.env.ext q1.env.tab iss4 (by rw [List.length_append, r1.length, hh.1]; rfl) hh.2 (fun hr C' H' s' => ?_) fun ee hr dd C' H' s' k => ?_
  ·subst hr
   cases ho
   exact hok _ _ rfl .non C' H' (Post.of_step q1.env s') (show Is K C' (.s .non) .non from is_s)
  ·subst hr
   cases ho
   exact hex ee _ rfl dd C' H' (Post.of_step q1.env s') k
end
section
variable {ι : Type} {X : ι → Cx} {P : Program} {w : World} {K : PySem.W.Frag} {mg : Str → Option Value} {base : Heap} {k : Nat} {W : WX} {N : List Str} {sc : Scope} {x : Str} {pos : Pos}
theorem be_globD {d : D} (B : CtxOk X P w K mg base k W N sc) (h : ∃ (v : V) (u : Value), mg x = some u ∧ RelV v u ∧ ∀ C, Is K C d v) (hg : sc.names.lookup x = some .globalImplicit := by rfl) (hd : (x == ("__debug__" : Str)) = false := by decide) : BE X K W (.Name x pos) (fC d) := by
 obtain ⟨v, u, hm, r, hI⟩ := h
 exact ⟨_, fun i => pe_glob (B.gl hg i) (by rw [B.pm i]; exact hm) r hd, fun σ C H ρ e => At.ret (R := VRel K H) e (hI C)⟩
theorem tup_strs {a : Addr} {ys : List Str} (h : ∃ (o : Obj) (its : Array Value) (n : Nat), K.lookup a = some o ∧ o.cls = .type "tuple" ∧ o.data = .seq its n ∧ its.size ≤ sizeLine ∧ Vals (ys.map V.str) its.toList) (C : Hp) : Is K C (.tup (ys.map fun y => .s (.str y))) (.ref a) := by
 refine is_tup_iff.mpr ⟨a, ys.map V.str, rfl, .inr h, ?_⟩
 clear h
 induction ys with
 | nil => exact kc
 | cons y ys ih => exact yb is_s ih
end
def npGo (G : D → List D → Option Bool) (most : Int) (ds : List D) : Nat → Option Bool
 | 0 => some true
 | n + 1 => match npGo G most ds n with
  | some true => if (n : Int) = most then none else (match ds[n]? with
   | some d => (match G d (ds.take n) with
    | some true => some true
    | _ => none)
   | none => none)
  | _ => none
def kax (F : P Rv) (cs : List Cell) : Option Bool := match F cs with
 | some (.ok (.dat (.s (.bl b))) cs') => some b
 | _ => none
def npOk (G : D → List D → Option Bool) : List D → Option (Option Exn)
 | [.s (.str _), .tup ds, .s (.int most)] => (match npGo G most ds ds.length with
  | some true => some none
  | _ => none)
 | _ => none
theorem zbh {G : D → List D → Option Bool} {most : Int} {ds : List D} {n : Nat} (h : npGo G most ds n = some true) : ∀ i d, i < n → ds[i]? = some d → (i : Int) ≠ most ∧ G d (ds.take i) = some true := by
 induction n with
 | zero => intro i d hi; omega
 | succ n ih =>
  intro i d hi hd
  unfold npGo at h
  cases q : npGo G most ds n with
  | none => rw [q] at h; cases h
  | some b =>
   cases b with
   | false => rw [q] at h; cases h
   | true =>
    rw [q] at h
    dsimp only at h
    by_cases e : (n : Int) = most
    ·rw [if_pos e] at h; cases h
    ·rw [if_neg e] at h
     by_cases hin : i < n
     ·exact ih q i d hin hd
     ·have : i = n := by omega
      subst this
      rw [hd] at h
      dsimp only at h
      refine ⟨e, ?_⟩
      cases q2 : G d (ds.take i) with
      | none => rw [q2] at h; cases h
      | some b => cases b with
       | false => rw [q2] at h; cases h
       | true => rfl
section
variable {QR : Rv → En → Prop} {E : Exn → En → Prop} {ρ : En}
theorem wp_part {np : List D → Option (Option Exn)} {ga : P (List D)} : wp (fPart np ga) QR E ρ ↔ wp ga (fun ds r => wpO (np ds) fun o => match o with | none => QR (.dat (.s .non)) r | some e => E e r) E ρ := by
 unfold fPart
 rw [wp_bind]
 refine wb fun ds r => ?_
 unfold wp wpO
 dsimp only
 cases np ds with
 | none => exact Iff.rfl
 | some o => cases o <;> exact Iff.rfl
theorem wp_partL {j : Nat} {np : D → List D → Option (Option Exn)} {ga : P (List D)} : wp (qa0 j np ga) QR E ρ ↔ wp ga (fun ds r => atS r j (datQ fun d => wpO (np d ds) fun o => match o with | none => QR (.dat (.s .non)) r | some e => E e r)) E ρ := by
 unfold qa0
 rw [wp_bind]
 refine wb fun ds r => ?_
 unfold wp wpO atS
 dsimp only
 cases r[j]? with
 | none => exact Iff.rfl
 | some c =>
  cases c with
  | no => exact Iff.rfl
  | own m => exact Iff.rfl
  | dat d =>
   simp only [datQ]
   cases np d ds with
   | none => exact Iff.rfl
   | some o => cases o <;> exact Iff.rfl
theorem wp_actK {g i n : Nat} {F : P Rv} {ga : P (List Arg)} : wp (jah g n F i ga) QR E ρ ↔ atS ρ i (datQ fun d => d = .s (.ref g) ∧ wp ga (fun as r => wp (jx n F as) QR E r) E ρ) := by
 unfold jah
 unfold atS
 cases q : ρ[i]? with
 | none => unfold wp; simp only [q]
 | some c =>
  cases c with
  | no => unfold wp; simp only [q, datQ]
  | own m => unfold wp; simp only [q, datQ]
  | dat d =>
   simp only [datQ]
   rw [← wp_bind]
   cases d with
   | s x =>
    cases x with
    | ref a =>
     by_cases h : a = g
     ·subst h
      have : wp (fun ρ0 => match ρ0[i]? with
       | some (.dat (.s (.ref f0))) => if f0 = a then (ga.bind (jx n F)) ρ0 else none
       | _ => none) QR E ρ ↔ wp (ga.bind (jx n F)) QR E ρ := by unfold wp; simp only [q, if_true]
      exact this.trans ⟨fun z => ⟨rfl, z⟩, fun z => z.2⟩
     ·have : ¬ (D.s (.ref a) = D.s (.ref g)) := fun z => h (by cases z; rfl)
      unfold wp; simp only [q, if_neg h]
      exact ⟨fun z => z.elim, fun z => this z.1⟩
    | _ => unfold wp; simp only [q]; exact ⟨fun z => z.elim, fun z => by cases z.1⟩
   | _ => unfold wp; simp only [q]; exact ⟨fun z => z.elim, fun z => by cases z.1⟩
theorem wp_act {f : Addr} {φ : Heap → Prop} {zs : List V} {i n m : Nat} {F : P Rv} {ga : P (List Arg)} {ks : List D} (hi : ρ[i]? = some (.dat (.lam f φ zs ks))) (hm : ks.length = m) : wp (fAct f φ zs n m F i ga) QR E ρ ↔ wp ga (fun as r => as.length = n ∧ wp (jx (n + m) F (as ++ ks.map .inl)) QR E r) E ρ := by
 have e : wp (fAct f φ zs n m F i ga) QR E ρ ↔ wp (ga.bind fun as => if as.length = n then jx (n + m) F (as ++ ks.map .inl) else PL.P.fail) QR E ρ := by
  unfold wp fAct; simp only [hi, hm, and_self, if_true]
 rw [e, wp_bind]
 refine wb fun as r => ?_
 by_cases h : as.length = n
 ·rw [if_pos h]; exact ⟨fun q => ⟨h, q⟩, fun q => q.2⟩
 ·rw [if_neg h]; exact ⟨fun q => q.elim, fun q => h q.1⟩
end
end PL
namespace PL
open PySem L2 PySem.Spec PyProof.Rows
structure FunC (K : PySem.W.Frag) (x qual : Str) (st : Stmt) (f : Addr) (fd : FuncData) (c : Addr) : Prop where
 ex : ∃ (oc : Value) (od : Option Addr) (kV doc pm : Value) (an : Option Addr) (ct : Value) (osl : Array (Option Value)),
  fd = PySem.W.fnOf x qual (defArgs st) (defBody st) (defScope st) .none kV doc pm an (.ref c) ct ∧ K.lookup f = some ⟨oc, od, .func fd, osl⟩ ∧ PySem.W.codeIn K (.ref c) qual = true
theorem make_okC {P : Program} {w : World} {K : PySem.W.Frag} {mg : Str → Option Value} {base : Heap} {k : Nat} {m x qual : Str} {fx : List Nat} {NN ps : List Str} {n : Nat} {st : Stmt} {f c : Addr} {fd : FuncData} {body : PL.P Fl} {C : Addr} (F : FunC K m qual st f fd c) (M : Mk K C f) (hm : mg x = some (.ref C)) (hb : Binds K fd ps []) (S : FnScope NN ps (defScope st)) (hn : ps.length = n + 1) (hN : n + 1 ≤ NN.length)
  (hbody : ∀ (A : Around) (outer : List PySem.Env) (s : Shared) (H : Hp) (E : XK), CtxOk (fun _ : Unit => cxOf (L2.CX P w) P w K mg base NN qual (defScope st) f (.ref c) A outer s H E) P w K mg base k (WB E) NN (defScope st) →
   BSs (fun _ : Unit => cxOf (L2.CX P w) P w K mg base NN qual (defScope st) f (.ref c) A outer s H E) K (WB E) fx (defBody st) body) : ybk P w K mg base (k + 1) x n C (runF fx NN.length body) := by
 obtain ⟨oc, od, kV, doc, pm, an, ct, osl, rfl, lk, hcd⟩ := F.ex
 refine ⟨⟨f, _, ps, fn_of lk hcd S (fun vs H Q E h => by rw [hn]; exact h.1) fun A outer s H vs Q E hr hsp => ?_, M, hm, hb⟩⟩
 obtain ⟨t, h1, h2⟩ := hbody A outer s H E ⟨fun _ => rfl, fun _ => rfl, fun _ => rfl, fun _ => rfl, fun _ => rfl, fun _ => hr, fun _ => takes_of rfl rfl rfl rfl, fun _ => rfl, fun _ => passes_of rfl, fun _ => rfl, fun _ => rfl, S.nd⟩
 exact ⟨t, h1 (), vbj h2 hN hsp⟩
structure MethAtC (K : PySem.W.Frag) (C : Addr) (m qual : Str) (st : Stmt) (f c : Addr) : Prop where
 at_ : PySem.W.findIn K (.ref C) m = some (some (.ref f))
 isf : PySem.W.isFn K (.ref f) = true
 kp : PySem.W.keepIn K (.ref f) = true
 ex : ∃ (oc : Value) (od : Option Addr) (dc pm : Value) (an : Option Addr) (ct : Value) (sl : Array (Option Value)) (kV : Value), K.lookup f = some ⟨oc, od, .func (PySem.W.fnOf m qual (defArgs st) (defBody st) (defScope st) .none kV dc pm an (.ref c) ct), sl⟩ ∧ PySem.W.codeIn K (.ref c) qual = true
theorem MethAtC.of {K : PySem.W.Frag} {C c0 : Addr} {m qual : Str} {st : Stmt} {f : Addr} {oc : Value} {od : Option Addr} {dc pm : Value} {an : Option Addr} {ct : Value} {sl : Array (Option Value)} {kV : Value} (a : PySem.W.findIn K (.ref C) m = some (some (.ref f))) (l : K.lookup f = some ⟨oc, od, .func (PySem.W.fnOf m qual (defArgs st) (defBody st) (defScope st) .none kV dc pm an (.ref c0) ct), sl⟩) (c : PySem.W.codeIn K (.ref c0) qual = true) (k : PySem.W.keepIn K (.ref f) = true) (i : PySem.W.isFn K (.ref f) = true) : MethAtC K C m qual st f c0 :=
 ⟨a, i, k, _, _, _, _, _, _, _, _, l, c⟩
theorem MethAtC.fnC {K : PySem.W.Frag} {C c : Addr} {m q : Str} {st : Stmt} {f : Addr} (a : MethAtC K C m q st f c) : ∃ fd, FunC K m q st f fd c ∧ Fun K m q st f fd := by
 obtain ⟨oc, od, dc, pm, an, ct, sl, kV, l, h⟩ := a.ex
 exact ⟨_, ⟨⟨oc, od, kV, dc, pm, an, ct, sl, rfl, l, h⟩⟩, fun_mk l h a.kp⟩
theorem MethAtC.mkOk {K : PySem.W.Frag} {C c : Addr} {q : Str} {st : Stmt} {f : Addr} (a : MethAtC K C "__init__" q st f c) (h : PySem.W.makesIn K C = true) (k : PySem.W.keepIn K (.ref C) = true) : Mk K C f := ⟨h, a.at_, a.isf, k⟩
theorem MethAtC.tabP {K : PySem.W.Frag} {C c Pt : Addr} {q : Str} {st : Stmt} {f : Addr} (a : MethAtC K C "__init__" q st f c) (g : PySem.W.nsIn K mainGlobals "Table" = some (some (.ref C))) (h : PySem.W.codeHdIn K c Pt = true) : TabP K Pt := by
 obtain ⟨oc, od, dc, pm, an, ct, sl, kV, l, _⟩ := a.ex
 exact ⟨C, f, _, _, c, g, a.at_, l, rfl, rfl, h⟩
theorem MethAtC.tab_only {K : PySem.W.Frag} {C c Pt P : Addr} {q : Str} {st : Stmt} {f : Addr} (a : MethAtC K C "__init__" q st f c) (g : PySem.W.nsIn K mainGlobals "Table" = some (some (.ref C))) (h : PySem.W.codeHdIn K c Pt = true) (hP : TabP K P) : P = Pt := by
 obtain ⟨C', f', o, fd, c', g1, g2, g3, g4, g5, g6⟩ := hP
 obtain ⟨oc, od, dc, pm, an, ct, sl, kV, l, _⟩ := a.ex
 rw [g] at g1; cases g1
 rw [a.at_] at g2; cases g2
 rw [l] at g3; cases g3
 cases g4
 cases g5
 unfold PySem.W.codeHdIn at h g6
 split at h
 ·rename_i vs _ hk
  rw [hk] at g6
  simp only [Bool.and_eq_true] at h g6
  obtain ⟨⟨⟨⟨⟨e1, _⟩, _⟩, _⟩, _⟩, _⟩ := h
  obtain ⟨⟨⟨⟨⟨e2, _⟩, _⟩, _⟩, _⟩, _⟩ := g6
  split at e1
  ·rename_i P1 z1
   split at e2
   ·rename_i P2 z2
    rw [z1] at z2
    cases z2
    exact (beq_iff_eq.mp e2).symm.trans (beq_iff_eq.mp e1)
   ·cases e2
  ·cases e1
 ·cases h
end PL
set_option maxHeartbeats 2000000
namespace PySem
open Sem (wp)
open AutoSeq1 (wpAny_loadPart')
theorem wbm (l : Addr) (items : Array Value) (n : Nat) (dct : Option Addr) (sl : Array (Option Value)) : Meets (Builtin.«enumerate.__new__» ⟨[.type "enumerate", .ref l], []⟩)
  (fun _ R s => s.heap.get? l = some { cls := .type "tuple", dict := dct, data := .seq items n, slots := sl } ∧ R (.ok (.ret (.ref (s.heap.push { cls := .type "tuple_iterator", data := .fields #[.ref l, .int 0 0] }).objs.size)))
   { s with heap := (s.heap.push { cls := .type "tuple_iterator", data := .fields #[.ref l, .int 0 0] }).push { cls := .type "enumerate", data := .fields #[.none, .bool false, .ref s.heap.objs.size, rawInt 0, .none, .none] } }) :=
 .of_wp fun prog w A R s q => by
  obtain ⟨hp, g, d, tk, os⟩ := s
  obtain ⟨h1, q⟩ := q
  have hs := sub_enumerate
  have hT : Heap.IsTuple (Shared.heap ⟨hp, g, d, tk, os⟩) l items := ⟨_, h1, rfl, n, rfl⟩
  wp_walk using wpAny_loadPart' h1
  refine wpAny_stack_any fun st => wpAny_pure ?_
  split
  ·rename_i c _ _ _ _ _
   cases (c == Value.type "enumerate") <;> (wp_walk using wpAny_loadPart' h1, wpAny_pyIter_tuple hT; exact ⟨_, rfl, q⟩)
  ·wp_walk using wpAny_loadPart' h1, wpAny_pyIter_tuple hT
   exact ⟨_, rfl, q⟩
theorem call_enumT {prog : Program} {w : World} {A : Around} {E : Value → Shared → Prop} {s : Shared} {l : Addr} {items : Array Value} {Q : Value → Shared → Prop} (hT : s.heap.IsTuple l items)
  (h : ∀ h', IsEnum h' (s.heap.objs.size + 1) s.heap.objs.size 0 .none → h'.IsTupleIter s.heap.objs.size l 0 → (∀ b o, s.heap.get? b = some o → h'.get? b = some o) → Q (.ref (s.heap.objs.size + 1)) { s with heap := h' }) :
  wpAny (model prog w) A (call (.type "enumerate") [.ref l]) Q E s := by
 obtain ⟨⟨c, dct, dt, sl⟩, hl, hc, n, hd⟩ := hT
 have hc : c = .type "tuple" := hc
 have hd : dt = .seq items n := hd
 subst hc hd
 refine callType_new F.called_enumerate (by decide) (F.typeCall_enumerate_1 _) (F.newCall_enumerate_1 _) (fun obj => F.args_object_init_2 obj _) F.entry_enumerate_new (wbm l items n dct sl) ⟨hl, ?_⟩
 have hz : (s.heap.push { cls := .type "tuple_iterator", data := .fields #[.ref l, .int 0 0] }).objs.size = s.heap.objs.size + 1 := Heap.size_push ..
 show _ ∧ _
 rw [hz]
 have he : IsEnum ((s.heap.push { cls := .type "tuple_iterator", data := .fields #[.ref l, .int 0 0] }).push { cls := .type "enumerate", data := .fields #[.none, .bool false, .ref s.heap.objs.size, rawInt 0, .none, .none] }) (s.heap.objs.size + 1) s.heap.objs.size 0 .none := by
  have q := Heap.get?_push_size (s.heap.push { cls := .type "tuple_iterator", data := .fields #[.ref l, .int 0 0] }) (o := { cls := .type "enumerate", data := .fields #[.none, .bool false, .ref s.heap.objs.size, rawInt 0, .none, .none] }) rfl
  rw [hz] at q
  exact q
 exact ⟨⟨_, he, rfl⟩, h _ he ⟨_, Heap.get?_push_of_some _ (Heap.get?_push_size _ rfl), rfl, rfl⟩ fun b o x => Heap.get?_push_of_some _ (Heap.get?_push_of_some _ x)⟩
theorem xt {prog : Program} {w : World} {A : Around} {E : Value → Shared → Prop} {s : Shared} {e it l : Addr} {i : Nat} {items : Array Value} {old : Value} {Q : Option Value → Shared → Prop} (hh : A.handled = none) (he : IsEnum s.heap e it i old) (hit : s.heap.IsTupleIter it l i) (hl : s.heap.IsTuple l items) (hx : items[i]? = none)
  (hQ : ∀ h', Heap.ExtBut it s.heap h' → Q none { s with heap := h' }) : wpAny (model prog w) A (pyNext (.ref e)) Q E s := by
 have ty : s.TypeIs (.ref e) "enumerate" := ⟨_, he, rfl⟩
 unfold pyNext
 refine wpAny_bind (wpAny_attempt (wpAny_callSpecial?_slot (name := Str.ofString "__next__") ty F.slot_enumerate_next (wpAny_call_entry F.slot_enumerate_next ty F.entry_enumerate_next ?_ (F.args_enumerate_next_1 _))))
 show wpAny _ _ (field (.ref e) 2 >>= _) _ _ _
 refine wpAny_bind (wpAny_field he rfl (x := .ref it) rfl (wpAny_bind (wpAny_nextOf_tuple_end hh hit hl hx fun h' x k1 k2 => ?_)))
 obtain ⟨o, ho, hc⟩ := k2
 exact wpAny_bind (wpAny_isInstance (T := "StopIteration") (b := true) ⟨o, ho, hc⟩ isSubtype_stop (wpAny_pure (hQ _ k1)))
end PySem
namespace PL
open PySem L2 PySem.Spec PyProof.Rows
def IteT (K : PySem.W.Frag) (a : Addr) : It :=
 ⟨fun i H => ∃ (xs : List V) (x : V), SqT K H a xs ∧ xs[i]? = some x, fun i H v H' => ∃ T x, v = .ref T ∧ H T = none ∧ H' = upd H T (.tup [.int (i : Nat), x]) ∧ ∀ xs, SqT K H a xs → xs[i]? = some x, fun i H => ∃ xs : List V, SqT K H a xs ∧ xs.length ≤ i⟩
theorem turn_enumT {P : Program} {w : World} {K : PySem.W.Frag} {elts : List Expr} {kk : Nat} {tpos : Pos} (a e it : Addr) :
  Turn P w K (.Tuple elts kk tpos) (IteT K a) [e, it] e (fun i h => (∃ old, IsEnum h e it ((i : Nat) : Int) old) ∧ h.IsTupleIter it a i ∧ e ≠ it ∧ a ≠ it ∧ e ≠ a) where
 mem := by simp
 obj := fun i h st b hb => by
  obtain ⟨⟨old, he⟩, ⟨o, ho, hc, hd⟩, _⟩ := st
  have z : b = e ∨ b = it := by simpa using hb
  rcases z with z | z
  ·subst z; exact ⟨_, he, fun v q => nomatch q⟩
  ·subst z; exact ⟨o, ho, fun v q => by rw [hd] at q; cases q⟩
 keep := fun i h h' st k => by
  obtain ⟨⟨old, he⟩, ⟨o, ho, r⟩, hne⟩ := st
  exact ⟨⟨old, k e (by simp) _ he⟩, ⟨o, k it (by simp) _ ho, r⟩, hne⟩
 item := by
  intro X hP hw hK hc i pins s σ H E I hf st hg
  subst hP hw hK
  obtain ⟨⟨old, he⟩, hit, hne, hai, hea⟩ := st
  obtain ⟨xs, x, hq, hx⟩ := hg
  obtain ⟨its, rv, p, hz⟩ := I.tuple hq
  have pT : s.heap.IsTuple a its.toArray := p
  obtain ⟨u, hu, ru⟩ := rv.get hx
  have hel : e < s.heap.objs.size := Heap.lt_size he
  have hil : it < s.heap.objs.size := by obtain ⟨_, q, _⟩ := hit; exact Heap.lt_size q
  have dr := Draws.tuple (prog := X.prog) (w := X.w) (A := X.A.in1) (show X.A.in1.handled = none from I.ok.hd hc) it a hai its.toArray
  refine wpAny_pyNext_enum_itemD dr he ⟨hit, pT⟩ (by rw [List.size_toArray]; exact (List.getElem?_eq_some_iff.mp hu).1) hne (by simp; exact ⟨hne, hea⟩) fun x2 h' tk hx2 ho hit' hT hsz hk => ?_
  have ex : x2 = u := by
   have hx2 : its.toArray[i]? = some x2 := hx2
   rw [List.getElem?_toArray, hu] at hx2
   exact (Option.some.inj hx2).symm
  subst ex
  refine ⟨_, rfl, wpAny_letOwnedTupleGo_enum (s := { s with heap := h', toks := tk + 1 }) ho fun h'' he' sb => ?_⟩
  have hT2 : h''.get? s.heap.objs.size = some { cls := .type "tuple", data := .seq #[.int i tk, x2] } := (sb.2 _ (Nat.ne_of_gt hel)).trans hT
  have new : ObjOk X.prog X.w (upd H s.heap.objs.size (.tup [.int (i : Nat), x])) h'' s.heap.objs.size (.tup [.int (i : Nat), x]) :=
   ⟨by show 2 ≤ sizeLine; decide, [.int i tk, x2], .cons ⟨_, rfl⟩ (.cons ru .nil), ⟨_, hT2, rfl, _, rfl⟩⟩
  have I1 : Inv X pins σ (upd H s.heap.objs.size (.tup [.int (i : Nat), x])) { s with heap := h'', toks := tk + 1 } :=
   I.turnedNew (ch := [e, it]) (fun b ob hb q => (sb.2 b (fun z => hb (by simp [z]))).trans (hk b ob (fun z => hb (by simp [z])) (fun z => hb (by simp [z])) q)) hf (Nat.le_refl _) new
  obtain ⟨⟨o3, ho3, r3⟩, _⟩ := hit'
  refine ⟨.ref s.heap.objs.size, _, I1, rfl, ⟨_, x, rfl, I.hok.fresh (Nat.le_refl _), rfl, fun ys hy => by rw [I.tuple_inj hy hq]; exact hx⟩, ⟨⟨x2, ?_⟩, ⟨o3, (sb.2 it (Ne.symm hne)).trans ho3, r3⟩, hne, hai, hea⟩, fun b hb => ?_⟩
  ·have e1 : ((i + 1 : Nat) : Int) = (i : Int) + 1 := by omega
   rw [e1]; exact he'
  ·have hb' : b < s.heap.objs.size := by
    have z : b = e ∨ b = it := by simpa using hb
    rcases z with z | z <;> subst z
    ·exact hel
    ·exact hil
   rw [upd_ne (Nat.ne_of_lt hb')]
   exact (hf b hb).1
 done := by
  intro X hP hw hK hc i pins s σ H E I hf st hg
  subst hP hw hK
  obtain ⟨⟨old, he⟩, hit, hne, hai, hea⟩ := st
  obtain ⟨xs, hq, hx⟩ := hg
  obtain ⟨its, rv, p, hz⟩ := I.tuple hq
  have pT : s.heap.IsTuple a its.toArray := p
  obtain ⟨f0, f1, f2, f3, f4, f5⟩ := hf it (by simp)
  have hl := rv.length
  exact xt (I.ok.hd hc) he hit pT (by simp; omega) fun h' eb => ⟨rfl, I.turned (t' := s.toks) (fun b o hb q => eb b o hb q) f0 f1 f3 f4 f5⟩
 self := fun A i s Q E st h => let ⟨⟨_, he⟩, _⟩ := st; wpAny_pyIter_enum he h
def iEnumX (K : PySem.W.Frag) (ta : TA) : TI := fun σ H R => ta σ H fun vs H1 => (∃ a xs, vs = [.ref a] ∧ SqL K H1 a xs ∧ R (Ite K a) H1) ∨ ∃ a xs, vs = [.ref a] ∧ SqT K H1 a xs ∧ R (IteT K a) H1
theorem pi_enumX {X : Cx} {e : Expr} {ta : TA} {p pos tpos : Pos} {elts : List Expr} {kk : Nat} (hg : Gl X "enumerate") (hm : X.mg "enumerate" = none) (ha : PA X [e] ta) (hs : starEach [e] X.env = [(false, eval e X.env)]) : PI X (.Tuple elts kk tpos) (.Call (.Name "enumerate" p) [e] [] pos) (iEnumX X.K ta) := by
 refine ⟨fun pins s σ H R I h => ?_⟩
 refine Call_ (ld_blt I hg hm boot_enumerate (PyProof.Rows.callWith_type1 (thn (ha.run pos pins s σ H _ I h) fun us s1 ⟨vs, H1, I1, r1, q1⟩ => ?_) hs rfl))
 have fr : ∀ b, b ∈ [s1.heap.objs.size + 1, s1.heap.objs.size] → FpOk X pins H1 b := fun b hb => by
  have hle : s1.heap.objs.size ≤ b := by
   have z : b = s1.heap.objs.size + 1 ∨ b = s1.heap.objs.size := by simpa using hb
   rcases z with z | z <;> subst z <;> omega
  exact I1.fpOk hle (I1.hok.fresh hle)
 rcases q1 with ⟨a, xs, rfl, hq, q⟩ | ⟨a, xs, rfl, hq, q⟩
 ·cases r1 with
  | cons r rr =>
   cases rr
   cases r
   obtain ⟨its, rv, p', hz⟩ := I1.list hq
   refine call_enumerate_list p'.isList fun h' he hit hsz hk => wpAny_pyIter_enum he ?_
   have I2 : Inv X pins σ H1 { s1 with heap := h' } := I1.kept (t' := s1.toks) hk
   exact ⟨s1.heap.objs.size + 1, [s1.heap.objs.size + 1, s1.heap.objs.size], _, _, H1, rfl, I2, turn_enum a (s1.heap.objs.size + 1) s1.heap.objs.size, ⟨⟨.none, he⟩, hit, Nat.succ_ne_self _⟩, fr, q⟩
 ·cases r1 with
  | cons r rr =>
   cases rr
   cases r
   obtain ⟨its, rv, p', hz⟩ := I1.tuple hq
   have hal : a < s1.heap.objs.size := by obtain ⟨o, ho, _⟩ := id p'; exact Heap.lt_size ho
   refine PySem.call_enumT (show s1.heap.IsTuple a its.toArray from p') fun h' he hit hk => wpAny_pyIter_enum he ?_
   have I2 : Inv X pins σ H1 { s1 with heap := h' } := I1.kept (t' := s1.toks) hk
   exact ⟨s1.heap.objs.size + 1, [s1.heap.objs.size + 1, s1.heap.objs.size], _, _, H1, rfl, I2, turn_enumT a (s1.heap.objs.size + 1) s1.heap.objs.size, ⟨⟨.none, he⟩, hit, Nat.succ_ne_self _, Nat.ne_of_lt hal, Nat.ne_of_gt (Nat.lt_succ_of_lt hal)⟩, fr, q⟩
def kbi (g : P (List D)) : P (List D) := g.bind fun ds => match ds with
 | [.lst es] => P.ret (jc 0 es)
 | [.ro es] => P.ret (jc 0 es)
 | [.tup es] => P.ret (jc 0 es)
 | _ => P.fail
section
variable {K : PySem.W.Frag} {W : WX}
theorem enum_get : ∀ {es : List D} {i k : Nat} {d : D}, (jc k es)[i]? = some d → ∃ x, es[i]? = some x ∧ d = .tup [.s (.int ((k + i : Nat) : Int)), x] := by
 intro es
 induction es with
 | nil => intro i k d h; simp [jc] at h
 | cons e es ih =>
  intro i k d h
  cases i with
  | zero => simp [jc] at h; exact ⟨e, rfl, by rw [← h]; rfl⟩
  | succ i =>
   simp [jc] at h
   obtain ⟨x, h1, h2⟩ := ih h
   exact ⟨x, by simpa using h1, by rw [h2, show k + 1 + i = k + (i + 1) by omega]⟩
theorem zbc : ∀ {es : List D} {k : Nat}, (jc k es).length = es.length
 | [], _ => rfl
 | e :: es, k => by simp [jc, zbc]
theorem it_enumT {C : Hp} {a : Addr} {ds : List D} {xs : List V} (h : SqT K C a xs) (hs : Iss K C ds xs) : ItOk K C (IteT K a) (jc 0 ds) := by
 intro C' H' e1 e2 i
 have h' : SqT K H' a xs := ex_t e2 (ex_t e1 h)
 refine ⟨fun hi => ?_, fun hi => ⟨xs, h', by rw [hs.length]; rw [zbc] at hi; exact hi⟩, fun x H'' d hy hd => ?_⟩
 ·rw [zbc] at hi
  obtain ⟨x, hx, _⟩ := hs.get (List.getElem?_eq_getElem hi)
  exact ⟨xs, x, h', hx⟩
 ·obtain ⟨T, y, rfl, hT, rfl, hy⟩ := hy
  obtain ⟨u, k1, rfl⟩ := enum_get hd
  obtain ⟨u', k3, k4⟩ := hs.get k1
  obtain rfl : u' = y := Option.some.inj (k3.symm.trans (hy xs h'))
  have st := Step.newD (o := .tup [.int (i : Nat), u']) e2 hT
  exact ⟨_, st, xaz (SqT.of upd_same) (yb (by rw [Nat.zero_add]; exact is_s) (yb (Is.mono (e1.trans st.core) u u' k4) kc))⟩
theorem sd_enumX {t : TA} {g : PL.P (List D)} (hf : Sd K W (xak K) t g) : Sd K W (jn K) (iEnumX K t) (kbi g) := by
 intro σ C H ρ e
 show At K W (jn K H) σ C H ρ (fun H R => t σ H fun vs H1 => (∃ a xs, vs = [.ref a] ∧ SqL K H1 a xs ∧ R (Ite K a) H1) ∨ ∃ a xs, vs = [.ref a] ∧ SqT K H1 a xs ∧ R (IteT K a) H1) (jd (g ρ) fun ds => match ds with
  | [.lst es] => P.ret (jc 0 es)
  | [.ro es] => P.ret (jc 0 es)
  | [.tup es] => P.ret (jc 0 es)
  | _ => P.fail)
 refine At.bind (tk := fun (vs : List V) (H1 : Hp) (R : It → Hp → Prop) => (∃ a xs, vs = [.ref a] ∧ SqL K H1 a xs ∧ R (Ite K a) H1) ∨ ∃ a xs, vs = [.ref a] ∧ SqT K H1 a xs ∧ R (IteT K a) H1) (hf σ C H ρ e) fun ds ρ1 vs C1 H1 p1 r1 => ?_
 split
 ·obtain ⟨v, r, rfl, k1, k2⟩ := iss_cons_iff.mp r1
  cases iss_nil_iff.mp k2
  obtain ⟨a, xs, rfl, k3, k4⟩ := is_lst_iff.mp k1
  exact At.imp (At.ret (R := jn K H) p1.env (it_enum (SqL.of k3) k4)) fun Q h => .inl ⟨a, xs, rfl, SqL.of (p1.env.ext.1 _ _ k3 zk), h⟩
 ·obtain ⟨v, r, rfl, k1, k2⟩ := iss_cons_iff.mp r1
  cases iss_nil_iff.mp k2
  obtain ⟨a, xs, rfl, k3, k4⟩ := is_ro_iff.mp k1
  exact At.imp (At.ret (R := jn K H) p1.env (it_enum k3 k4)) fun Q h => .inl ⟨a, xs, rfl, ex_l p1.env.ext k3, h⟩
 ·obtain ⟨v, r, rfl, k1, k2⟩ := iss_cons_iff.mp r1
  cases iss_nil_iff.mp k2
  obtain ⟨a, xs, rfl, k3, k4⟩ := is_tup_iff.mp k1
  exact At.imp (At.ret (R := jn K H) p1.env (it_enumT k3 k4)) fun Q h => .inr ⟨a, xs, rfl, ex_t p1.env.ext k3, h⟩
 ·exact At.nil
end
section
variable {ι : Type} {X : ι → Cx} {P : Program} {w : World} {K : PySem.W.Frag} {mg : Str → Option Value} {base : Heap} {k : Nat} {W : WX} {N : List Str} {sc : Scope} {a : Expr} {gd : PL.P (List D)} {p pos tpos : Pos}
theorem bi_enumX {elts : List Expr} {kk : Nat} (B : CtxOk X P w K mg base k W N sc) (hm : mg "enumerate" = none) (ha : BAd X K W [a] gd) (hg : sc.names.lookup ("enumerate" : Str) = some .globalImplicit := by rfl) (hs : ∀ i, starEach [a] (X i).env = [(false, eval a (X i).env)] := by intro _; rfl) : BI X K W (.Tuple elts kk tpos) (.Call (.Name "enumerate" p) [a] [] pos) (kbi gd) := by
 obtain ⟨ta, pa, sa⟩ := ha
 exact ⟨_, fun i => by have := @pi_enumX (X i) a ta p pos tpos elts kk (B.gl hg i) (by rw [B.pm i]; exact hm) (pa i) (hs i); rw [B.pK i] at this; exact this, sd_enumX sa⟩
end
section
variable {QDs : List D → En → Prop} {E : Exn → En → Prop} {ρ : En}
def isSeq (d : D) (Q : List D → Prop) : Prop := match d with
 | .lst ds => Q ds
 | .ro ds => Q ds
 | .tup ds => Q ds
 | _ => False
theorem wbh {ds : List D} {Q : List D → Prop} : isSeq (.lst ds) Q ↔ Q ds := Iff.rfl
theorem isSeq_ro {ds : List D} {Q : List D → Prop} : isSeq (.ro ds) Q ↔ Q ds := Iff.rfl
theorem wac {ds : List D} {Q : List D → Prop} : isSeq (.tup ds) Q ↔ Q ds := Iff.rfl
theorem ka4 {g : P (List D)} : wp (kbi g) QDs E ρ ↔ wp g (fun ds r => one1 ds fun d => isSeq d fun es => QDs (jc 0 es) r) E ρ := by
 unfold kbi
 rw [wp_bind]
 refine wb fun ds r => ?_
 match ds with
 | [] => exact Iff.rfl
 | d :: e :: t => cases d <;> exact Iff.rfl
 | [d] => cases d <;> exact Iff.rfl
end
end PL
namespace PL.SX
open PySem PySem.Calls PyProof.Rows PySem.Spec L2
abbrev x5 (w : World) : Obj := { cls := .type "set", dict := none, data := .set #[] 0 (.fresh 0 0 (!w.params.followText "set-order")) }
end PL.SX
namespace PL
open PySem PySem.Spec PyProof.Rows L2
end PL
namespace PL
open PySem L2
section
variable {K : PySem.W.Frag} {W : WX}
def powD : D → D → Option Rv
 | .s (.int i), .s (.int j) => if 0 ≤ j ∧ j ≤ 1000000 ∧ i.natAbs < 2 ^ 64 then some (rvI (i ^ j.toNat)) else none
 | _, _ => none
def absD : List D → Option Rv
 | [.s (.int i)] => some (rvI (if i < 0 then -i else i))
 | _ => none
def fDic0 : PL.P Rv := fC (.dic [])
def tPin (t : TE) : TE := fun σ H Q => t σ H fun v H1 => Q v H1 ∨ ∃ d u, v = .ref d ∧ H1 d = some u ∧ Mut (some u) ∧ ∀ od, Q v (upd H1 d (.frz od u))
theorem pe_pin {X : Cx} {e : Expr} {t : TE} (h : PE X e t) : PE X e (tPin t) := by
 refine ⟨fun pins s σ H Q I hw => thn (h.run pins s σ _ _ I hw) fun v s1 ⟨x, H1, I1, r, q⟩ => ?_⟩
 rcases q with q | ⟨d, u, rfl, hd, mu, q⟩
 ·exact ⟨x, H1, I1, r, q⟩
 ·obtain ⟨od, I2⟩ := I1.lock hd mu
  exact ⟨_, _, I2, r, q od⟩
end
section
variable {K : PySem.W.Frag} {cs : List Addr} {kvs : List (Key × D)}
theorem none_dic : isNone (.dic kvs) = false := rfl
end
end PL
namespace PL
open PySem L2
theorem tupAt {K : PySem.W.Frag} {a : Addr} {its : Array Value} {n : Nat} {dd : Option Addr} {sl : Array (Option Value)} {ys : List Str} (h : K.lookup a = some ⟨.type "tuple", dd, .seq its n, sl⟩) (hz : its.size ≤ 1000000) (hv : Vals (ys.map V.str) its.toList) :
  ∃ (o : Obj) (its : Array Value) (n : Nat), K.lookup a = some o ∧ o.cls = .type "tuple" ∧ o.data = .seq its n ∧ its.size ≤ sizeLine ∧ Vals (ys.map V.str) its.toList := ⟨_, its, n, h, rfl, rfl, Nat.le_trans hz (by rw [size_eq]; decide), hv⟩
theorem xau {α : Type} {xs : List α} {i : Nat} (h : i ≤ xs.length) : cutG xs none (some (i : Int)) = xs.take i := by
 unfold cutG
 rw [HT.sIx_nat, HT.sIx_none, List.drop_zero, Nat.sub_zero, Nat.min_eq_left h]
theorem zba : ((("Table.__init__" : Str) ++ (".<locals>." : Str)) ++ ("<lambda>" : Str)) = lamQ := by decide +kernel
end PL
namespace PL
open PySem L2
def sSetX (i : Nat) (fi fv : PL.P Rv) : PL.P Fl := (yj fv).bind fun d => ownL i fun _ => fi.bind fun rk => fun ρ => match peek ρ rk with
 | some (.s (.int j)) => (ownL i fun ds => if 0 ≤ j ∧ j.toNat < ds.length ∧ ds.length < 4611686018427387904 then setL i (ds.set j.toNat d) .next else PL.P.fail) ρ
 | _ => none
theorem ss_setX {K : PySem.W.Frag} {W : WX} {fx : List Nat} {i : Nat} {te ti : TE} {fi fv : PL.P Rv} (hv : Sd K W (VRel K) te fv) (hi : Sd K W (VRel K) ti fi) : SdS K W fx (tAsg te (gSub (tVar i) ti rSetL)) (sSetX i fi fv) := by
 intro σ C H ρ out D e ho m
 refine yl (k := fun d => ownL i fun _ => fi.bind fun rk => fun ρ => match peek ρ rk with
  | some (.s (.int j)) => (ownL i fun ds => if 0 ≤ j ∧ j.toNat < ds.length ∧ ds.length < 4611686018427387904 then setL i (ds.set j.toNat d) .next else PL.P.fail) ρ
  | _ => none) (kj hv) e ho m fun d ρ0 v C0 H0 p0 kd z0 => ?_
 show ∃ o, σ[i]? = some (some o) ∧ ti σ H0 fun y H2 => rSetL o y v H2 fun H3 => D.nx σ H3
 unfold ownL at z0
 cases q0 : ρ0[i]? with
 | none => rw [q0] at z0; cases z0
 | some c =>
  rw [q0] at z0
  cases c with
  | no => cases z0
  | dat d => cases z0
  | own mm =>
   cases mm with
   | dk kvs => cases z0
   | dt kvs => cases z0
   | dn _ _ _ => cases z0
   | ob c fs => cases z0
   | lst ds0 =>
    obtain ⟨a, o, h1, h2, h3, xs0, rfl, h4⟩ := jk p0.env q0
    refine ⟨.ref a, h1, yl (Q := fun y H2 => rSetL (.ref a) y v H2 fun H3 => D.nx σ H3) hi p0.env z0 (Met.later (PostS.of p0) m) fun rk ρ1 y C1 H1 p k z => ?_⟩
    cases q1 : peek ρ1 rk with
    | none => rw [q1] at z; cases z
    | some dk =>
     rw [q1] at z
     cases dk with
     | s x =>
      cases x with
      | int j =>
       dsimp only at z
       cases q2 : ρ1[i]? with
       | none => rw [q2] at z; cases z
       | some c =>
        rw [q2] at z
        cases c with
        | no => cases z
        | dat d => cases z
        | own m2 =>
         cases m2 with
         | dk kvs => cases z
         | dt kvs => cases z
         | dn _ _ _ => cases z
         | ob c fs => cases z
         | lst ds =>
          obtain ⟨b, o, k1, k2, k3, xs, rfl, k4⟩ := jk p.env q2
          rw [h1] at k1; cases k1
          cases pk_s.mp (kf p.env k q1)
          by_cases hz : 0 ≤ j ∧ j.toNat < ds.length ∧ ds.length < 4611686018427387904
          ·simp only [if_pos hz] at z
           cases z
           obtain ⟨z1, z2, z3⟩ := hz
           have p2 := qh (m' := .lst (ds.set j.toNat d)) p.env q2 h1 ⟨_, rfl, k4.set j.toNat (Is.mono p.step.core d v kd)⟩
           refine ⟨a, xs, j, j.toNat, rfl, rfl, k3, ?_, ?_⟩
           ·unfold ixN
            rw [k4.length, if_pos z1, if_pos (by omega)]
           ·have mm := Met.later (PostS.of p0) m
            exact mm σ _ _ ((PostS.of p).trans (PostS.of p2))
          ·simp only [if_neg hz] at z
           cases z
      | _ => cases z
     | _ => cases z
section
variable {ι : Type} {X : ι → Cx} {P : Program} {w : World} {K : PySem.W.Frag} {mg : Str → Option Value} {base : Heap} {k : Nat} {W : WX} {N : List Str} {sc : Scope} {fx : List Nat} {i e : Expr} {fi fv : PL.P Rv} {x : Str} {p tp pos : Pos}
theorem bs_setX (B : CtxOk X P w K mg base k W N sc) (n : Nat) (hi : BE X K W i fi) (he : BE X K W e fv) (hN : N[n]? = some x := by rfl) (hv : Vis sc x := by first | exact Or.inl rfl | exact Or.inr (Or.inl rfl) | exact Or.inr (Or.inr rfl)) (hd : (x == ("__debug__" : Str)) = false := by decide)
  (hcd : (x == ("__classdict__" : Str)) = false := by decide)
  (ha : ∀ z, ∀ v, assign (.Subscript (.Name x p) i tp) (X z).env v = (do
   let ov ← holding [v] (eval (.Name x p) (X z).env)
   let iv ← holding [v, ov] (eval i (X z).env)
   standAt tp
   holding [v, ov, iv] (setItem ov iv v)
   release [v, ov, iv] []) := by intro _ _; rfl)
  (hs : ∀ z, swapsWithSole [.Subscript (.Name x p) i tp] e pos.line (X z).env = pure false := by intro _; rfl) (hw : ∀ z, swappedStores [.Subscript (.Name x p) i tp] e (X z).env = pure none := by intro _; rfl)
  (h1 : ∀ z, (assignEach [.Subscript (.Name x p) i tp] (X z).env).map (·.2) = [assign (.Subscript (.Name x p) i tp) (X z).env] := by intro _; rfl) :
  BS X K W fx (.Assign [.Subscript (.Name x p) i tp] e pos) (sSetX n fi fv) := by
 obtain ⟨ti, pi, si⟩ := hi
 obtain ⟨te, pe, se⟩ := he
 exact ⟨_, fun z => ps_asg (pe z) (pg_sub (pe_var (B.at_ hN z) (B.vis hv z) hd hcd) (pi z) set_list (ha z)) (hs z) (hw z) (h1 z), ss_setX se si⟩
end
section
variable {QF : Fl → En → Prop} {E : Exn → En → Prop} {ρ : En}
theorem wp_setX {i : Nat} {fi fv : PL.P Rv} : wp (sSetX i fi fv) QF E ρ ↔ wp fv (fun v r => wpG r v fun d r2 => atS r2 i (jag fun _ => wp fi (fun rk r3 => wpO (peek r3 rk) fun dk => isZ dk fun j => atS r3 i (jag fun ds => (0 ≤ j ∧ j.toNat < ds.length ∧ ds.length < 4611686018427387904) ∧ QF .next (r3.set i (.own (.lst (ds.set j.toNat d)))))) E r2)) E ρ := by
 unfold sSetX
 simp only [wp_bind, wp_grab, yt]
 refine wb fun v r => x9 fun d r2 => xj fun c => wg fun _ => wb fun rk r3 => ?_
 show wp (fun ρ => match peek ρ rk with
  | some (.s (.int j)) => (ownL i fun ds => if 0 ≤ j ∧ j.toNat < ds.length ∧ ds.length < 4611686018427387904 then setL i (ds.set j.toNat d) .next else PL.P.fail) ρ
  | _ => none) QF E r3 ↔ _
 cases q : peek r3 rk with
 | none => unfold wp wpO; simp only [q]
 | some dk =>
  cases dk with
  | s x =>
   cases x with
   | int j =>
    have e1 : wp (fun ρ => match peek ρ rk with
     | some (.s (.int j)) => (ownL i fun ds => if 0 ≤ j ∧ j.toNat < ds.length ∧ ds.length < 4611686018427387904 then setL i (ds.set j.toNat d) .next else PL.P.fail) ρ
     | _ => none) QF E r3 ↔ wp (ownL i fun ds => if 0 ≤ j ∧ j.toNat < ds.length ∧ ds.length < 4611686018427387904 then setL i (ds.set j.toNat d) .next else PL.P.fail) QF E r3 := by unfold wp; simp only [q]
    refine e1.trans ?_
    rw [yt]
    show _ ↔ atS r3 i _
    refine xj fun c => wg fun ds => ?_
    by_cases h : 0 ≤ j ∧ j.toNat < ds.length ∧ ds.length < 4611686018427387904
    ·rw [if_pos h]; exact ⟨fun q => ⟨h, q⟩, fun q => q.2⟩
    ·rw [if_neg h]; exact ⟨fun q => q.elim, fun q => h q.1⟩
   | _ => unfold wp wpO; simp only [q, isZ]
  | _ => unfold wp wpO; simp only [q, isZ]
end
end PL
namespace PL
open PySem L2
section
variable {κ : Type} [DecidableEq κ] {K : PySem.W.Frag} {C H : Hp}
def getK (kvs : List (κ × D)) (k : κ) : Option D := (kvs.find? fun kv => decide (kv.1 = k)).map (·.2)
def setK (kvs : List (κ × D)) (k : κ) (v : D) : List (κ × D) :=
 if (kvs.any fun kv => decide (kv.1 = k)) = true then kvs.map (fun kv => if kv.1 = k then (kv.1, v) else kv) else kvs ++ [(k, v)]
theorem Iskv.length : ∀ {ds : List (κ × D)} {xs : List (κ × V)}, Iskv K C ds xs → xs.length = ds.length
 | [], xs, h => by cases (show xs = [] from h); rfl
 | (n, d) :: ds, xs, h => by
  obtain ⟨x, r, rfl, _, h3⟩ := h
  rw [List.length_cons, List.length_cons, Iskv.length h3]
theorem Iskv.any (k : κ) : ∀ {ds : List (κ × D)} {xs : List (κ × V)}, Iskv K C ds xs → (ds.any fun kv => decide (kv.1 = k)) = (xs.any fun kv => decide (kv.1 = k))
 | [], xs, h => by cases (show xs = [] from h); rfl
 | (n, d) :: ds, xs, h => by
  obtain ⟨x, r, rfl, _, h3⟩ := h
  simp only [List.any_cons, Iskv.any k h3]
theorem Iskv.get (k : κ) : ∀ {ds : List (κ × D)} {xs : List (κ × V)}, Iskv K C ds xs → (getK ds k = none ∧ valV xs k = none) ∨ ∃ d x, getK ds k = some d ∧ valV xs k = some x ∧ Is K C d x
 | [], xs, h => by cases (show xs = [] from h); exact .inl ⟨rfl, rfl⟩
 | (n, d) :: ds, xs, h => by
  obtain ⟨x, r, rfl, h2, h3⟩ := h
  unfold getK valV
  by_cases e : n = k
  ·exact .inr ⟨d, x, by simp [List.find?_cons, e], by simp [List.find?_cons, e], h2⟩
  ·have := Iskv.get k h3
   unfold getK valV at this
   simpa [List.find?_cons, e] using this
theorem Iskv.at : ∀ {ds : List (κ × D)} {xs : List (κ × V)} {i : Nat} {kd : κ × D}, Iskv K C ds xs → ds[i]? = some kd → ∃ x, xs[i]? = some (kd.1, x) ∧ Is K C kd.2 x
 | [], xs, i, kd, h, e => by simp at e
 | (n, d) :: ds, xs, 0, kd, h, e => by
  obtain ⟨x, r, rfl, h2, _⟩ := h
  simp at e; subst e
  exact ⟨x, rfl, h2⟩
 | (n, d) :: ds, xs, i + 1, kd, h, e => by
  obtain ⟨x, r, rfl, _, h3⟩ := h
  obtain ⟨y, h4, h5⟩ := Iskv.at (i := i) (kd := kd) h3 (by simpa using e)
  exact ⟨y, by simpa using h4, h5⟩
theorem Iskv.upd {k : κ} {d : D} {x : V} (hd : Is K C d x) : ∀ {ds : List (κ × D)} {xs : List (κ × V)}, Iskv K C ds xs → Iskv K C (ds.map fun kv => if kv.1 = k then (kv.1, d) else kv) (xs.map fun kv => if kv.1 = k then (kv.1, x) else kv)
 | [], xs, h => by cases (show xs = [] from h); rfl
 | (n, d0) :: ds, xs, h => by
  obtain ⟨y, r, rfl, h2, h3⟩ := h
  by_cases e : n = k
  ·simp only [List.map_cons, if_pos e]; exact ⟨x, _, rfl, hd, Iskv.upd hd h3⟩
  ·simp only [List.map_cons, if_neg e]; exact ⟨y, _, rfl, h2, Iskv.upd hd h3⟩
theorem Iskv.snoc {k : κ} {d : D} {x : V} (hd : Is K C d x) : ∀ {ds : List (κ × D)} {xs : List (κ × V)}, Iskv K C ds xs → Iskv K C (ds ++ [(k, d)]) (xs ++ [(k, x)])
 | [], xs, h => by cases (show xs = [] from h); exact ⟨x, [], rfl, hd, rfl⟩
 | (n, d0) :: ds, xs, h => by
  obtain ⟨y, r, rfl, h2, h3⟩ := h
  exact ⟨y, _, rfl, h2, Iskv.snoc hd h3⟩
theorem Iskv.put {k : κ} {d : D} {x : V} {ds : List (κ × D)} {xs : List (κ × V)} (h : Iskv K C ds xs) (hd : Is K C d x) : Iskv K C (setK ds k d) (putK xs k x) := by
 unfold setK putK
 rw [← Iskv.any k h]
 by_cases q : (ds.any fun kv => decide (kv.1 = k)) = true
 ·rw [if_pos q, if_pos q]; exact Iskv.upd hd h
 ·rw [if_neg q, if_neg q]; exact Iskv.snoc hd h
end
abbrev DK := Sum Key (List Key)
def keyD : D → Option Key
 | .s (.int i) => some (.inl i)
 | .s (.str x) => some (.inr x)
 | _ => none
def keysD : List D → Option (List Key)
 | [] => some []
 | d :: ds => match keyD d, keysD ds with
  | some k, some ks => some (k :: ks)
  | _, _ => none
def keyV : Key → D
 | .inl i => .s (.int i)
 | .inr x => .s (.str x)
section
variable {K : PySem.W.Frag} {C H : Hp} {W : WX}
theorem keyD_ok {d : D} {k : Key} {v : V} (h : keyD d = some k) (i : Pk K C H d v) : v = kV k := by
 unfold keyD at h
 split at h
 ·cases h; exact pk_s.mp i
 ·cases h; exact pk_s.mp i
 ·cases h
theorem is_keyV {k : Key} : Is K C (keyV k) (kV k) := by
 cases k with
 | inl i => exact is_s
 | inr x => exact is_s
def KyRel (K : PySem.W.Frag) (_ : Hp) : Rel V DK := fun C _ _ _ v k => match k with
 | .inl k => v = kV k
 | .inr ks => ∃ b, v = .ref b ∧ C b = some (.tup (ks.map kV))
theorem KyRel.mono {H0 : Hp} {C C' H' : Hp} {σ : Sl} {ρ ρ' : En} {v : V} {k : DK} (h : KyRel K H0 C H σ ρ v k) (e : Ex C C') : KyRel K H0 C' H' σ ρ' v k := by
 cases k with
 | inl k => exact h
 | inr ks => obtain ⟨b, h1, h2⟩ := h; exact ⟨b, h1, e.1 _ _ h2 nt_tup⟩
def asKy (r : Rv) : PL.P DK := fun ρ => match peek ρ r with
 | some d => (match keyD d with
  | some k => some (.ok (.inl k) ρ)
  | none => none)
 | none => none
def fKy (f : PL.P Rv) : PL.P DK := f.bind asKy
theorem sd_ky {te : TE} {f : PL.P Rv} (h : Sd K W (VRel K) te f) : Sd K W (KyRel K) te (fKy f) := by
 intro σ C H ρ e
 show At K W (KyRel K H) σ C H ρ (fun H Q => te σ H fun x H1 => Q x H1) (jd (f ρ) asKy)
 refine At.bind (tk := fun x H1 Q => Q x H1) (h σ C H ρ e) fun r ρ1 x C1 H1 p1 r1 => ?_
 unfold asKy
 cases q : peek ρ1 r with
 | none => exact At.nil
 | some d =>
  dsimp only
  cases q2 : keyD d with
  | none => exact At.nil
  | some k => exact At.ret (R := KyRel K H) p1.env (keyD_ok q2 (kf p1.env r1 q))
end
abbrev DV := Sum (List (Key × D)) (List (List Key × D))
def dvC : Cell → Option DV
 | .own (.dk kvs) => some (.inl kvs)
 | .own (.dt kvs) => some (.inr kvs)
 | .dat (.dic kvs) => some (.inl kvs)
 | _ => none
def dv (ρ : En) : Rv → Option DV
 | .dat (.dic kvs) => some (.inl kvs)
 | .new (.dk kvs) => some (.inl kvs)
 | .new (.dt kvs) => some (.inr kvs)
 | .bor i => match ρ[i]? with
  | some c => dvC c
  | none => none
 | _ => none
def DvOk (K : PySem.W.Frag) (C H : Hp) (a : Addr) : DV → Prop
 | .inl kvs => ∃ xs, Rd H a (.dK xs) ∧ Iskv K C kvs xs
 | .inr kvs => ∃ xs, Rd H a (.dT xs) ∧ Iskv K C kvs xs
theorem dvm_ok {K : PySem.W.Frag} {C H : Hp} {m : M} {w : DV} {a : Addr} {o : HO} (h : MIs K C m o) (ha : H a = some o) (q : dvC (.own m) = some w) : DvOk K C H a w := by
 cases m with
 | lst ds => cases q
 | ob c fs => cases q
 | dn _ _ _ => cases q
 | dk kvs => cases q; obtain ⟨xs, rfl, h2⟩ := h; exact ⟨xs, .inl ha, h2⟩
 | dt kvs => cases q; obtain ⟨xs, rfl, h2⟩ := h; exact ⟨xs, .inl ha, h2⟩
theorem dvd_ok {K : PySem.W.Frag} {C H : Hp} {kvs : List (Key × D)} {v : V} (e : Ex C H) (h : Is K C (.dic kvs) v) : ∃ a, v = .ref a ∧ DvOk K C H a (.inl kvs) := by
 obtain ⟨a, o, xs, rfl, h1, h2⟩ := is_dic_iff.mp h
 exact ⟨a, rfl, xs, .inr ⟨o, e.1 _ _ h1 yay⟩, isk_iff.mp h2⟩
section
variable {K : PySem.W.Frag} {W : WX} {σ : Sl} {C H H0 : Hp} {ρ : En}
theorem dv_ok {v : V} {r : Rv} {w : DV} (e : EnvOk K C H σ ρ) (h : VOk K H0 C H σ ρ v r) (q : dv ρ r = some w) : ∃ a, v = .ref a ∧ DvOk K C H a w := by
 cases r with
 | dat d =>
  cases d with
  | dic kvs => cases q; exact dvd_ok e.ext h
  | _ => cases q
 | new m =>
  obtain ⟨a, o, rfl, h2, h3, h4, h5, h6⟩ := h
  exact ⟨a, rfl, dvm_ok h4 h3 (by cases m <;> exact q)⟩
 | bor i =>
  obtain ⟨h1, c, h2⟩ := h
  have q' : dvC c = some w := by
   have : dv ρ (.bor i) = dvC c := by simp only [dv, h2]
   rw [← this]; exact q
  obtain ⟨x, hx, ok⟩ := e.cell i c h2
  rw [h1] at hx; cases hx
  cases c with
  | no => cases q'
  | dat d =>
   cases d with
   | dic kvs =>
    cases q'
    obtain ⟨y, hy, z⟩ := ok
    cases hy
    exact dvd_ok e.ext z
   | _ => cases q'
  | own m =>
   obtain ⟨p, o, h3, h4, h5, h6⟩ := ok
   cases h3
   exact ⟨p, rfl, dvm_ok h6 h5 q'⟩
def dGet : DV → DK → Option (Option D)
 | .inl kvs, .inl k => some (getK kvs k)
 | .inr kvs, .inr k => some (getK kvs k)
 | _, _ => none
theorem dGet_ok {a : Addr} {w : DV} {v : V} {k : DK} {o : Option D} (e : Ex C H) (h : DvOk K C H a w) (hk : KyRel K H0 C H σ ρ v k) (q : dGet w k = some o) :
  (o = none ∧ DGet H a v none) ∨ ∃ d x, o = some d ∧ DGet H a v (some x) ∧ Is K C d x := by
 cases w with
 | inl kvs =>
  cases k with
  | inr ks => cases q
  | inl k =>
   cases q
   obtain ⟨xs, h1, h2⟩ := h
   rcases h2.get k with ⟨g1, g2⟩ | ⟨d, x, g1, g2, g3⟩
   ·exact .inl ⟨g1, .inl ⟨xs, k, h1, hk, g2.symm⟩⟩
   ·exact .inr ⟨d, x, g1, .inl ⟨xs, k, h1, hk, g2.symm⟩, g3⟩
 | inr kvs =>
  cases k with
  | inl k => cases q
  | inr ks =>
   cases q
   obtain ⟨xs, h1, h2⟩ := h
   obtain ⟨b, rfl, hb⟩ := hk
   have hb := e.1 _ _ hb nt_tup
   rcases h2.get ks with ⟨g1, g2⟩ | ⟨d, x, g1, g2, g3⟩
   ·exact .inl ⟨g1, .inr ⟨xs, ks, b, h1, rfl, hb, g2.symm⟩⟩
   ·exact .inr ⟨d, x, g1, .inr ⟨xs, ks, b, h1, rfl, hb, g2.symm⟩, g3⟩
theorem DvOk.isD {a : Addr} {w : DV} (h : DvOk K C H a w) : IsD H a := by
 cases w with
 | inl kvs => obtain ⟨xs, h1, _⟩ := h; exact .inl ⟨xs, h1⟩
 | inr kvs => obtain ⟨xs, h1, _⟩ := h; exact .inr ⟨xs, h1⟩
def dvAt (r : Rv) {α : Type} (k : DV → PL.P α) : PL.P α := fun ρ => match dv ρ r with
 | some w => k w ρ
 | none => none
theorem At.dvAt {α' α : Type} {R : Rel α' α} {t : Rd1 α'} {r : Rv} {k : DV → PL.P α} (h : ∀ w, dv ρ r = some w → At K W R σ C H ρ t (k w ρ)) : At K W R σ C H ρ t (PL.dvAt r k ρ) := by
 unfold PL.dvAt
 cases q : dv ρ r with
 | none => exact At.nil
 | some w => exact h w q
end
def fDGet (fd : PL.P Rv) (fk : PL.P DK) : PL.P Rv := fd.bind fun rd => fk.bind fun k => dvAt rd fun w => P.of (match dGet w k with | some (some d) => some (.dat d) | _ => none)
def za0 (fd : PL.P Rv) (fk : PL.P DK) (fx : PL.P Rv) : PL.P Rv := fd.bind fun rd => dvAt rd fun _ => fk.bind fun k => (yj fx).bind fun x => dvAt rd fun w => P.of ((dGet w k).map fun o => .dat (o.getD x))
section
variable {K : PySem.W.Frag} {W : WX} {td ty tx : TE} {fd fx : PL.P Rv} {fk : PL.P DK}
theorem sd_dget2 (hd : Sd K W (VRel K) td fd) (hk : Sd K W (KyRel K) ty fk) (hx : Sd K W (VRel K) tx fx) : Sd K W (VRel K) (tDGet2 td ty tx) (za0 fd fk fx) := by
 intro σ C H ρ e
 show At K W (VRel K H) σ C H ρ (fun H Q => td σ H fun x H1 => ∃ a, x = .ref a ∧ IsD H1 a ∧ ty σ H1 fun y H2 => tx σ H2 fun z H3 => ∃ o, DGet H3 a y o ∧ Q (o.getD z) H3) (jd (fd ρ) fun rd => dvAt rd fun _ => fk.bind fun k => (yj fx).bind fun x => dvAt rd fun w => P.of ((dGet w k).map fun o => .dat (o.getD x)))
 refine At.bind (tk := fun x H1 Q => ∃ a, x = .ref a ∧ IsD H1 a ∧ ty σ H1 fun y H2 => tx σ H2 fun z H3 => ∃ o, DGet H3 a y o ∧ Q (o.getD z) H3) (hd σ C H ρ e) fun rd ρ1 x C1 H1 p1 r1 => ?_
 refine At.dvAt fun w0 qw0 => ?_
 obtain ⟨a, rfl, ok0⟩ := dv_ok p1.env r1 qw0
 refine At.imp (t := fun H1 Q => ty σ H1 fun y H2 => tx σ H2 fun z H3 => ∃ o, DGet H3 a y o ∧ Q (o.getD z) H3) ?_ fun Q h => ⟨a, rfl, ok0.isD, h⟩
 refine At.bind (tk := fun y H2 Q => tx σ H2 fun z H3 => ∃ o, DGet H3 a y o ∧ Q (o.getD z) H3) (hk σ C1 H1 ρ1 p1.env) fun k ρ2 y C2 H2 p2 r2 => ?_
 refine At.bind (tk := fun z H3 Q => ∃ o, DGet H3 a y o ∧ Q (o.getD z) H3) (kj hx σ C2 H2 ρ2 p2.env) fun x ρ3 z C3 H3 p3 r3 => ?_
 refine At.dvAt fun w qw => At.pof fun rv q => ?_
 obtain ⟨b, hb, ok⟩ := dv_ok p3.env ((r1.mono p1.env p2).mono p2.env p3) qw
 cases hb
 have r2' : KyRel K H C3 H3 σ ρ3 y k := KyRel.mono (show KyRel K H C2 H2 σ ρ2 y k from r2) p3.step.core
 cases q3 : dGet w k with
 | none => rw [q3] at q; cases q
 | some o =>
  rw [q3] at q; cases q
  rcases dGet_ok p3.env.ext ok r2' q3 with ⟨rfl, g⟩ | ⟨d, v, rfl, g, i⟩
  ·exact At.imp (At.ret (R := VRel K H) (v := z) p3.env r3) fun Q h => ⟨_, g, h⟩
  ·exact At.imp (At.ret (R := VRel K H) (v := v) p3.env i) fun Q h => ⟨_, g, h⟩
end
end PL
namespace PL
open PySem L2
def setDV (i : Nat) (k : DK) (d : D) : PL.P Fl := fun ρ => match ρ[i]?, k with
 | some (.own (.dk kvs)), .inl k => if kvs.length < sizeLine then some (.ok .next (ρ.set i (.own (.dk (setK kvs k d))))) else none
 | some (.own (.dt kvs)), .inr k => if kvs.length < sizeLine then some (.ok .next (ρ.set i (.own (.dt (setK kvs k d))))) else none
 | _, _ => none
def qbh (i : Nat) {α : Type} (k : PL.P α) : PL.P α := fun ρ => match ρ[i]? with
 | some (.own _) => k ρ
 | _ => none
def xay (i : Nat) (fk : PL.P DK) (fv : PL.P Rv) : PL.P Fl := (yj fv).bind fun d => qbh i (fk.bind fun k => setDV i k d)
section
variable {K : PySem.W.Frag} {W : WX} {fx : List Nat}
theorem ss_dput {i : Nat} {ty tv : TE} {fk : PL.P DK} {fv : PL.P Rv} (hv : Sd K W (VRel K) tv fv) (hk : Sd K W (KyRel K) ty fk) : SdS K W fx (sDPut (tVar i) ty tv) (xay i fk fv) := by
 intro σ C H ρ out D e ho m
 refine yl (k := fun d => qbh i (fk.bind fun k => setDV i k d)) (kj hv) e ho m fun d ρ0 v C0 H0 p0 kd z0 => ?_
 show ∃ o, σ[i]? = some (some o) ∧ ty σ H0 fun y H3 => ∃ a H4, o = .ref a ∧ DPut H3 a y v H4 ∧ D.nx σ H4
 unfold qbh at z0
 cases q0 : ρ0[i]? with
 | none => rw [q0] at z0; cases z0
 | some c =>
  rw [q0] at z0
  cases c with
  | no => cases z0
  | dat d => cases z0
  | own mm =>
   obtain ⟨a, o, h1, h2, h3, h4⟩ := jk p0.env q0
   refine ⟨.ref a, h1, yl (Q := fun y H3 => ∃ b H4, V.ref a = .ref b ∧ DPut H3 b y v H4 ∧ D.nx σ H4) hk p0.env z0 (Met.later (PostS.of p0) m) fun k ρ1 y C1 H1 p rk z => ?_⟩
   unfold setDV at z
   split at z
   ·rename_i kvs k q2
    by_cases hl : kvs.length < sizeLine
    ·rw [if_pos hl] at z; cases z
     obtain ⟨b, o', g1, g2, g3, xs, rfl, g4⟩ := jk p.env q2
     rw [h1] at g1; cases g1
     have p2 := qh (m' := .dk (setK kvs k d)) (o := .dK (putK xs k v)) p.env q2 h1 ⟨_, rfl, g4.put (Is.mono p.step.core d v kd)⟩
     have hy : y = kV k := rk
     rw [hy]
     exact ⟨a, _, rfl, DPut.k g3 (by rw [g4.length]; exact hl), (Met.later (PostS.of p0) m) σ _ _ ((PostS.of p).trans (PostS.of p2))⟩
    ·rw [if_neg hl] at z; cases z
   ·rename_i kvs k q2
    by_cases hl : kvs.length < sizeLine
    ·rw [if_pos hl] at z; cases z
     obtain ⟨b, o', g1, g2, g3, xs, rfl, g4⟩ := jk p.env q2
     rw [h1] at g1; cases g1
     have p2 := qh (m' := .dt (setK kvs k d)) (o := .dT (putK xs k v)) p.env q2 h1 ⟨_, rfl, g4.put (Is.mono p.step.core d v kd)⟩
     obtain ⟨b, rfl, hb⟩ : ∃ b, y = .ref b ∧ C1 b = some (.tup (k.map kV)) := rk
     exact ⟨a, _, rfl, DPut.t g3 (p.env.ext.1 _ _ hb nt_tup) (by rw [g4.length]; exact hl), (Met.later (PostS.of p0) m) σ _ _ ((PostS.of p).trans (PostS.of p2))⟩
    ·rw [if_neg hl] at z; cases z
   ·cases z
end
theorem froze_at {K : PySem.W.Frag} {σ : Sl} {C H : Hp} {ρ ρ' : En} {p : Addr} {u : HO} {od : Obj} (e : EnvOk K C H σ ρ) (hc : C p = none) (hp : H p = some u) (nx : NX u) (hl : ρ'.length = ρ.length)
  (hr : ∀ (i : Nat) (c : Cell), ρ'[i]? = some c → (ρ[i]? = some c ∧ ∀ m, c = .own m → σ[i]? ≠ some (some (.ref p))) ∨ ∃ d, c = .dat d ∧ σ[i]? = some (some (.ref p)) ∧ Is K (upd C p (.frz od u)) d (.ref p)) :
  EnvOk K (upd C p (.frz od u)) (upd H p (.frz od u)) σ ρ' ∧ Step C H (upd C p (.frz od u)) (upd H p (.frz od u)) (fun a => a = p) := by
 have x : Ex C (upd C p (.frz od u)) := Ex.new hc
 have x2 : Ex (upd C p (.frz od u)) (upd H p (.frz od u)) := ⟨fun b w h n => by
  by_cases hb : b = p
  ·subst hb; rw [upd_same] at h ⊢; exact h
  ·rw [upd_ne hb] at h ⊢; exact e.ext.1 b w h n, fun b h => by
  by_cases hb : b = p
  ·subst hb; rw [upd_same] at h; cases h
  ·rw [upd_ne hb] at h ⊢; exact e.ext.2 b h⟩
 have tb : ∀ P, TS1 H P → TS1 (upd H p (.frz od u)) P := fun P q => xu q fun u' z => by rw [hp] at z; cases z; exact nx
 refine ⟨⟨by rw [hl]; exact e.len, x2, fun i c h => ?_, fun i j m n b h1 h2 h3 h4 => ?_, fun P h => tb P (e.tab P h)⟩, ⟨x, x2, fun b w h n na => ?_, fun b h1 h2 => ?_, fun b h => ?_, tb⟩⟩
 ·rcases hr i c h with ⟨h1, h2⟩ | ⟨d, rfl, h1, h2⟩
  ·obtain ⟨v, hv, ok⟩ := e.cell i c h1
   refine ⟨v, hv, ?_⟩
   cases c with
   | no => trivial
   | dat d => obtain ⟨y, hy, z⟩ := ok; exact ⟨y, hy, Is.mono x d y z⟩
   | own m =>
    obtain ⟨q, u', q1, q2, q3, q4⟩ := ok
    have np : q ≠ p := fun z => h2 m rfl (by rw [hv, q1, z])
    exact ⟨q, u', q1, by rw [upd_ne np]; exact q2, by rw [upd_ne np]; exact q3, q4.mono x⟩
  ·exact ⟨_, h1, _, rfl, h2⟩
 ·rcases hr i _ h1 with ⟨k1, _⟩ | ⟨d, z, _⟩
  ·rcases hr j _ h2 with ⟨k2, _⟩ | ⟨d, z, _⟩
   ·exact e.inj i j m n b k1 k2 h3 h4
   ·cases z
  ·cases z
 ·rw [upd_ne na]; exact h
 ·by_cases hb : b = p
  ·exact .inr hb
  ·rw [upd_ne hb] at h2; exact absurd h1 h2
 ·by_cases hb : b = p
  ·subst hb; rw [upd_same] at h; cases h
  ·rw [upd_ne hb] at h; exact h
def asPin (r : Rv) : PL.P (List (Key × D)) := fun ρ => match r with
 | .dat (.dic kvs) => some (.ok kvs ρ)
 | .new (.dk kvs) => some (.ok kvs ρ)
 | .bor i => (match ρ[i]? with
  | some (.own (.dk kvs)) => some (.ok kvs (ρ.set i (.dat (.dic kvs))))
  | _ => none)
 | _ => none
def fPin (f : PL.P Rv) : PL.P (List (Key × D)) := f.bind asPin
def PinRel (K : PySem.W.Frag) (_ : Hp) : Rel V (List (Key × D)) := fun C _ _ _ v kvs => Is K C (.dic kvs) v
section
variable {K : PySem.W.Frag} {W : WX}
theorem sd_pin {te : TE} {f : PL.P Rv} (h : Sd K W (VRel K) te f) : Sd K W (PinRel K) (tPin te) (fPin f) := by
 intro σ C H ρ e out Q ho hok hex
 rcases ji (show jd (f ρ) asPin = some out from ho) with ⟨x, r, h1, rfl⟩ | ⟨a, r, h1, h2⟩
 ·refine h σ C H ρ e _ _ h1 (fun a ρ' z => by cases z) fun x' ρ' z d C' H' p q => ?_
  cases z
  exact hex _ _ rfl d C' H' p q
 ·refine h σ C H ρ e _ _ h1 (fun a' ρ' z v C1 H1 p q => ?_) fun x' ρ' z => by cases z
  cases z
  cases a with
  | dat d =>
   cases d with
   | dic kvs => cases h2; exact .inl (hok kvs r rfl v C1 H1 p q)
   | _ => cases h2
  | new mm =>
   cases mm with
   | dk kvs =>
    cases h2
    obtain ⟨b, o, rfl, q2, q3, ⟨xs, rfl, q4⟩, q5, q6⟩ := q
    refine .inr ⟨b, _, rfl, q3, True.intro, fun od => ?_⟩
    obtain ⟨env, st⟩ := froze_at (od := od) p.env q2 q3 ⟨nt_dK, (fun _ z => nomatch z)⟩ rfl (fun i c hc => .inl ⟨hc, fun m z s => q5 ⟨i, m, by rw [hc, z], s⟩⟩)
    exact hok kvs r rfl (.ref b) _ _ ⟨p.step.trans st (fun a z => .inr (by rw [z]; exact q6)), p.own, env⟩ (is_dic_iff.mpr ⟨b, od, xs, rfl, upd_same, isk_iff.mpr (Iskv.mono (Ex.new q2) _ _ q4)⟩)
   | _ => cases h2
  | bor i =>
   have h2 : (match r[i]? with
    | some (.own (.dk kvs)) => some (Out.ok kvs (r.set i (.dat (.dic kvs))))
    | _ => none) = some out := h2
   obtain ⟨hv, c, hc⟩ := q
   rw [hc] at h2
   cases c with
   | no => cases h2
   | dat d => cases h2
   | own mm =>
    cases mm with
    | dk kvs =>
     cases h2
     obtain ⟨b, o, g1, g2, g3, xs, rfl, g4⟩ := jk p.env hc
     rw [hv] at g1; cases g1
     refine .inr ⟨b, _, rfl, g3, True.intro, fun od => ?_⟩
     have il : i < r.length := (List.getElem?_eq_some_iff.mp hc).1
     have isd : Is K (upd C1 b (.frz od (.dK xs))) (.dic kvs) (.ref b) := is_dic_iff.mpr ⟨b, od, xs, rfl, upd_same, isk_iff.mpr (Iskv.mono (Ex.new g2) _ _ g4)⟩
     obtain ⟨env, st⟩ := froze_at (od := od) (ρ' := r.set i (.dat (.dic kvs))) p.env g2 g3 ⟨nt_dK, (fun _ z => nomatch z)⟩ (by rw [List.length_set]) (fun j c q => by
      by_cases hj : i = j
      ·subst hj
       rw [List.getElem?_set_self il] at q; cases q
       exact .inr ⟨_, rfl, hv, isd⟩
      ·rw [List.getElem?_set_ne hj] at q
       exact .inl ⟨q, fun m' z s => hj (p.env.inj i j _ m' b hc (by rw [q, z]) hv s)⟩)
     refine hok kvs _ rfl (.ref b) _ _ ⟨p.step.trans st (fun a z => .inl (p.own a ⟨i, _, hc, by rw [z]; exact hv⟩)), fun a ⟨j, m', z1, z2⟩ => ?_, env⟩ isd
     by_cases hj : i = j
     ·subst hj
      rw [List.getElem?_set_self il] at z1; cases z1
     ·rw [List.getElem?_set_ne hj] at z1
      exact p.own a ⟨j, m', z1, z2⟩
    | _ => cases h2
def vac (kvs : List (Key × D)) : List D := kvs.map fun kv => .tup [keyV kv.1, kv.2]
def ja0 (f : PL.P Rv) : PL.P (List D) := (fPin f).bind fun kvs => P.ret (vac kvs)
theorem it_items {C : Hp} {a : Addr} {o : Obj} {xs : List (Key × V)} {kvs : List (Key × D)} (h : C a = some (.frz o (.dK xs))) (hs : Iskv K C kvs xs) : ItOk K C (Iti a o xs) (vac kvs) := by
 intro C' H' e1 e2 i
 have h' : H' a = some (.frz o (.dK xs)) := e2.1 _ _ (e1.1 _ _ h yay) yay
 have hl : (vac kvs).length = xs.length := by unfold vac; rw [List.length_map, hs.length]
 refine ⟨fun hi => ⟨h', by omega⟩, fun hi => ⟨h', by omega⟩, fun x H'' d hy hd => ?_⟩
 obtain ⟨T, k, v, hx, rfl, hT, rfl⟩ := hy
 unfold vac at hd
 rw [List.getElem?_map] at hd
 obtain ⟨kd, h1, rfl⟩ := Option.map_eq_some_iff.mp hd
 obtain ⟨y, h2, h3⟩ := hs.at h1
 rw [hx] at h2; cases h2
 have st := Step.newD (o := .tup [kV kd.1, v]) e2 hT
 exact ⟨_, st, xaz (SqT.of upd_same) (yb is_keyV (yb (Is.mono (e1.trans st.core) _ _ h3) kc))⟩
theorem sd_items {te : TE} {f : PL.P Rv} (h : Sd K W (VRel K) te f) : Sd K W (jn K) (iItems (tPin te)) (ja0 f) := by
 intro σ C H ρ e
 show At K W (jn K H) σ C H ρ (fun H R => tPin te σ H fun x H1 => ∃ d o kvs, x = .ref d ∧ H1 d = some (.frz o (.dK kvs)) ∧ R (Iti d o kvs) H1) (jd (fPin f ρ) fun kvs => P.ret (vac kvs))
 refine At.bind (tk := fun (x : V) (H1 : Hp) (R : It → Hp → Prop) => ∃ d o kvs, x = .ref d ∧ H1 d = some (.frz o (.dK kvs)) ∧ R (Iti d o kvs) H1) (sd_pin h σ C H ρ e) fun kvs ρ1 x C1 H1 p1 r1 => ?_
 obtain ⟨a, o, xs, rfl, h1, h2⟩ := is_dic_iff.mp r1
 exact At.imp (At.ret (R := jn K H) p1.env (it_items h1 (isk_iff.mp h2))) fun Q q => ⟨a, o, xs, rfl, p1.env.ext.1 _ _ h1 yay, q⟩
end
def sMove (i j : Nat) : PL.P Fl := fun ρ => match ρ[j]? with
 | some (.own m) => if i < ρ.length ∧ i ≠ j then some (.ok .next ((ρ.set j .no).set i (.own m))) else none
 | _ => none
section
variable {K : PySem.W.Frag} {W : WX} {fx : List Nat}
theorem ss_move {i j : Nat} (hi : i ∉ fx) : SdS K W fx (tAsg (tVar j) (gName i)) (sMove i j) := by
 intro σ C H ρ out D e ho m
 unfold sMove at ho
 cases q : ρ[j]? with
 | none => rw [q] at ho; cases ho
 | some c =>
  rw [q] at ho
  cases c with
  | no => cases ho
  | dat d => cases ho
  | own mm =>
   dsimp only at ho
   by_cases hh : i < ρ.length ∧ i ≠ j
   ·rw [if_pos hh] at ho; cases ho
    obtain ⟨hl, hij⟩ := hh
    obtain ⟨a, o, h1, h2, h3, h4⟩ := jk e q
    have lσ : i < σ.length := by rw [e.len]; exact hl
    have hlj : j < ρ.length := (List.getElem?_eq_some_iff.mp q).1
    have hl' : i < (ρ.set j .no).length := by rw [List.length_set]; exact hl
    refine ⟨.ref a, h1, ?_⟩
    show D.nx (σ.set i (some (.ref a))) H
    have cell : ∀ (k : Nat) (c : Cell), ((ρ.set j .no).set i (.own mm))[k]? = some c → (k = i ∧ c = .own mm) ∨ (k ≠ i ∧ k = j ∧ c = .no) ∨ (k ≠ i ∧ k ≠ j ∧ ρ[k]? = some c) := fun k c h => by
     by_cases hk : i = k
     ·subst hk; rw [List.getElem?_set_self hl'] at h; cases h; exact .inl ⟨rfl, rfl⟩
     ·rw [List.getElem?_set_ne hk] at h
      by_cases hk2 : j = k
      ·subst hk2; rw [List.getElem?_set_self hlj] at h; cases h; exact .inr (.inl ⟨Ne.symm hk, rfl, rfl⟩)
      ·rw [List.getElem?_set_ne hk2] at h; exact .inr (.inr ⟨Ne.symm hk, Ne.symm hk2, h⟩)
    have slot : ∀ k, k ≠ i → (σ.set i (some (.ref a)))[k]? = σ[k]? := fun k hk => List.getElem?_set_ne (Ne.symm hk)
    refine m _ C H ⟨Step.refl e.ext, fun b ⟨k, m', z1, z2⟩ => .inl ?_, ⟨by rw [List.length_set, List.length_set, List.length_set]; exact e.len, e.ext, fun k c h => ?_, fun k l m1 m2 b z1 z2 z3 z4 => ?_, e.tab⟩, fun k hk => slot k fun z => hi (by rw [← z]; exact hk), by rw [List.length_set]⟩
    ·rcases cell k _ z1 with ⟨rfl, w⟩ | ⟨w1, w2, w3⟩ | ⟨w1, w2, w3⟩
     ·rw [List.getElem?_set_self lσ] at z2; cases z2; exact ⟨j, mm, q, h1⟩
     ·cases w3
     ·rw [slot k w1] at z2; exact ⟨k, m', w3, z2⟩
    ·rcases cell k _ h with ⟨rfl, rfl⟩ | ⟨w1, rfl, rfl⟩ | ⟨w1, w2, w3⟩
     ·exact ⟨_, List.getElem?_set_self lσ, a, o, rfl, h2, h3, h4⟩
     ·rw [slot _ w1]; exact ⟨_, h1, trivial⟩
     ·rw [slot k w1]; exact e.cell k c w3
    ·rcases cell k _ z1 with ⟨rfl, w⟩ | ⟨w1, w2, w3⟩ | ⟨w1, w2, w3⟩
     ·rcases cell l _ z2 with ⟨rfl, u⟩ | ⟨u1, u2, u3⟩ | ⟨u1, u2, u3⟩
      ·rfl
      ·cases u3
      ·rw [List.getElem?_set_self lσ] at z3; cases z3
       rw [slot l u1] at z4
       exact absurd (e.inj l j _ _ a u3 q z4 h1) u2
     ·cases w3
     ·rcases cell l _ z2 with ⟨rfl, u⟩ | ⟨u1, u2, u3⟩ | ⟨u1, u2, u3⟩
      ·rw [List.getElem?_set_self lσ] at z4; cases z4
       rw [slot k w1] at z3
       exact absurd (e.inj k j _ _ a w3 q z3 h1) w2
      ·cases u3
      ·rw [slot k w1] at z3
       rw [slot l u1] at z4
       exact e.inj k l m1 m2 b w3 u3 z3 z4
   ·rw [if_neg hh] at ho; cases ho
end
end PL
namespace PL
open PySem L2
def ka9 {κ : Type} [DecidableEq κ] (kvs more : List (κ × D)) : List (κ × D) := more.foldl (fun acc kv => setK acc kv.1 kv.2) kvs
section
variable {K : PySem.W.Frag} {C : Hp}
theorem Iskv.merge : ∀ {more : List (Key × D)} {mx : List (Key × V)} {ds : List (Key × D)} {xs : List (Key × V)}, Iskv K C more mx → Iskv K C ds xs → Iskv K C (ka9 ds more) (mergeK xs mx)
 | [], mx, ds, xs, h, g => by cases (show mx = [] from h); exact g
 | (n, d) :: more, mx, ds, xs, h, g => by
  obtain ⟨x, r, rfl, h2, h3⟩ := h
  exact Iskv.merge (more := more) (mx := r) (ds := setK ds n d) (xs := putK xs n x) h3 (g.put h2)
def zbe (K : PySem.W.Frag) (_ : Hp) : Rel (List (V × V)) (List (Key × D)) := fun C _ _ _ ps kvs => ∃ xs : List (Key × V), ps = xs.map (fun kv => (kV kv.1, kv.2)) ∧ Iskv K C kvs xs
def pNil : PL.P (List (Key × D)) := P.ret []
def pCons (fk : PL.P DK) (fv : PL.P Rv) (g : PL.P (List (Key × D))) : PL.P (List (Key × D)) := fk.bind fun k => match k with
 | .inl k => (yj fv).bind fun d => g.bind fun kvs => P.ret ((k, d) :: kvs)
 | .inr _ => P.fail
def fDisp (g : PL.P (List (Key × D))) : PL.P Rv := g.bind fun kvs => P.of (if kvs.length ≤ 15 then some (.new (.dk (ka9 [] kvs))) else none)
variable {W : WX}
theorem sd_pnil : Sd K W (zbe K) (tPairs []) pNil := fun σ C H ρ e => At.ret (R := zbe K H) (v := []) e ⟨[], rfl, rfl⟩
theorem sd_pcons {tk tv : TE} {trs : List (TE × TE)} {fk : PL.P DK} {fv : PL.P Rv} {g : PL.P (List (Key × D))} (hk : Sd K W (KyRel K) tk fk) (hv : Sd K W (VRel K) tv fv) (hg : Sd K W (zbe K) (tPairs trs) g) : Sd K W (zbe K) (tPairs ((tk, tv) :: trs)) (pCons fk fv g) := by
 intro σ C H ρ e
 show At K W (zbe K H) σ C H ρ (fun H Q => tk σ H fun x H1 => tv σ H1 fun y H2 => tPairs trs σ H2 fun ps H3 => Q ((x, y) :: ps) H3) (jd (fk ρ) fun k => match k with
  | .inl k => (yj fv).bind fun d => g.bind fun kvs => P.ret ((k, d) :: kvs)
  | .inr _ => P.fail)
 refine At.bind (tk := fun (x : V) (H1 : Hp) (Q : List (V × V) → Hp → Prop) => tv σ H1 fun y H2 => tPairs trs σ H2 fun ps H3 => Q ((x, y) :: ps) H3) (hk σ C H ρ e) fun k ρ1 x C1 H1 p1 r1 => ?_
 cases k with
 | inr ks => exact At.nil
 | inl k =>
  have hx : x = kV k := r1
  subst hx
  show At K W (zbe K H) σ C1 H1 ρ1 _ (jd (yj fv ρ1) fun d => g.bind fun kvs => P.ret ((k, d) :: kvs))
  refine At.bind (tk := fun (y : V) (H2 : Hp) (Q : List (V × V) → Hp → Prop) => tPairs trs σ H2 fun ps H3 => Q ((kV k, y) :: ps) H3) (kj hv σ C1 H1 ρ1 p1.env) fun d ρ2 y C2 H2 p2 r2 => ?_
  refine At.bind (tk := fun (ps : List (V × V)) (H3 : Hp) (Q : List (V × V) → Hp → Prop) => Q ((kV k, y) :: ps) H3) (hg σ C2 H2 ρ2 p2.env) fun kvs ρ3 ps C3 H3 p3 r3 => ?_
  obtain ⟨xs, rfl, h⟩ := r3
  exact At.ret (R := zbe K H) (v := (kV k, y) :: xs.map (fun kv => (kV kv.1, kv.2))) p3.env ⟨(k, y) :: xs, rfl, (show Iskv K C3 ((k, d) :: kvs) ((k, y) :: xs) from ⟨y, xs, rfl, Is.mono p3.step.core d y r2, h⟩)⟩
theorem chg_step {σ : Sl} {C H : Hp} {ρ : En} {p : Addr} {u o : HO} (e : EnvOk K C H σ ρ) (hc : C p = none) (hp : H p = some u) (nx : NX u) (no : ¬ qd σ ρ p) :
  EnvOk K C (upd H p o) σ ρ ∧ Step C H C (upd H p o) (fun a => a = p) := by
 have hne : ∀ b w, C b = some w → b ≠ p := fun b w k z => by rw [z, hc] at k; cases k
 have x2 : Ex C (upd H p o) := ⟨fun b w k n => by rw [upd_ne (hne b w k)]; exact e.ext.1 b w k n, fun b k => by
  by_cases hb : b = p
  ·rw [hb, upd_same] at k; cases k
  ·rw [upd_ne hb] at k; exact e.ext.2 b k⟩
 have tb : ∀ P, TS1 H P → TS1 (upd H p o) P := fun P q => xu q fun u' z => by rw [hp] at z; cases z; exact nx
 refine ⟨⟨e.len, x2, fun i c h => ?_, e.inj, fun P h => tb P (e.tab P h)⟩, ⟨Ex.refl C, x2, fun b w h n na => by rw [upd_ne na]; exact h, fun b h1 h2 => absurd h1 h2, fun b h => ?_, tb⟩⟩
 ·obtain ⟨v, hv, ok⟩ := e.cell i c h
  refine ⟨v, hv, ?_⟩
  cases c with
  | no => trivial
  | dat d => exact ok
  | own m =>
   obtain ⟨q, u', q1, q2, q3, q4⟩ := ok
   refine ⟨q, u', q1, q2, ?_, q4⟩
   rw [upd_ne (fun z => no ⟨i, m, h, by rw [hv, q1, z]⟩)]
   exact q3
 ·by_cases hb : b = p
  ·subst hb; rw [upd_same] at h; cases h
  ·rw [upd_ne hb] at h; exact h
theorem sd_disp {trs : List (TE × TE)} {g : PL.P (List (Key × D))} (hg : Sd K W (zbe K) (tPairs trs) g) : Sd K W (VRel K) (tDisp trs) (fDisp g) := by
 intro σ C H ρ e out Q ho hok hex p hp
 have st0 : Step C H C (upd H p (.dK [])) (fun _ => False) := Step.newM e.ext hp
 have e0 := e.step st0
 have no : ¬ qd σ ρ p := fun ⟨i, m, z1, z2⟩ => by
  obtain ⟨b, o', y1, y2, y3, y4⟩ := jk e z1
  rw [z2] at y1; cases y1
  rw [hp] at y3; cases y3
 have cp : C p = none := e.ext.none hp
 rcases ji (show jd (g ρ) (fun kvs => P.of (if kvs.length ≤ 15 then some (.new (.dk (ka9 [] kvs))) else none)) = some out from ho) with ⟨x, r, h1, rfl⟩ | ⟨kvs, r, h1, h2⟩
 ·refine hg σ C _ ρ e0 _ _ h1 (fun a ρ' z => by cases z) fun x' ρ' z d C' H' p1 q => ?_
  cases z
  exact hex _ _ rfl d C' H' ⟨(st0.weak (fun a z => z.elim)).trans p1.step (fun a z => .inl z), p1.own, p1.env⟩ q
 ·refine hg σ C _ ρ e0 _ _ h1 (fun kvs' ρ' z ps C1 H1 p1 rp => ?_) fun x' ρ' z => by cases z
  cases z
  obtain ⟨xs, rfl, hx⟩ := rp
  unfold P.of at h2
  by_cases hl : kvs.length ≤ 15
  ·rw [if_pos hl] at h2; cases h2
   have k1 : H1 p = some (.dK []) := p1.step.keep p _ upd_same nt_dK no
   have k2 : C1 p = none := by
    cases q : C1 p with
    | none => rfl
    | some u =>
     rcases p1.step.new p cp (by rw [q]; exact fun z => nomatch z) with z | z
     ·rw [upd_same] at z; cases z
     ·exact absurd z no
   have no1 : ¬ qd σ r p := fun z => no (p1.own p z)
   obtain ⟨e2, st2⟩ := chg_step (o := .dK (mergeK [] xs)) p1.env k2 k1 ⟨nt_dK, (fun _ z => nomatch z)⟩ no1
   refine ⟨k1, xs, rfl, by rw [hx.length]; exact hl, hok _ _ rfl (.ref p) C1 _ ⟨?_, p1.own, e2⟩ ⟨p, _, rfl, k2, upd_same, ⟨_, rfl, Iskv.merge hx rfl⟩, no1, hp⟩⟩
   have s1 : Step C H C1 H1 (qd σ ρ) := (st0.weak (fun a z => z.elim)).trans p1.step (fun a z => .inl z)
   exact s1.trans st2 fun a z => .inr (by rw [z]; exact hp)
  ·rw [if_neg hl] at h2; cases h2
end
section
variable {K : PySem.W.Frag} {W : WX}
theorem snoc_get {α : Type} {l : List α} {x y : α} {i : Nat} (h : (l ++ [x])[i]? = some y) : (i < l.length ∧ l[i]? = some y) ∨ (i = l.length ∧ y = x) := by
 by_cases hi : i < l.length
 ·rw [List.getElem?_append_left hi] at h; exact .inl ⟨hi, h⟩
 ·have hl := (List.getElem?_eq_some_iff.mp h).1
  rw [List.length_append, List.length_singleton] at hl
  have : i = l.length := by omega
  subst this
  simp at h
  exact .inr ⟨rfl, h.symm⟩
end
end PL
namespace PL
open PySem L2 PySem.Spec PyProof.Rows
def fDNewK : PL.P Rv := fun ρ => some (.ok (.new (.dk [])) ρ)
def fDNewT : PL.P Rv := fun ρ => some (.ok (.new (.dt [])) ρ)
section
variable {K : PySem.W.Frag} {W : WX}
theorem sd_dnewK : Sd K W (VRel K) tDNewK fDNewK := fun σ C H ρ e => At.of fun Q hq p hp => by
 have st : Step C H C (upd H p (.dK [])) (fun _ => False) := Step.newM e.ext hp
 refine hq (.ref p) C _ (Post.of_step e st) ⟨p, _, rfl, e.ext.none hp, upd_same, ⟨[], rfl, rfl⟩, fun ⟨i, m, z1, z2⟩ => ?_, hp⟩
 obtain ⟨b, o', y1, y2, y3, y4⟩ := jk e z1
 rw [z2] at y1; cases y1
 rw [hp] at y3; cases y3
end
section
variable {ι : Type} {X : ι → Cx} {P : Program} {w : World} {K : PySem.W.Frag} {mg : Str → Option Value} {base : Heap} {k : Nat} {W : WX} {N : List Str} {sc : Scope} {fx : List Nat}
variable {a b c e f i o tg : Expr} {es elts : List Expr} {pos p p2 apos tpos tp : Pos} {x y : Str} {fa fb fe fd fv : PL.P Rv} {fk : PL.P DK} {gd : PL.P (List D)} {gp : PL.P (List (Key × D))} {ga : PL.P (List Arg × M)}
def BK (X : ι → Cx) (K : PySem.W.Frag) (W : WX) (e : Expr) (f : PL.P DK) : Prop := ∃ t, (∀ i, PE (X i) e t) ∧ Sd K W (KyRel K) t f
def BPs (X : ι → Cx) (K : PySem.W.Frag) (W : WX) (pos : Pos) (ks : List (Option Expr)) (vs : List Expr) (g : PL.P (List (Key × D))) : Prop := ∃ trs, (∀ i, PPs (X i) pos ks vs trs) ∧ Sd K W (zbe K) (tPairs trs) g
theorem bk_val (h : BE X K W e fe) : BK X K W e (fKy fe) := by
 obtain ⟨t, pe, se⟩ := h
 exact ⟨_, pe, sd_ky se⟩
theorem be_dnewK : BE X K W (.Dict [] [] pos) fDNewK := ⟨_, fun i => pe_dnewK, sd_dnewK⟩
theorem be_dget2 (B : CtxOk X P w K mg base k W N sc) (hd : BE X K W o fd) (hk : BK X K W e fk) (hx : BE X K W f fe) (hM : ∀ j, M2 (X j) o "get" apos e f pos := by intro _; exact ⟨rfl, rfl, rfl, rfl⟩) : BE X K W (.Call (.Attribute o "get" apos) [e, f] [] pos) (za0 fd fk fe) := by
 obtain ⟨td, pd, sd⟩ := hd
 obtain ⟨ty, pk, sk⟩ := hk
 obtain ⟨tx, px, sx⟩ := hx
 exact ⟨_, fun j => pe_dget2 (by have := B.u64 j; omega) (pd j) (pk j) (px j) (hM j), sd_dget2 sd sk sx⟩
theorem bs_dput (B : CtxOk X P w K mg base k W N sc) (n : Nat) (hk : BK X K W i fk) (he : BE X K W e fv) (hN : N[n]? = some x := by rfl) (hv : Vis sc x := by first | exact Or.inl rfl | exact Or.inr (Or.inl rfl) | exact Or.inr (Or.inr rfl)) (hd : (x == ("__debug__" : Str)) = false := by decide)
  (hcd : (x == ("__classdict__" : Str)) = false := by decide) (hs : ∀ z, swapsWith e (some (.Subscript (.Name x p) i tp)) pos.line (X z).env = pure false := by intro _; rfl) :
  BS X K W fx (.Assign [.Subscript (.Name x p) i tp] e pos) (xay n fk fv) := by
 obtain ⟨ty, pk, sk⟩ := hk
 obtain ⟨te, pe, se⟩ := he
 exact ⟨_, fun j => ps_dput (by have := B.u64 j; omega) (pe_var (B.at_ hN j) (B.vis hv j) hd hcd) (pk j) (pe j) (hs j), ss_dput se sk⟩
theorem bs_move (B : CtxOk X P w K mg base k W N sc) (n m : Nat) (hi : N[n]? = some x := by rfl) (hx : Loc sc x := by first | exact .inl rfl | exact .inr rfl) (hm : N[m]? = some y := by rfl) (hv : Vis sc y := by first | exact Or.inl rfl | exact Or.inr (Or.inl rfl) | exact Or.inr (Or.inr rfl)) (hd : (y == ("__debug__" : Str)) = false := by decide)
  (hcd : (y == ("__classdict__" : Str)) = false := by decide) (hs : ∀ i, swapsWith (.Name y p2) (some (.Name x p)) pos.line (X i).env = pure false := by intro _; rfl)
  (hf : ∀ i, (X i).fn x = true ∨ (X i).env.scope.names.lookup x = some .local := by intro _; first | exact .inl rfl | exact .inr rfl) (hn : n ∉ fx := by decide) : BS X K W fx (.Assign [.Name x p] (.Name y p2) pos) (sMove n m) :=
 ⟨_, fun i => ps_set (B.nd i) (B.at_ hi i) (B.lo hx i) (pe_var (B.at_ hm i) (B.vis hv i) hd hcd) (hs i) (hf i), ss_move hn⟩
theorem bi_items {kk : Nat} {apos cpos : Pos} (he : BE X K W e fe) (hbase : ∀ i, attributeBase e "items" (X i).env (eval e (X i).env) = eval e (X i).env := by intro _; rfl) (hline : (apos.endLine == cpos.line) = true := by rfl) : BI X K W (.Tuple elts kk tpos) (.Call (.Attribute e "items" apos) [] [] cpos) (ja0 fe) := by
 obtain ⟨te, pe, se⟩ := he
 exact ⟨_, fun i => pi_items (pe_pin (pe i)) (hbase i) hline, sd_items se⟩
theorem bp_nil : BPs X K W pos [] [] pNil := ⟨[], fun i => pps_nil, sd_pnil⟩
theorem bp_cons {ks : List (Option Expr)} {vs : List Expr} (hk : BK X K W i fk) (hv : BE X K W e fv) (hr : BPs X K W pos ks vs gp) : BPs X K W pos (some i :: ks) (e :: vs) (pCons fk fv gp) := by
 obtain ⟨ty, pk, sk⟩ := hk
 obtain ⟨te, pe, se⟩ := hv
 obtain ⟨trs, pr, sr⟩ := hr
 exact ⟨_, fun j => pps_cons (pk j) (pe j) (pr j), sd_pcons sk se sr⟩
theorem be_disp {ks : List (Option Expr)} {vs : List Expr} (h : BPs X K W pos ks vs gp) (hall : ks.all (·.isSome) = true := by rfl) (hl : ks.length = vs.length := by rfl) (h0 : ks ≠ [] := by exact fun z => nomatch z) (h15 : ks.length ≤ 15 := by decide) : BE X K W (.Dict ks vs pos) (fDisp gp) := by
 obtain ⟨trs, pr, sr⟩ := h
 exact ⟨_, fun j => pe_disp (pr j) hall hl h0 h15, sd_disp sr⟩
end
section
variable {α : Type} {Q : α → En → Prop} {QR : Rv → En → Prop} {QK : DK → En → Prop} {QF : Fl → En → Prop} {QP : List (Key × D) → En → Prop} {QDs : List D → En → Prop} {QA : List Arg × M → En → Prop} {E : Exn → En → Prop} {ρ : En}
def isKy (d : D) (Q : Key → Prop) : Prop := match keyD d with
 | some k => Q k
 | none => False
theorem qap {i : Int} {Q : Key → Prop} : isKy (.s (.int i)) Q ↔ Q (.inl i) := Iff.rfl
theorem wao {x : Str} {Q : Key → Prop} : isKy (.s (.str x)) Q ↔ Q (.inr x) := Iff.rfl
theorem wp_ky {f : PL.P Rv} : wp (fKy f) QK E ρ ↔ wp f (fun r r1 => wpO (peek r1 r) fun d => isKy d fun k => QK (.inl k) r1) E ρ := by
 unfold fKy
 rw [wp_bind]
 refine wb fun r r1 => ?_
 unfold wp asKy wpO isKy
 cases peek r1 r with
 | none => exact Iff.rfl
 | some d => dsimp only; cases keyD d <;> exact Iff.rfl
theorem zac : keysD [] = some [] := rfl
theorem wp_dvAt {r : Rv} {k : DV → PL.P α} : wp (dvAt r k) Q E ρ ↔ wpO (dv ρ r) fun w => wp (k w) Q E ρ := by
 unfold wp dvAt wpO
 cases dv ρ r <;> exact Iff.rfl
def dvQ (Q : DV → Prop) : Cell → Prop
 | .own (.dk kvs) => Q (.inl kvs)
 | .own (.dt kvs) => Q (.inr kvs)
 | .dat (.dic kvs) => Q (.inl kvs)
 | _ => False
theorem dvQ_dk {kvs} {Q : DV → Prop} : dvQ Q (.own (.dk kvs)) ↔ Q (.inl kvs) := Iff.rfl
theorem dvQ_dt {kvs} {Q : DV → Prop} : dvQ Q (.own (.dt kvs)) ↔ Q (.inr kvs) := Iff.rfl
theorem vbc {kvs} {Q : DV → Prop} : dvQ Q (.dat (.dic kvs)) ↔ Q (.inl kvs) := Iff.rfl
theorem dv_bor {i : Nat} {Q : DV → Prop} : wpO (dv ρ (.bor i)) Q ↔ atS ρ i (dvQ Q) := by
 unfold wpO atS
 simp only [dv]
 cases ρ[i]? with
 | none => exact Iff.rfl
 | some c =>
  cases c with
  | no => exact Iff.rfl
  | dat d => cases d <;> exact Iff.rfl
  | own m => cases m <;> exact Iff.rfl
theorem dv_dic {kvs} : dv ρ (.dat (.dic kvs)) = some (.inl kvs) := rfl
theorem kbc {kvs} : dv ρ (.new (.dk kvs)) = some (.inl kvs) := rfl
theorem xbc {kvs} : dv ρ (.new (.dt kvs)) = some (.inr kvs) := rfl
theorem dGet_k {kvs : List (Key × D)} {k : Key} : dGet (.inl kvs) (.inl k) = some (getK kvs k) := rfl
theorem dGet_t {kvs : List (List Key × D)} {k : List Key} : dGet (.inr kvs) (.inr k) = some (getK kvs k) := rfl
theorem jal : wp fDNewK QR E ρ ↔ QR (.new (.dk [])) ρ := Iff.rfl
theorem qal : wp fDNewT QR E ρ ↔ QR (.new (.dt [])) ρ := Iff.rfl
def thereQ (o : Option D) (Q : D → Prop) : Prop := match o with
 | some d => Q d
 | none => False
theorem vy {d : D} {Q : D → Prop} : thereQ (some d) Q ↔ Q d := Iff.rfl
theorem wa4 {fd : PL.P Rv} {fk : PL.P DK} : wp (fDGet fd fk) QR E ρ ↔ wp fd (fun rd r1 => wp fk (fun k r2 => wpO (dv r2 rd) fun w => wpO (dGet w k) fun o => thereQ o fun d => QR (.dat d) r2) E r1) E ρ := by
 unfold fDGet
 simp only [wp_bind, wp_dvAt, waj]
 refine wb fun rd r1 => wb fun k r2 => xl fun w => ?_
 cases dGet w k with
 | none => exact Iff.rfl
 | some o => cases o <;> exact Iff.rfl
theorem zal {fd fx : PL.P Rv} {fk : PL.P DK} : wp (za0 fd fk fx) QR E ρ ↔ wp fd (fun rd r1 => wpO (dv r1 rd) fun _ => wp fk (fun k r2 => wp fx (fun v r3 => wpG r3 v fun x r4 => wpO (dv r4 rd) fun w => wpO (dGet w k) fun o => QR (.dat (o.getD x)) r4) E r2) E r1) E ρ := by
 unfold za0
 simp only [wp_bind, wp_dvAt, waj, wp_grab]
 refine wb fun rd r1 => xl fun _ => wb fun k r2 => wb fun v r3 => x9 fun x r4 => xl fun w => ?_
 cases dGet w k <;> exact Iff.rfl
def putQ (k : DK) (Q : M → Prop) (d : D) : Cell → Prop
 | .own (.dk kvs) => match k with
  | .inl k => kvs.length < sizeLine ∧ Q (.dk (setK kvs k d))
  | .inr _ => False
 | .own (.dt kvs) => match k with
  | .inr k => kvs.length < sizeLine ∧ Q (.dt (setK kvs k d))
  | .inl _ => False
 | _ => False
theorem ybg {kvs : List (Key × D)} {k : Key} {d : D} {Q : M → Prop} : putQ (.inl k) Q d (.own (.dk kvs)) ↔ kvs.length < sizeLine ∧ Q (.dk (setK kvs k d)) := Iff.rfl
theorem vbg {kvs : List (List Key × D)} {k : List Key} {d : D} {Q : M → Prop} : putQ (.inr k) Q d (.own (.dt kvs)) ↔ kvs.length < sizeLine ∧ Q (.dt (setK kvs k d)) := Iff.rfl
theorem wp_setDV {i : Nat} {k : DK} {d : D} : wp (setDV i k d) QF E ρ ↔ atS ρ i (putQ k (fun m => QF .next (ρ.set i (.own m))) d) := by
 unfold wp setDV atS
 cases ρ[i]? with
 | none => exact Iff.rfl
 | some c =>
  cases c with
  | no => exact Iff.rfl
  | dat d => exact Iff.rfl
  | own m =>
   cases m with
   | lst ds => exact Iff.rfl
   | ob c fs => exact Iff.rfl
   | dn _ _ _ => exact Iff.rfl
   | dk kvs =>
    cases k with
    | inr k => exact Iff.rfl
    | inl k =>
     dsimp only
     rw [ybg]
     by_cases h : kvs.length < sizeLine
     ·rw [if_pos h]; exact ⟨fun z => ⟨h, z⟩, fun z => z.2⟩
     ·rw [if_neg h]; exact ⟨fun z => z.elim, fun z => h z.1⟩
   | dt kvs =>
    cases k with
    | inl k => exact Iff.rfl
    | inr k =>
     dsimp only
     rw [vbg]
     by_cases h : kvs.length < sizeLine
     ·rw [if_pos h]; exact ⟨fun z => ⟨h, z⟩, fun z => z.2⟩
     ·rw [if_neg h]; exact ⟨fun z => z.elim, fun z => h z.1⟩
theorem wp_ownAny {i : Nat} {f : PL.P α} : wp (qbh i f) Q E ρ ↔ atS ρ i (ownQ fun _ => wp f Q E ρ) := by
 unfold qbh atS
 cases h : ρ[i]? with
 | none => unfold wp; simp only [h]
 | some c => cases c <;> (unfold wp; simp only [h]; exact Iff.rfl)
theorem va4 {i : Nat} {fk : PL.P DK} {fv : PL.P Rv} : wp (xay i fk fv) QF E ρ ↔ wp fv (fun v r => wpG r v fun d r2 => atS r2 i (ownQ fun _ => wp fk (fun k r3 => atS r3 i (putQ k (fun m => QF .next (r3.set i (.own m))) d)) E r2)) E ρ := by
 unfold xay
 simp only [wp_bind, wp_grab, wp_ownAny, wp_setDV]
def pinQ (i : Nat) (QP : List (Key × D) → En → Prop) (ρ : En) : Cell → Prop
 | .own (.dk kvs) => QP kvs (ρ.set i (.dat (.dic kvs)))
 | _ => False
theorem ya7 {i : Nat} {kvs : List (Key × D)} : pinQ i QP ρ (.own (.dk kvs)) ↔ QP kvs (ρ.set i (.dat (.dic kvs))) := Iff.rfl
def wpPin (ρ : En) (r : Rv) (QP : List (Key × D) → En → Prop) : Prop := match r with
 | .dat (.dic kvs) => QP kvs ρ
 | .new (.dk kvs) => QP kvs ρ
 | .bor i => atS ρ i (pinQ i QP ρ)
 | _ => False
theorem j9 {kvs : List (Key × D)} : wpPin ρ (.dat (.dic kvs)) QP ↔ QP kvs ρ := Iff.rfl
theorem w8 {kvs : List (Key × D)} : wpPin ρ (.new (.dk kvs)) QP ↔ QP kvs ρ := Iff.rfl
theorem qu {i : Nat} : wpPin ρ (.bor i) QP ↔ atS ρ i (pinQ i QP ρ) := Iff.rfl
theorem wp_asPin {r : Rv} : wp (asPin r) QP E ρ ↔ wpPin ρ r QP := by
 cases r with
 | dat d => cases d <;> exact Iff.rfl
 | new m => cases m <;> exact Iff.rfl
 | bor i =>
  rw [qu]
  unfold wp asPin atS
  dsimp only
  cases ρ[i]? with
  | none => exact Iff.rfl
  | some c =>
   cases c with
   | no => exact Iff.rfl
   | dat d => exact Iff.rfl
   | own m => cases m <;> exact Iff.rfl
theorem wak {f : PL.P Rv} : wp (ja0 f) QDs E ρ ↔ wp f (fun v r => wpPin r v fun kvs r2 => QDs (vac kvs) r2) E ρ := by
 unfold ja0 fPin
 simp only [wp_bind, wp_asPin, qk]
theorem qa4 {i j : Nat} : wp (sMove i j) QF E ρ ↔ atS ρ j (ownQ fun m => (i < ρ.length ∧ i ≠ j) ∧ QF .next ((ρ.set j .no).set i (.own m))) := by
 unfold wp sMove atS
 cases ρ[j]? with
 | none => exact Iff.rfl
 | some c =>
  cases c with
  | no => exact Iff.rfl
  | dat d => exact Iff.rfl
  | own m =>
   dsimp only [ownQ]
   by_cases h : i < ρ.length ∧ i ≠ j
   ·rw [if_pos h]; exact ⟨fun z => ⟨h, z⟩, fun z => z.2⟩
   ·rw [if_neg h]; exact ⟨fun z => z.elim, fun z => h z.1⟩
def inlQ (k : DK) (Q : Key → Prop) : Prop := match k with
 | .inl k => Q k
 | .inr _ => False
theorem qbi {k : Key} {Q : Key → Prop} : inlQ (.inl k) Q ↔ Q k := Iff.rfl
theorem ya3 : wp pNil QP E ρ ↔ QP [] ρ := Iff.rfl
theorem yak {fk : PL.P DK} {fv : PL.P Rv} {g : PL.P (List (Key × D))} : wp (pCons fk fv g) QP E ρ ↔ wp fk (fun k r1 => inlQ k fun k => wp fv (fun v r2 => wpG r2 v fun d r3 => wp g (fun kvs r4 => QP ((k, d) :: kvs) r4) E r3) E r1) E ρ := by
 unfold pCons
 rw [wp_bind]
 refine wb fun k r1 => ?_
 cases k with
 | inl k => simp only [wp_bind, wp_grab, qk, qbi]
 | inr k => exact Iff.rfl
theorem ya4 {g : PL.P (List (Key × D))} : wp (fDisp g) QR E ρ ↔ wp g (fun kvs r => kvs.length ≤ 15 ∧ QR (.new (.dk (ka9 [] kvs))) r) E ρ := by
 unfold fDisp
 simp only [wp_bind, waj, vr]
end
end PL
namespace LW
open PySem L2 PL
abbrev zi (c : Int) : D := .s (.int c)
abbrev zs (c : Str) : D := .s (.str c)
abbrev zb (c : Bool) : D := .s (.bl c)
def mixedZ (c k : Int) : Int := (((c + 7919 * k + 11) * 48271 % 2147483647) * ((c + 7919 * k + 11) * 48271 % 2147483647) + 40692 * ((c + 7919 * k + 11) * 48271 % 2147483647)) % 2147483399
abbrev dr (c n : Int) : Cell := .own (.lst [zi c, zi n])
def signsS : Str := "-0123456789=abcdefghijklmnopqrstuvwxyz"
def inS (z : Str) (c : Nat) : Bool := z.cps.contains c
def kh (z w : Str) : Bool := w.cps.toList.all (inS z)
def goodW (w : Str) : Bool := (decide (1 ≤ w.length) && decide (w.length ≤ 60)) && kh signsS w
theorem len_list (w : Str) : w.cps.toList.length = w.length := Array.length_toList
theorem str_ext {a b : Str} (h : a.cps.toList = b.cps.toList) : a = b := by
 obtain ⟨⟨a⟩⟩ := a
 obtain ⟨⟨b⟩⟩ := b
 have h : a = b := h
 rw [h]
theorem j0 {α : Type} (p : α → Bool) : ∀ (l : List α) (a : α), p a = false → ((l ++ [a]).takeWhile p).length ≤ l.length
 | [], a, h => by simp [h]
 | x :: l, a, h => by
  rw [List.cons_append, List.takeWhile_cons]
  split
  ·rw [List.length_cons, List.length_cons]
   have := j0 p l a h
   omega
  ·simp
theorem takeWhile_stop {α : Type} (p : α → Bool) : ∀ (l : List α), (l.takeWhile p).length = l.length ∧ l.all p = true ∨ ∃ a t, l.drop (l.takeWhile p).length = a :: t ∧ p a = false ∧ l.all p = false
 | [] => .inl ⟨rfl, rfl⟩
 | x :: l => by
  rw [List.takeWhile_cons]
  cases q : p x with
  | false => exact .inr ⟨x, l, rfl, q, by simp [q]⟩
  | true =>
   rcases takeWhile_stop p l with ⟨h1, h2⟩ | ⟨a, t, h1, h2, h3⟩
   ·refine .inl ⟨?_, by simp [q, h2]⟩
    simp [h1]
   ·refine .inr ⟨a, t, ?_, h2, by simp [q, h3]⟩
    simpa using h1
theorem strip_none (w y : Str) : (Txt.stripChars w y == "") = kh y w := by
 unfold Txt.stripChars
 rw [PyProof.Rows.stripBy_eq]
 have key : Builtin.Str.strSub w (stripLo y.cps.contains true w) (stripHi y.cps.contains true w (stripLo y.cps.contains true w)) = "" ↔ kh y w = true := by
  have hl := len_list w
  have e1 : stripLo y.cps.contains true w = (w.cps.toList.takeWhile (inS y)).length := rfl
  rw [e1]
  have e2 : stripHi y.cps.contains true w (w.cps.toList.takeWhile (inS y)).length = w.length - ((w.cps.toList.drop (w.cps.toList.takeWhile (inS y)).length).reverse.takeWhile (inS y)).length := rfl
  rw [e2]
  rcases takeWhile_stop (inS y) w.cps.toList with ⟨h1, h2⟩ | ⟨a, t, h1, h2, h3⟩
  ·refine ⟨fun _ => h2, fun _ => str_ext ?_⟩
   unfold Builtin.Str.strSub
   rw [Array.toList_extract, h1, hl]
   show List.take _ (List.drop w.length w.cps.toList) = _
   rw [List.drop_eq_nil_of_le (by omega), List.take_nil]
   rfl
  ·refine ⟨fun z => ?_, fun z => ?_⟩
   ·exfalso
    rw [h1] at z
    have e3 : (w.cps.toList.takeWhile (inS y)).length + (t.length + 1) = w.length := by
     have := congrArg List.length h1
     rw [List.length_drop, List.length_cons, hl] at this
     have h5 : (w.cps.toList.takeWhile (inS y)).length ≤ w.cps.toList.length := (List.takeWhile_sublist _).length_le
     omega
    have e4 : ((a :: t).reverse.takeWhile (inS y)).length ≤ t.length := by
     rw [List.reverse_cons]
     have := j0 (inS y) t.reverse a h2
     rwa [List.length_reverse] at this
    have e5 : (Builtin.Str.strSub w (w.cps.toList.takeWhile (inS y)).length (w.length - ((a :: t).reverse.takeWhile (inS y)).length)).cps.size = 0 := by rw [z]; rfl
    unfold Builtin.Str.strSub at e5
    rw [Array.size_extract] at e5
    have : w.cps.size = w.length := rfl
    omega
   ·rw [kh, h3] at z; cases z
 cases q : kh y w with
 | true => exact beq_iff_eq.mpr (key.mpr q)
 | false =>
  refine beq_eq_false_iff_ne.mpr fun z => ?_
  rw [key.mp z] at q
  cases q
theorem join_signs : ∀ cs : List Nat, (Txt.join "" (cs.map fun c => (⟨#[c]⟩ : Str))).cps.toList = cs := by
 intro cs
 show (Builtin.Str.glued "" (cs.map fun c => (⟨#[c]⟩ : Str))).cps.toList = cs
 rw [StrLaws.glued_eq_join]
 induction cs with
 | nil => rfl
 | cons c r ih =>
  cases r with
  | nil => rfl
  | cons d r =>
   show ((⟨#[c]⟩ : Str) ++ ("" : Str) ++ Str.join "" ((d :: r).map fun c => (⟨#[c]⟩ : Str))).cps.toList = c :: d :: r
   show ((#[c] ++ #[]) ++ (Str.join "" ((d :: r).map fun c => (⟨#[c]⟩ : Str))).cps).toList = c :: d :: r
   rw [Array.toList_append, ih]
   rfl
theorem ja {n : Nat} (h : n ≤ 1000000) : n ≤ sizeLine := by rw [size_eq]; omega
theorem okS_empty : okS ("" : Str) := by decide +kernel
theorem good_iff {w : Str} : goodW w = true ↔ (1 ≤ w.length ∧ w.length ≤ 60) ∧ kh signsS w = true := by
 unfold goodW
 simp only [Bool.and_eq_true, decide_eq_true_eq]
def figsS : Str := "0123456789"
def lettersS : Str := "abcdefghijklmnopqrstuvwxyz"
abbrev val (w : Str) : Nat := NumText.digitsVal w.cps.toList
def hd0 (w : Str) : Str := ⟨#[w.cps.getD 0 0]⟩
def lead (w : Str) : Bool := hd0 w == "0" && !(w == "0")
def numB (a b : Int) (w : Str) : Bool := (kh figsS w && !lead w && decide (w.length ≤ 4)) && (decide (a ≤ (val w : Int)) && decide ((val w : Int) ≤ b))
def inW (w : Str) (ws : List Str) : Bool := inV (.str w) (ws.map V.str)
inductive Kd where
 | any
 | num (a b : Int)
 | amg (ws : List Str)
 | beg (z : Str)
def Kd.told : Kd → D
 | .any => .tup [zs "any"]
 | .num a b => .tup [zs "number", zi a, zi b]
 | .amg ws => .tup [zs "among", .tup (ws.map zs)]
 | .beg z => .tup [zs "begins", zs z]
def Kd.holds : Kd → Str → Bool
 | .any, _ => true
 | .num a b, w => numB a b w
 | .amg ws, w => inW w ws
 | .beg z, w => Txt.startswith w z
def Kd.ok : Kd → Prop
 | .any => True
 | .num a b => 0 ≤ a ∧ a ≤ b ∧ b ≤ 9999
 | .amg ws => (1 ≤ ws.length ∧ ws.length ≤ 6) ∧ ws.Nodup ∧ ∀ w ∈ ws, goodW w = true ∧ Txt.startswith w "-" = false
 | .beg z => (1 ≤ z.length ∧ z.length ≤ 6) ∧ kh lettersS z = true
structure W9 (w : Str) : Prop where
 k : okS w
 l0 : 1 ≤ w.length
 l1 : w.length ≤ 200
theorem sV_zs (ws : List Str) : (ws.map zs).map sV = ws.map V.str := by rw [List.map_map]; rfl
theorem flat_zs (ws : List Str) : (ws.map zs).all flatD = true := List.all_eq_true.mpr fun d m => by
 obtain ⟨w, _, rfl⟩ := List.mem_map.mp m
 rfl
theorem in_tup (w : Str) (ws : List Str) : inD (zs w) (.tup (ws.map zs)) = some (rvB (inW w ws)) := by
 show (match kai (zs w) (ws.map zs) with | some b => some (rvB b) | none => none) = _
 unfold kai
 rw [if_pos (by rw [flat_zs]; rfl), sV_zs]
 rfl
theorem notIn_lst (w : Str) (ws : List Str) : xbh (zs w) (.lst (ws.map zs)) = some (rvB (!inW w ws)) := by
 show (match kai (zs w) (ws.map zs) with | some b => some (rvB (!b)) | none => none) = _
 unfold kai
 rw [if_pos (by rw [flat_zs]; rfl), sV_zs]
 rfl
theorem in_mem {z : Str} {c : Nat} (h : inS z c = true) : c ∈ z.cps.toList := Array.mem_toList_iff.mpr (Array.contains_iff.mp h)
theorem letters_lt : ∀ c ∈ lettersS.cps.toList, c < 128 := by decide +kernel
theorem jbn {z : Str} (h : kh lettersS z = true) : okS z := okS_iff.mpr fun c m => by
 have := letters_lt c (in_mem (List.all_eq_true.mp h c m))
 omega
theorem in_of {z : Str} {c : Nat} (h : c ∈ z.cps.toList) : inS z c = true := Array.contains_iff.mpr (Array.mem_toList_iff.mp h)
theorem fig_in {c : Nat} (h : 48 ≤ c ∧ c ≤ 57) : c ∈ figsS.cps.toList := by
 obtain ⟨h1, h2⟩ := h
 have : c = 48 ∨ c = 49 ∨ c = 50 ∨ c = 51 ∨ c = 52 ∨ c = 53 ∨ c = 54 ∨ c = 55 ∨ c = 56 ∨ c = 57 := by omega
 rcases this with rfl | rfl | rfl | rfl | rfl | rfl | rfl | rfl | rfl | rfl <;> decide +kernel
theorem inW_iff {w : Str} {ws : List Str} : inW w ws = true ↔ w ∈ ws := by
 unfold inW inV
 rw [List.any_map, List.any_eq_true]
 constructor
 ·rintro ⟨x, hx, he⟩
  have : x = w := by simpa [eqV] using he
  rw [← this]; exact hx
 ·intro h
  exact ⟨w, h, by simp [eqV]⟩
theorem W9.app {a b : Str} (ha : okS a) (hb : okS b) (h1 : 1 ≤ a.length + b.length) (h2 : a.length + b.length ≤ 200) : W9 (a ++ b) := ⟨okS_app ha hb, by rw [len_app]; exact h1, by rw [len_app]; exact h2⟩
theorem all_cons {p : Str → Prop} {a : Str} {b : List Str} (ha : p a) (hb : ∀ w ∈ b, p w) : ∀ w ∈ a :: b, p w := fun w m => by
 rcases List.mem_cons.mp m with rfl | m
 ·exact ha
 ·exact hb w m
theorem all_nil {p : Str → Prop} : ∀ w ∈ ([] : List Str), p w := fun w m => by cases m
theorem seq_ok {g h : PL.P Fl} {QF : Fl → En → Prop} {E : Exn → En → Prop} {ρ : En} {Q1 : En → Prop} (hg : wp g (fun fl r => fl = .next ∧ Q1 r) E ρ) (hh : ∀ r, Q1 r → wp h QF E r) : wp (sSeq g h) QF E ρ := by
 rw [wp_seq]
 refine wp_mono hg (fun fl r z => ?_) fun _ _ e => e
 obtain ⟨rfl, z⟩ := z
 exact hh r z
theorem seq_or {g h : PL.P Fl} {QF : Fl → En → Prop} {E : Exn → En → Prop} {ρ : En} (Q1 : En → Prop) (hg : wp g (fun fl r => onN fl r Q1 QF) E ρ) (hh : ∀ r, Q1 r → wp h QF E r) : wp (sSeq g h) QF E ρ := by
 rw [wp_seq]
 refine wp_mono hg (fun fl r z => ?_) fun _ _ e => e
 cases fl with
 | next => exact hh r z
 | _ => exact z
end LW
namespace LW
open PySem L2 PL
inductive Of where
 | one
 | maybe
 | some_
 | any_
def Of.s : Of → Str
 | .one => "one"
 | .maybe => "maybe"
 | .some_ => "some"
 | .any_ => "any"
def Of.again : Of → Bool
 | .some_ => true
 | .any_ => true
 | _ => false
def Of.lack : Of → Bool
 | .maybe => true
 | .any_ => true
 | _ => false
structure Pl where
 name : Str
 k : Kd
 o : Of
def scan (w : Str) : List Pl → Nat → List Int
 | [], _ => []
 | p :: r, j => (if p.k.holds w = true then [(j : Int)] else []) ++ (if p.o.lack = true then scan w r (j + 1) else [])
def qp (ps : List Pl) (last : Int) (w : Str) : List Int := if 0 ≤ last then (match ps[last.toNat]? with
 | some p => if (p.o.again && p.k.holds w) = true then [last] else []
 | none => []) else []
def pfor (ps : List Pl) (last : Int) (w : Str) : List Int := qp ps last w ++ scan w (ps.drop (last + 1).toNat) (last + 1).toNat
def preS (f : List Str → Nat) (p : Pl) : Bool → List Str → Nat
 | _, [] => 0
 | b, w :: ws => if (p.k.holds w && (b || p.o.again)) = true then f ws + preS f p false ws else 0
def Cnt : List Pl → List Str → Nat
 | [], ws => if ws.isEmpty = true then 1 else 0
 | p :: ps, ws => (if p.o.lack = true then Cnt ps ws else 0) + preS (Cnt ps) p true ws
def vk (ps : List Pl) (last : Int) : Bool := (ps.drop (last + 1).toNat).all fun p => p.o.lack
def Nn (ps : List Pl) (last : Int) (ws : List Str) : Nat := if last < 0 then Cnt ps ws else (match ps[last.toNat]? with
 | some p => Cnt (ps.drop (last.toNat + 1)) ws + preS (Cnt (ps.drop (last.toNat + 1))) p false ws
 | none => 0)
theorem qz {f : List Str → Nat} {p : Pl} {b : Bool} : preS f p b [] = 0 := by cases b <;> rfl
theorem jbp : ∀ ps : List Pl, Cnt ps [] = if (ps.all fun p => p.o.lack) = true then 1 else 0
 | [] => rfl
 | p :: ps => by
  rw [Cnt, qz, jbp ps, List.all_cons]
  cases p.o.lack <;> simp
theorem Nn_nil {ps : List Pl} {last : Int} (h0 : -1 ≤ last) (h1 : last < ps.length) : Nn ps last [] = if vk ps last = true then 1 else 0 := by
 unfold Nn vk
 by_cases c : last < 0
 ·have : last = -1 := by omega
  subst this
  rw [if_pos (by decide), jbp]
  rfl
 ·rw [if_neg c, List.getElem?_eq_getElem (by omega)]
  dsimp only
  rw [qz, jbp, Nat.add_zero, show (last + 1).toNat = last.toNat + 1 by omega]
theorem Nn_at {ps : List Pl} {j : Nat} {p : Pl} (h : ps[j]? = some p) (ws : List Str) : Nn ps (j : Int) ws = Cnt (ps.drop (j + 1)) ws + preS (Cnt (ps.drop (j + 1))) p false ws := by
 unfold Nn
 rw [if_neg (by omega), Int.toNat_natCast, h]
theorem wa6 {ps : List Pl} {w : Str} {ws : List Str} : ∀ (n j : Nat), ps.length - j = n → j ≤ ps.length → Cnt (ps.drop j) (w :: ws) = ((scan w (ps.drop j) j).map fun n => Nn ps n ws).sum
 | 0, j, h, hj => by
  have : j = ps.length := by omega
  subst this
  rw [List.drop_length]
  rfl
 | n + 1, j, h, hj => by
  have hlt : j < ps.length := by omega
  rw [List.drop_eq_getElem_cons hlt, Cnt, scan, List.map_append, List.sum_append, preS, Bool.true_or, Bool.and_true]
  have ih := wa6 (ps := ps) (w := w) (ws := ws) n (j + 1) (by omega) hlt
  have e := Nn_at (List.getElem?_eq_getElem hlt) ws
  rw [ih, Nat.add_comm]
  cases ps[j].o.lack <;> cases hh : ps[j].k.holds w <;> simp [e]
theorem Nn_cons {ps : List Pl} {last : Int} {w : Str} {ws : List Str} (h0 : -1 ≤ last) (h1 : last < ps.length) : Nn ps last (w :: ws) = ((pfor ps last w).map fun n => Nn ps n ws).sum := by
 unfold pfor
 rw [List.map_append, List.sum_append]
 by_cases c : last < 0
 ·have : last = -1 := by omega
  subst this
  have := wa6 (ps := ps) (w := w) (ws := ws) ps.length 0 (by omega) (by omega)
  unfold Nn qp
  rw [if_pos (by decide), if_neg (by decide)]
  rw [List.drop_zero] at this
  simpa [Nn] using this
 ·obtain ⟨j, rfl⟩ := Int.eq_ofNat_of_zero_le (show 0 ≤ last by omega)
  have hlt : j < ps.length := by omega
  have hg := List.getElem?_eq_getElem hlt
  have e1 : ((j : Int) + 1).toNat = j + 1 := by omega
  have sc := wa6 (ps := ps) (w := w) (ws := ws) _ (j + 1) rfl hlt
  rw [Nn_at hg, e1, ← sc, Nat.add_comm]
  congr 1
  unfold qp
  rw [if_pos (by omega), Int.toNat_natCast, hg, preS]
  dsimp only
  rw [Bool.false_or, Bool.and_comm]
  split
  ·simp [Nn_at hg]
  ·rfl
theorem zam {w : Str} : ∀ {ps : List Pl} {j : Nat} {n : Int}, n ∈ scan w ps j → (j : Int) ≤ n ∧ n < (j + ps.length : Nat)
 | [], j, n, h => by simp [scan] at h
 | p :: r, j, n, h => by
  rw [scan] at h
  rw [List.length_cons]
  rcases List.mem_append.mp h with h | h
  ·split at h
   ·rw [List.mem_singleton.mp h]; omega
   ·cases h
  ·split at h
   ·have := zam h; omega
   ·cases h
theorem wa7 {ps : List Pl} {last : Int} {w : Str} {n : Int} (h0 : -1 ≤ last) (h1 : last < ps.length) (h : n ∈ pfor ps last w) : 0 ≤ n ∧ last ≤ n ∧ n < ps.length := by
 unfold pfor at h
 rcases List.mem_append.mp h with h | h
 ·unfold qp at h
  split at h
  ·split at h
   ·split at h
    ·rw [List.mem_singleton.mp h]; omega
    ·cases h
   ·cases h
  ·cases h
 ·have := zam h
  rw [List.length_drop] at this
  omega
theorem scan_len (w : Str) : ∀ (ps : List Pl) (j : Nat), (scan w ps j).length ≤ ps.length
 | [], j => by simp [scan]
 | p :: r, j => by
  rw [scan, List.length_append, List.length_cons]
  have := scan_len w r (j + 1)
  split <;> split <;> simp <;> omega
theorem yaf (ps : List Pl) (last : Int) (w : Str) : (qp ps last w).length ≤ 1 := by
 unfold qp
 split
 ·split
  ·split <;> simp
  ·simp
 ·simp
theorem pfor_len (ps : List Pl) (last : Int) (w : Str) : (pfor ps last w).length ≤ ps.length + 1 := by
 unfold pfor
 rw [List.length_append]
 have h1 := yaf ps last w
 have h2 := scan_len w (ps.drop (last + 1).toNat) (last + 1).toNat
 rw [List.length_drop] at h2
 omega
def lastOf (way : List Int) : Int := way.getLast?.getD (-1)
def jax (ps : List Pl) (w : Str) (way : List Int) : List (List Int) := (pfor ps (lastOf way) w).map fun n => way ++ [n]
def xf (ps : List Pl) (ways : List (List Int)) (w : Str) : List (List Int) := ways.flatMap (jax ps w)
def yi (ps : List Pl) (ws : List Str) : List (List Int) := ws.foldl (xf ps) [[]]
def jac (ps : List Pl) (ws : List Str) : List (List Int) := (yi ps ws).filter fun way => vk ps (lastOf way)
def qj (ps : List Pl) (way : List Int) : Prop := -1 ≤ lastOf way ∧ lastOf way < ps.length
theorem xi (way : List Int) (n : Int) : lastOf (way ++ [n]) = n := by unfold lastOf; simp
theorem zag (ps : List Pl) : qj ps [] := ⟨by decide, by show (-1 : Int) < ps.length; omega⟩
theorem wx {ps : List Pl} {ways : List (List Int)} {w : Str} (h : ∀ y ∈ ways, qj ps y) : ∀ y ∈ xf ps ways w, qj ps y := fun y m => by
 obtain ⟨x, h1, h2⟩ := List.mem_flatMap.mp m
 obtain ⟨n, h3, rfl⟩ := List.mem_map.mp h2
 have := wa7 (h x h1).1 (h x h1).2 h3
 unfold qj
 rw [xi]
 omega
def sumN (ps : List Pl) (ways : List (List Int)) (ws : List Str) : Nat := (ways.map fun y => Nn ps (lastOf y) ws).sum
theorem jbf {ps : List Pl} {w : Str} {ws : List Str} : ∀ {ways : List (List Int)}, (∀ y ∈ ways, qj ps y) → sumN ps (xf ps ways w) ws = sumN ps ways (w :: ws)
 | [], h => rfl
 | y :: ys, h => by
  have ih := jbf (ps := ps) (w := w) (ws := ws) (ways := ys) fun z m => h z (List.mem_cons_of_mem _ m)
  unfold sumN xf at ih ⊢
  rw [List.flatMap_cons, List.map_append, List.sum_append, ih, List.map_cons, List.sum_cons, Nn_cons (h y List.mem_cons_self).1 (h y List.mem_cons_self).2]
  congr 1
  unfold jax
  rw [List.map_map]
  congr 1
  exact List.map_congr_left fun n _ => by rw [Function.comp_apply, xi]
theorem zbi {ps : List Pl} : ∀ (ws : List Str) {ways : List (List Int)}, (∀ y ∈ ways, qj ps y) → (∀ y ∈ ws.foldl (xf ps) ways, qj ps y) ∧ sumN ps (ws.foldl (xf ps) ways) [] = sumN ps ways ws
 | [], ways, h => ⟨h, rfl⟩
 | w :: ws, ways, h => by
  have := zbi ws (wx (w := w) h)
  rw [List.foldl_cons]
  exact ⟨this.1, this.2.trans (jbf h)⟩
theorem waz {ps : List Pl} : ∀ {ways : List (List Int)}, (∀ y ∈ ways, qj ps y) → (ways.filter fun y => vk ps (lastOf y)).length = sumN ps ways []
 | [], h => rfl
 | y :: ys, h => by
  have ih := waz (ps := ps) (ways := ys) fun z m => h z (List.mem_cons_of_mem _ m)
  unfold sumN at ih ⊢
  rw [List.map_cons, List.sum_cons, ← ih, Nn_nil (h y List.mem_cons_self).1 (h y List.mem_cons_self).2, List.filter_cons]
  split <;> simp [Nat.add_comm]
theorem lays_len (ps : List Pl) (ws : List Str) : (jac ps ws).length = Cnt ps ws := by
 have h0 : ∀ y ∈ ([[]] : List (List Int)), qj ps y := fun y m => by rw [List.mem_singleton.mp m]; exact zag ps
 obtain ⟨h1, h2⟩ := zbi (ps := ps) ws h0
 unfold jac yi
 rw [waz h1, h2]
 show Nn ps (-1) ws + 0 = _
 unfold Nn
 rw [if_pos (by decide)]
 rfl
theorem qbf {ps : List Pl} : ∀ (ws : List Str) {ways : List (List Int)} {n : Nat}, (∀ y ∈ ways, qj ps y ∧ y.length = n) → ∀ y ∈ ws.foldl (xf ps) ways, qj ps y ∧ y.length = n + ws.length
 | [], ways, n, h => h
 | w :: ws, ways, n, h => by
  have h1 : ∀ y ∈ xf ps ways w, qj ps y ∧ y.length = n + 1 := fun y m => by
   refine ⟨wx (fun z q => (h z q).1) y m, ?_⟩
   obtain ⟨x, h1, h2⟩ := List.mem_flatMap.mp m
   obtain ⟨k, h3, rfl⟩ := List.mem_map.mp h2
   rw [List.length_append, (h x h1).2]; rfl
  have := qbf ws h1
  rw [List.foldl_cons, List.length_cons]
  intro y m
  have := this y m
  exact ⟨this.1, by omega⟩
theorem wbk {ps : List Pl} {ws : List Str} : ∀ y ∈ yi ps ws, qj ps y ∧ y.length = ws.length := fun y m => by
 have := qbf (ps := ps) ws (ways := [[]]) (n := 0) (fun y m => by rw [List.mem_singleton.mp m]; exact ⟨zag ps, rfl⟩) y m
 exact ⟨this.1, by omega⟩
theorem qbl {ps : List Pl} {ws : List Str} {i : Nat} {w : Str} (h : ws[i]? = some w) : yi ps (ws.take (i + 1)) = xf ps (yi ps (ws.take i)) w := by
 unfold yi
 rw [List.take_add_one, h, List.foldl_append]
 rfl
theorem zar {ps : List Pl} {w : Str} : ∀ ways : List (List Int), (xf ps ways w).length ≤ ways.length * (ps.length + 1)
 | [] => by simp [xf]
 | y :: ys => by
  have ih := zar (ps := ps) (w := w) ys
  unfold xf at ih ⊢
  rw [List.flatMap_cons, List.length_append, List.length_cons, Nat.add_mul, Nat.one_mul]
  have : (jax ps w y).length ≤ ps.length + 1 := by unfold jax; rw [List.length_map]; exact pfor_len _ _ _
  omega
def addC (cs : List (Int × Nat)) (k : Int) (m : Nat) : List (Int × Nat) :=
 if (cs.any fun c => decide (c.1 = k)) = true then cs.map (fun c => if c.1 = k then (c.1, c.2 + m) else c) else cs ++ [(k, m)]
def kbk (m : Nat) (acc : List (Int × Nat)) (ns : List Int) : List (Int × Nat) := ns.foldl (fun acc n => addC acc n m) acc
def vbo (ps : List Pl) (w : Str) (acc : List (Int × Nat)) (c : Int × Nat) : List (Int × Nat) := kbk c.2 acc (pfor ps c.1 w)
def yau (ps : List Pl) (cs : List (Int × Nat)) (w : Str) : List (Int × Nat) := cs.foldl (vbo ps w) []
def zae (ps : List Pl) (ws : List Str) : List (Int × Nat) := ws.foldl (yau ps) [(-1, 1)]
def manyP (ps : List Pl) (ws : List Str) : Nat := (((zae ps ws).filter fun c => vk ps c.1).map (·.2)).sum
def sumT (f : Int → Nat) (cs : List (Int × Nat)) : Nat := (cs.map fun c => c.2 * f c.1).sum
theorem xbk (cs : List (Int × Nat)) (k : Int) (m : Nat) : (addC cs k m).map (·.1) = if (cs.any fun c => decide (c.1 = k)) = true then cs.map (·.1) else cs.map (·.1) ++ [k] := by
 unfold addC
 split
 ·rw [List.map_map]
  exact List.map_congr_left fun c _ => by rw [Function.comp_apply]; split <;> rfl
 ·rw [List.map_append]; rfl
theorem any_key {cs : List (Int × Nat)} {k : Int} : (cs.any fun c => decide (c.1 = k)) = true ↔ k ∈ cs.map (·.1) := by
 rw [List.any_eq_true, List.mem_map]
 constructor
 ·rintro ⟨c, h1, h2⟩; exact ⟨c, h1, of_decide_eq_true h2⟩
 ·rintro ⟨c, h1, h2⟩; exact ⟨c, h1, decide_eq_true h2⟩
theorem addC_nodup {cs : List (Int × Nat)} {k : Int} {m : Nat} (h : (cs.map (·.1)).Nodup) : ((addC cs k m).map (·.1)).Nodup := by
 rw [xbk]
 split
 ·exact h
 ·rename_i c
  rw [any_key] at c
  rw [List.nodup_append]
  refine ⟨h, by simp, fun a ha b hb e => ?_⟩
  rw [List.mem_singleton.mp hb] at e
  exact c (by rw [← e]; exact ha)
theorem sum_upd (f : Int → Nat) (k : Int) (m : Nat) : ∀ {cs : List (Int × Nat)}, (cs.map (·.1)).Nodup → k ∈ cs.map (·.1) → sumT f (cs.map fun c => if c.1 = k then (c.1, c.2 + m) else c) = sumT f cs + m * f k
 | [], h, hk => by simp at hk
 | c :: cs, h, hk => by
  rw [List.map_cons, List.nodup_cons] at h
  unfold sumT
  rw [List.map_cons, List.map_cons, List.sum_cons, List.map_cons, List.sum_cons]
  by_cases e : c.1 = k
  ·have e2 : (cs.map fun c => if c.1 = k then (c.1, c.2 + m) else c) = cs := by
    conv => rhs; rw [← List.map_id cs]
    refine List.map_congr_left fun x hx => ?_
    rw [if_neg (fun q => h.1 (by rw [e, ← q]; exact List.mem_map_of_mem hx))]
    rfl
   rw [if_pos e, e2]
   dsimp only
   rw [e, Nat.add_mul]
   omega
  ·rw [if_neg e]
   have hk' : k ∈ cs.map (·.1) := by
    rw [List.map_cons] at hk
    rcases List.mem_cons.mp hk with q | q
    ·exact absurd q.symm e
    ·exact q
   have ih := sum_upd f k m (cs := cs) h.2 hk'
   unfold sumT at ih
   rw [ih]
   omega
theorem sumT_add (f : Int → Nat) {cs : List (Int × Nat)} {k : Int} {m : Nat} (h : (cs.map (·.1)).Nodup) : sumT f (addC cs k m) = sumT f cs + m * f k := by
 unfold addC
 split
 ·rename_i c
  exact sum_upd f k m h (any_key.mp c)
 ·unfold sumT
  rw [List.map_append, List.sum_append]
  simp
def qi (n : Nat) (cs : List (Int × Nat)) : Prop := (cs.map (·.1)).Nodup ∧ ∀ k ∈ cs.map (·.1), -1 ≤ k ∧ k < (n : Int)
theorem addC_ok {n : Nat} {cs : List (Int × Nat)} {k : Int} {m : Nat} (h : qi n cs) (hk : -1 ≤ k ∧ k < (n : Int)) : qi n (addC cs k m) := by
 refine ⟨addC_nodup h.1, fun j hj => ?_⟩
 rw [xbk] at hj
 split at hj
 ·exact h.2 j hj
 ·rcases List.mem_append.mp hj with q | q
  ·exact h.2 j q
  ·rw [List.mem_singleton.mp q]; exact hk
theorem vaw (f : Int → Nat) {n m : Nat} : ∀ {ns : List Int} {acc : List (Int × Nat)}, qi n acc → (∀ k ∈ ns, -1 ≤ k ∧ k < (n : Int)) → qi n (kbk m acc ns) ∧ sumT f (kbk m acc ns) = sumT f acc + m * (ns.map f).sum
 | [], acc, h, hn => ⟨h, by show _ = _ + m * 0; rfl⟩
 | k :: ns, acc, h, hn => by
  have h1 := addC_ok (m := m) h (hn k List.mem_cons_self)
  have := vaw f (m := m) (ns := ns) h1 fun j hj => hn j (List.mem_cons_of_mem _ hj)
  refine ⟨this.1, this.2.trans ?_⟩
  rw [sumT_add f h.1, List.map_cons, List.sum_cons, Nat.mul_add]
  omega
theorem vbb {ps : List Pl} {w : Str} {ws : List Str} : ∀ {cs acc : List (Int × Nat)}, qi ps.length acc → qi ps.length cs → qi ps.length (cs.foldl (vbo ps w) acc) ∧ sumT (fun k => Nn ps k ws) (cs.foldl (vbo ps w) acc) = sumT (fun k => Nn ps k ws) acc + sumT (fun k => Nn ps k (w :: ws)) cs
 | [], acc, h, hc => ⟨h, rfl⟩
 | c :: cs, acc, h, hc => by
  have hk := hc.2 c.1 (by simp)
  have hc' : qi ps.length cs := by
   refine ⟨?_, fun k m => hc.2 k (by simp only [List.map_cons, List.mem_cons]; exact .inr m)⟩
   have := hc.1
   rw [List.map_cons, List.nodup_cons] at this
   exact this.2
  have h1 := vaw (fun k => Nn ps k ws) (m := c.2) (ns := pfor ps c.1 w) h fun k m => by have := wa7 hk.1 hk.2 m; omega
  have ih := vbb (w := w) (ws := ws) (cs := cs) h1.1 hc'
  refine ⟨ih.1, ih.2.trans ?_⟩
  rw [h1.2]
  unfold sumT
  rw [List.map_cons, List.sum_cons]
  dsimp only
  rw [Nn_cons (w := w) (ws := ws) hk.1 hk.2]
  omega
theorem cntStep_ok {ps : List Pl} {w : Str} {ws : List Str} {cs : List (Int × Nat)} (hc : qi ps.length cs) : qi ps.length (yau ps cs w) ∧ sumT (fun k => Nn ps k ws) (yau ps cs w) = sumT (fun k => Nn ps k (w :: ws)) cs := by
 have := vbb (w := w) (ws := ws) (acc := []) (cs := cs) ⟨by simp, fun k m => by simp at m⟩ hc
 refine ⟨this.1, this.2.trans ?_⟩
 show 0 + _ = _
 rw [Nat.zero_add]
theorem xat {ps : List Pl} : ∀ (ws : List Str) {cs : List (Int × Nat)}, qi ps.length cs → qi ps.length (ws.foldl (yau ps) cs) ∧ sumT (fun k => Nn ps k []) (ws.foldl (yau ps) cs) = sumT (fun k => Nn ps k ws) cs
 | [], cs, h => ⟨h, rfl⟩
 | w :: ws, cs, h => by
  have h1 := cntStep_ok (w := w) (ws := ws) h
  have := xat ws h1.1
  rw [List.foldl_cons]
  exact ⟨this.1, this.2.trans h1.2⟩
theorem start_ok (n : Nat) : qi n [(-1, 1)] := ⟨by simp, fun k m => by simp at m; omega⟩
theorem kat {ps : List Pl} : ∀ {cs : List (Int × Nat)}, (∀ k ∈ cs.map (·.1), -1 ≤ k ∧ k < (ps.length : Int)) → ((cs.filter fun c => vk ps c.1).map (·.2)).sum = sumT (fun k => Nn ps k []) cs
 | [], h => rfl
 | c :: cs, h => by
  have hk := h c.1 (by simp)
  have ih := kat (ps := ps) (cs := cs) fun k m => h k (by simp only [List.map_cons, List.mem_cons]; exact .inr m)
  unfold sumT at ih ⊢
  rw [List.map_cons, List.sum_cons, ← ih]
  dsimp only
  rw [Nn_nil hk.1 hk.2, List.filter_cons]
  split <;> simp
theorem many_cnt (ps : List Pl) (ws : List Str) : manyP ps ws = Cnt ps ws := by
 obtain ⟨h1, h2⟩ := xat (ps := ps) ws (start_ok ps.length)
 unfold manyP zae
 rw [kat h1.2, h2]
 show 1 * Nn ps (-1) ws + 0 = _
 unfold Nn
 rw [if_pos (by decide)]
 omega
theorem yas {α : Type} [DecidableEq α] : ∀ {l m : List α}, l.Nodup → (∀ x ∈ l, x ∈ m) → l.length ≤ m.length
 | [], m, _, _ => Nat.zero_le _
 | a :: l, m, h, s => by
  rw [List.nodup_cons] at h
  have ha := s a List.mem_cons_self
  have := yas (l := l) (m := m.erase a) h.2 fun x hx => (List.mem_erase_of_ne (fun e => h.1 (by rw [← e]; exact hx))).mpr (s x (List.mem_cons_of_mem _ hx))
  rw [List.length_erase_of_mem ha] at this
  have hp : 0 < m.length := List.length_pos_of_mem ha
  rw [List.length_cons]
  omega
theorem keys_len {n : Nat} {cs : List (Int × Nat)} (h : qi n cs) : cs.length ≤ n + 1 := by
 have := yas (l := cs.map (·.1)) (m := (List.range (n + 1)).map fun (i : Nat) => (i : Int) - 1) h.1 fun k hk => by
  have := h.2 k hk
  refine List.mem_map.mpr ⟨(k + 1).toNat, ?_, ?_⟩
  ·rw [List.mem_range]; omega
  ·omega
 rw [List.length_map, List.length_map, List.length_range] at this
 exact this
end LW
namespace PL
open PySem L2
theorem vau {α : Type} {vs : List Nat} {a : Tgt} {tests : PL.P Bool} {elt : PL.P Rv} {ρ : En} (xs : List α) (f : α → D) (p : α → Bool) (g : α → D) (hl : xs.length ≤ sizeLine)
  (hs : ∀ x ∈ xs, wpO (a (f x) ρ) fun r1 => wp tests (fun b r2 => b = p x ∧ if b = true then wp elt (fun v r3 => wpG r3 v fun y r4 => y = g x ∧ vg r4 vs = ρ) EF r2 else vg r2 vs = ρ) EF r1) :
  vt vs a tests elt (xs.map f) [] ρ = some ((xs.filter p).map g, ρ) := by
 obtain ⟨acc, r, h1, h2, h3, h4⟩ := kau (vs := vs) (a := a) (tests := tests) (elt := elt) (ds := xs.map f) (acc0 := []) (ρ := ρ) (fun i acc r => acc = ((xs.take i).filter p).map g ∧ r = ρ ∧ acc.length ≤ i) ⟨by simp, rfl, by simp⟩
  (fun i d acc r hd ⟨h1, h2, h3⟩ => by
   subst h2
   rw [List.getElem?_map] at hd
   obtain ⟨x, hx, rfl⟩ := Option.map_eq_some_iff.mp hd
   have hm := List.mem_of_getElem? hx
   have hi := (List.getElem?_eq_some_iff.mp hx).1
   have hh := hs x hm
   unfold wpO at hh ⊢
   cases q : a (f x) r with
   | none => rw [q] at hh; exact hh
   | some r1 =>
    rw [q] at hh
    refine wp_mono hh (fun b r2 z => ?_) fun _ _ z => z
    obtain ⟨z1, z2⟩ := z
    have et : xs.take (i + 1) = xs.take i ++ [x] := by rw [List.take_add_one, hx]; rfl
    cases b with
    | false =>
     rw [if_neg Bool.false_ne_true] at z2 ⊢
     refine ⟨?_, z2, by omega⟩
     rw [et, List.filter_append, List.map_append, ← h1]
     simp [← z1]
    | true =>
     rw [if_pos rfl] at z2 ⊢
     refine wp_mono z2 (fun v r3 z => ?_) fun _ _ z => z
     unfold wpG at z ⊢
     cases q3 : grab r3 v with
     | none => rw [q3] at z; exact z
     | some w =>
      rw [q3] at z
      obtain ⟨z3, z4⟩ := z
      refine ⟨by omega, ?_, z4, by rw [List.length_append]; simp; omega⟩
      rw [et, List.filter_append, List.map_append, ← h1, z3]
      simp [← z1])
 rw [h1, h2, h3, List.length_map, List.take_length]
theorem yw {α : Type} {vs : List Nat} {a : Tgt} {elt : PL.P Rv} {ρ : En} (xs : List α) (f g : α → D) (hl : xs.length ≤ sizeLine)
  (hs : ∀ x ∈ xs, wpO (a (f x) ρ) fun r1 => wp elt (fun v r3 => wpG r3 v fun y r4 => y = g x ∧ vg r4 vs = ρ) EF r1) :
  vt vs a fYes elt (xs.map f) [] ρ = some (xs.map g, ρ) := by
 have := vau (vs := vs) (a := a) (tests := fYes) (elt := elt) (ρ := ρ) xs f (fun _ => true) g hl fun x hx => by
  have hh := hs x hx
  unfold wpO at hh ⊢
  cases q : a (f x) ρ with
  | none => rw [q] at hh; exact hh
  | some r1 =>
   rw [q] at hh
   show wp (P.ret true) _ EF r1
   rw [qk]
   exact ⟨rfl, by rw [if_pos rfl]; exact hh⟩
 rw [this, List.filter_eq_self.mpr (fun _ _ => rfl)]
theorem jav : ∀ bs : List Bool, zav (bs.map fun b => D.s (.bl b)) = some bs
 | [] => rfl
 | b :: bs => by
  show (match zav (bs.map fun b => D.s (.bl b)) with | some bs => some (b :: bs) | none => none) = _
  rw [jav bs]
theorem intL_map : ∀ bs : List Int, intL (bs.map fun b => D.s (.int b)) = some bs
 | [] => rfl
 | b :: bs => by
  show (match intL (bs.map fun b => D.s (.int b)) with | some bs => some (b :: bs) | none => none) = _
  rw [intL_map bs]
theorem all_map {α : Type} (xs : List α) (p : α → Bool) : allD [.lst (xs.map fun x => D.s (.bl (p x)))] = some (rvB (xs.all p)) := by
 show (match zav (xs.map fun x => D.s (.bl (p x))) with | some bs => some (rvB (bs.all id)) | none => none) = _
 rw [show (xs.map fun x => D.s (.bl (p x))) = (xs.map p).map (fun b => D.s (.bl b)) by rw [List.map_map]; rfl, jav]
 simp [List.all_map]
theorem any_map {α : Type} (xs : List α) (p : α → Bool) : anyD [.lst (xs.map fun x => D.s (.bl (p x)))] = some (rvB (xs.any p)) := by
 show (match zav (xs.map fun x => D.s (.bl (p x))) with | some bs => some (rvB (bs.any id)) | none => none) = _
 rw [show (xs.map fun x => D.s (.bl (p x))) = (xs.map p).map (fun b => D.s (.bl b)) by rw [List.map_map]; rfl, jav]
 simp [List.any_map]
theorem sum_map {α : Type} (xs : List α) (p : α → Int) : sumD [.lst (xs.map fun x => D.s (.int (p x)))] = some (rvI (xs.map p).sum) := by
 show (match intL (xs.map fun x => D.s (.int (p x))) with | some bs => some (rvI bs.sum) | none => none) = _
 rw [show (xs.map fun x => D.s (.int (p x))) = (xs.map p).map (fun b => D.s (.int b)) by rw [List.map_map]; rfl, intL_map]
structure Sh (n : Nat) (d : D) : Prop where
 s : shp d = true
 p : dep d ≤ n
theorem Sh.mono {m n : Nat} {d : D} (h : Sh m d) (k : m ≤ n) : Sh n d := ⟨h.s, Nat.le_trans h.p k⟩
theorem Sh.int {i : Int} : Sh 0 (.s (.int i)) := ⟨qas, Nat.le_of_eq dep_int⟩
theorem Sh.bl {i : Bool} : Sh 0 (.s (.bl i)) := ⟨shp_bl, Nat.le_of_eq dep_bl⟩
theorem Sh.non : Sh 0 (.s .non) := ⟨shp_non, Nat.le_of_eq dep_non⟩
theorem Sh.str {z : Str} (h : okS z) : Sh 0 (.s (.str z)) := ⟨shp_str.trans h, Nat.le_of_eq dep_str⟩
theorem Sh.tup {n : Nat} {ds : List D} (h : ∀ d ∈ ds, Sh n d) (k : n ≤ 63) : Sh (n + 1) (.tup ds) := ⟨shp_tup (fun d m => (h d m).s) (fun d m => (h d m).p) k, dep_tup (fun d m => (h d m).s) fun d m => (h d m).p⟩
theorem Sh.lst {n : Nat} {ds : List D} (h : ∀ d ∈ ds, Sh n d) (k : n ≤ 63) : Sh (n + 1) (.lst ds) := ⟨shp_lst (fun d m => (h d m).s) (fun d m => (h d m).p) k, dep_lst (fun d m => (h d m).s) fun d m => (h d m).p⟩
theorem shp_lay {d : D} (h : shp d = true) : (py d).canLay0 = true := by
 unfold shp at h
 cases q : toPy d with
 | none => rw [q] at h; cases h
 | some a =>
  rw [q] at h
  rw [kbm q]
  unfold SeqAt.shaped at h
  simp only [Bool.and_eq_true] at h
  first | exact h.1 | exact h.2
theorem ne_self {n : Nat} {d : D} (h : Sh n d) : neD d d = some (rvB false) := by rw [vbm h.s h.s, SeqAt.eqv_refl _ (shp_lay h.s)]; rfl
theorem ne_tup0 {n : Nat} {ds : List D} (h : ∀ d ∈ ds, Sh n d) (k : n ≤ 63) : neD (.tup ds) (.tup []) = some (rvB (!ds.isEmpty)) := by
 have h0 : Sh 1 (.tup []) := Sh.tup (n := 0) (fun d m => absurd m List.not_mem_nil) (by omega)
 rw [vbm (Sh.tup h k).s h0.s, x3 fun d m => (h d m).s, x3 (fun d (m : d ∈ ([] : List D)) => absurd m List.not_mem_nil), jj, List.map_nil, eqvAll_nil]
 cases ds <;> rfl
theorem atI_end {α : Type} (xs : List α) : atI xs (-1) = xs.getLast? := by
 unfold atI ixN
 rw [if_neg (by decide)]
 cases xs with
 | nil => rfl
 | cons x r =>
  rw [List.getLast?_eq_getElem?, List.length_cons]
  split
  ·rename_i c
   rw [Option.bind_some]
   congr 1
   omega
  ·rename_i c; omega
theorem x8 {i : Nat} {f : PL.P Rv} {QR : Rv → En → Prop} {E : Exn → En → Prop} {ρ : En} : wp (qah i f) QR E ρ ↔ atS ρ i (jag fun _ => wp f (fun v r => wpO (peek r v) fun d => isL d fun es => atS r i (jag fun ds => ds.length + es.length ≤ sizeLine ∧ QR (.dat (.s .non)) (r.set i (.own (.lst (ds ++ es)))))) E ρ) := by
 unfold qah
 simp only [yt, wp_bind, qar]
 refine xj fun c => wg fun _ => wb fun v r => xl fun d => ?_
 cases d with
 | lst es =>
  show wp (ownL i fun ds => if ds.length + es.length ≤ sizeLine then setL i (ds ++ es) (.dat (.s .non)) else P.fail) QR E r ↔ _
  rw [yt]
  show _ ↔ atS r i _
  refine xj fun c => wg fun ds => ?_
  by_cases h : ds.length + es.length ≤ sizeLine
  ·rw [if_pos h]; exact ⟨fun q => ⟨h, q⟩, fun q => q.2⟩
  ·rw [if_neg h]; exact ⟨fun q => q.elim, fun q => h q.1⟩
 | _ => exact Iff.rfl
theorem cutG_drop {α : Type} {xs : List α} {i : Nat} : cutG xs (some (i : Int)) none = xs.drop i := by
 unfold cutG
 rw [HT.sIx_nat, HT.sIx_none]
 by_cases h : i ≤ xs.length
 ·rw [Nat.min_eq_left h]
  exact List.take_of_length_le (by rw [List.length_drop]; omega)
 ·rw [Nat.min_eq_right (by omega), List.drop_length, List.drop_eq_nil_of_le (by omega), List.take_nil]
theorem cutG_dropI {α : Type} {xs : List α} {i : Int} (h : 0 ≤ i) : cutG xs (some i) none = xs.drop i.toNat := by
 obtain ⟨n, rfl⟩ := Int.eq_ofNat_of_zero_le h
 exact cutG_drop
end PL
namespace PL
open PySem L2 PySem.Spec PyProof.Rows
section
variable {QDs : List D → En → Prop} {E : Exn → En → Prop} {ρ : En}
def three3 (ds : List D) (Q : D → D → D → Prop) : Prop := match ds with
 | [d, e, f] => Q d e f
 | _ => False
theorem vn {d e f : D} {Q : D → D → D → Prop} : three3 [d, e, f] Q ↔ Q d e f := Iff.rfl
end
end PL
namespace PL
open PySem L2 PySem.Spec PyProof.Rows
section
variable {QR : Rv → En → Prop} {E : Exn → En → Prop} {ρ : En}
def isLs (d : D) (Q : List D → Prop) : Prop := match d with
 | .lst ds => Q ds
 | _ => False
theorem vao {ds : List D} {Q : List D → Prop} : isLs (.lst ds) Q ↔ Q ds := Iff.rfl
end
end PL
namespace PL
open PySem L2 PySem.Spec PyProof.Rows
theorem rev_adj (n : Nat) : Builtin.Slice.sliceAdjust none none (-1) (n : Int) = ((n : Int) - 1, -1) := rfl
theorem rev_plc (n : Nat) : Builtin.Slice.slicePlaces ((n : Int) - 1) (-1) (-1) = n := by
 unfold Builtin.Slice.slicePlaces
 rw [if_neg (by decide)]
 by_cases c : (n : Int) - 1 > -1
 ·rw [if_pos c, show ((n : Int) - 1 - -1 - 1) = (n : Int) - 1 by omega, show (- -1 : Int) = 1 by decide, Int.ediv_one]
  omega
 ·rw [if_neg c]
  omega
theorem fm_congr {α β : Type} {f g : α → Option β} : ∀ {xs : List α}, (∀ x ∈ xs, f x = g x) → xs.filterMap f = xs.filterMap g
 | [], _ => rfl
 | x :: xs, h => by
  rw [List.filterMap_cons, List.filterMap_cons, h x List.mem_cons_self, fm_congr fun y m => h y (List.mem_cons_of_mem _ m)]
theorem rev_pck (xs : Array Value) : ((List.range xs.size).filterMap fun (m : Nat) => xs[(((xs.size : Int) - 1) + (m : Int) * (-1)).toNat]?).toArray = xs.toList.reverse.toArray := by
 congr 1
 have e : (List.range xs.size).filterMap (fun (m : Nat) => xs[(((xs.size : Int) - 1) + (m : Int) * (-1)).toNat]?) = (List.range xs.size).filterMap (fun m => xs[xs.size - 1 - m]?) := by
  refine fm_congr fun m hm => ?_
  rw [List.mem_range] at hm
  rw [show (((xs.size : Int) - 1) + (m : Int) * (-1)).toNat = xs.size - 1 - m by omega]
 rw [e]
 have e2 : (fun (m : Nat) => xs[xs.size - 1 - m]?) = (fun (k : Nat) => xs[k]?) ∘ fun m => xs.size - 1 - m := rfl
 rw [e2, ← List.filterMap_map, PySem.W.krv_range, List.filterMap_reverse, PySem.W.krv_all]
section
variable {prog : Program} {w : World} {A : Around} {E : Value → Shared → Prop} {s : Shared}
theorem sl_rev {sl : Addr} {v1 v2 v3 : Value} {n : Nat} {Q : Int × Int × Nat → Shared → Prop} (hs : s.heap.IsSliceOf sl v1 v2 v3) (p1 : IsPart v1 none) (p2 : IsPart v2 none) (p3 : IsPart v3 (some (-1)))
  (h : Q ((n : Int) - 1, -1, n) s) : wpAny (model prog w) A (Builtin.Slice.sliceApplied (.ref sl) (pure (n : Int))) Q E s := by
 obtain ⟨oS, hoS, hcS, hdS⟩ := id hs
 (unfold Builtin.Slice.sliceApplied Builtin.Slice.sliceFields)
 refine wpAny_bind (wpAny_bind (wpAny_field hoS hdS (x := v1) rfl (wpAny_bind (wpAny_field hoS hdS (x := v2) rfl (wpAny_bind (wpAny_field hoS hdS (x := v3) rfl (wpAny_pure ?_)))))))
 refine wpAny_bind (HT.slicePart_ p3 ?_)
 show wpAny _ _ (if ((-1 : Int) == 0) = true then _ else _) _ _ s
 rw [if_neg (show ¬ ((-1 : Int) == 0) = true by decide)]
 refine wpAny_bind (HT.slicePart_ p1 (wpAny_bind (HT.slicePart_ p2 (wpAny_bind (wpAny_pure ?_)))))
 show wpAny _ _ (match Builtin.Slice.sliceAdjust none none (-1) (n : Int) with | (lo, hi) => pure (lo, (-1 : Int), Builtin.Slice.slicePlaces lo hi (-1))) _ _ s
 rw [rev_adj n]
 show wpAny _ _ (pure ((n : Int) - 1, (-1 : Int), Builtin.Slice.slicePlaces ((n : Int) - 1) (-1) (-1))) _ _ s
 rw [rev_plc]
 exact wpAny_pure h
theorem get_rev {t sl : Addr} {its : Array Value} {v1 v2 v3 : Value} {Q : Value → Shared → Prop} (hT : IsTup s.heap t its) (hs : s.heap.IsSliceOf sl v1 v2 v3) (p1 : IsPart v1 none) (p2 : IsPart v2 none) (p3 : IsPart v3 (some (-1)))
  (h : Q (.ref s.heap.objs.size) { s with heap := s.heap.push { cls := .type "tuple", data := .seq its.toList.reverse.toArray } }) (hZ : its.size ≤ sizeLine) : wpAny (model prog w) A (getItem (.ref t) (.ref sl)) Q E s := by
 have hF : sizeOk (.seq its.toList.reverse.toArray) := by
  show its.toList.reverse.toArray.size ≤ sizeLine
  rw [List.size_toArray, List.length_reverse, Array.length_toList]
  exact hZ
 obtain ⟨oS, hoS, hcS, hdS⟩ := id hs
 have hK : s.TypeIs (.ref sl) "slice" := ⟨oS, hoS, hcS⟩
 unfold getItem
 (try with_reducible refine wpAny_holding ?_); (first | refine wpAny_bind (wpAny_pure ?_) | skip)
 refine wpAny_bind (wpAny_sequenceKey hT.typeIs (by decide) ?_)
 refine wpAny_bind (wpAny_callSpecial?_slot (name := Str.ofString "__getitem__") hT.typeIs PyProof.Rows.slot_tuple_getitem (wpAny_call_entry PyProof.Rows.slot_tuple_getitem hT.typeIs entry_tuple_getitem ?_ (args_tuple_getitem _ _)))
 (show wpAny _ _ (Builtin.Tuple.tupleItemsOf (.ref t) >>= _) _ _ s)
 refine wpAny_bind (tupleItemsOf_ hT ?_)
 refine wpAny_bind (wpAny_typeOf hK ?_)
 rw [if_pos (show _ by decide)]
 refine wpAny_bind (sl_rev hs p1 p2 p3 ?_)
 have hN : ¬ (((((its.size : Nat) : Int) - 1) == 0 && (-1 : Int) == 1 && its.size == its.size) = true) := by simp
 show wpAny _ _ (if (((((its.size : Nat) : Int) - 1) == 0 && (-1 : Int) == 1 && its.size == its.size)) = true then _ else _) _ _ s
 rw [if_neg hN, rev_pck]
 first
  | exact wpAny_bind (m := Builtin.Tuple.tupleExact _) (wpAny_newObj_type (wpAny_pure ⟨_, rfl, wpAny_pure h⟩) hF)
  | exact wpAny_bind (m := Builtin.Tuple.tupleExact _) (wpAny_newObj_type (wpAny_bind (wpAny_pure (wpAny_pure ⟨_, rfl, wpAny_pure h⟩))) hF)
  | exact wpAny_bind (wpAny_bind (m := Builtin.Tuple.tupleExact _) (wpAny_newObj_type (wpAny_pure (wpAny_pure ⟨_, rfl, wpAny_pure h⟩)) hF))
  | exact wpAny_bind (wpAny_bind (m := Builtin.Tuple.tupleExact _) (wpAny_newObj_type (wpAny_pure ⟨_, rfl, wpAny_pure h⟩) hF))
end
def tRevT (K : PySem.W.Frag) (te : TE) : TE := fun σ H Q => te σ H fun x H1 => ∃ a xs, x = .ref a ∧ SqT K H1 a xs ∧ ∀ p, H1 p = none → Q (.ref p) (upd H1 p (.tup xs.reverse))
theorem pe_revT {X : Cx} {e : Expr} {te : TE} {kk : Nat} {q1 q2 q3 pos : Pos} (he : PE X e te) : PE X (.Subscript e (.Slice none none (some (.UnaryOp .USub (.Constant (.int 1) kk q1) q2)) q3) pos) (tRevT X.K te) := by
 constructor
 intro pins s σ H Q I h
 refine Subscript_ (thn (he.run pins s σ H _ I h) fun v s1 hh => ?_)
 obtain ⟨x, H1, I1, r1, a, xs, ex, hx, hq⟩ := hh
 subst ex
 cases r1
 have hTurn : PO X (some (.UnaryOp .USub (.Constant (.int 1) kk q1) q2)) (tPart (tUn (rU fun i => .int (-i)) (tC (.int 1)))) := po_some (pe_un un_neg pe_int)
 refine wpAny_Slice (thn (po_none.run pins s1 σ H1 (fun o K2 => o = none ∧ K2 = H1) I1 ⟨rfl, rfl⟩) fun vl s2 hh => ?_)
 obtain ⟨l, K2, I2, pl, rfl, rfl⟩ := hh
 refine thn (po_none.run pins s2 σ K2 (fun o K3 => o = none ∧ K3 = K2) I2 ⟨rfl, rfl⟩) fun vu s3 hh => ?_
 obtain ⟨u, K3, I3, pu, rfl, rfl⟩ := hh
 refine thn (hTurn.run pins s3 σ K3 (fun o K4 => o = some (-1) ∧ K4 = K3) I3 ⟨1, rfl, -1, rfl, rfl, rfl⟩) fun vs sN hh => ?_
 obtain ⟨o, K4, I4, ps, rfl, rfl⟩ := hh
 have I5 : Inv X pins σ K4 { sN with heap := sN.heap.push { cls := .type "slice", data := .fields #[vl, vu, vs] } } := I4.kept (t' := sN.toks) fun b ob q => Heap.get?_push_of_some _ q
 obtain ⟨its, r, hT, hz⟩ := I5.tuple hx
 have hlen := r.length
 show wpAny (model X.prog X.w) X.A (subscriptTail e (.Slice none none (some (.UnaryOp .USub (.Constant (.int 1) kk q1) q2)) q3) (.ref a) (.ref sN.heap.objs.size)) (EP X pins σ Q) X.xe { sN with heap := sN.heap.push { cls := .type "slice", data := .fields #[vl, vu, vs] } }
 refine tail_any (ops := [.ref a, .ref sN.heap.objs.size]) hT.typeIs (PyProof.Rows.slot_tuple_getitem.lookup) ?_ (by with_unfolding_all rfl)
 refine get_rev hT (Heap.IsSliceOf.new _ vl vu vs) pl pu ps ?_ (by rw [List.size_toArray]; omega)
 refine ⟨.ref _, _, I5.laid (t' := sN.toks) (o := .tup xs.reverse) (fun b ob q => Heap.get?_push_of_some _ q) (Nat.le_refl _) ?_, rfl, hq _ (I5.hok.fresh (Nat.le_refl _))⟩
 exact ⟨by rw [List.length_reverse]; exact hz, _, r.reverse, IsTup.new _ _⟩
def fRevT (fo : P Rv) : P Rv := fo.bind fun ro => pk1 ro fun d => match d with
 | .tup ds => P.ret (.dat (.tup ds.reverse))
 | _ => P.fail
section
variable {K : PySem.W.Frag} {W : WX}
theorem iss_rev {C : Hp} : ∀ {ds : List D} {xs : List V}, Iss K C ds xs → Iss K C ds.reverse xs.reverse
 | [], xs, h => by rw [iss_nil_iff.mp h]; exact kc
 | d :: ds, xs, h => by
  obtain ⟨x, r, rfl, h1, h2⟩ := iss_cons_iff.mp h
  rw [List.reverse_cons, List.reverse_cons]
  exact (iss_rev h2).app (yb h1 kc)
theorem sd_revT {to : TE} {fo : P Rv} (ho : Sd K W (VRel K) to fo) : Sd K W (VRel K) (tRevT K to) (fRevT fo) := by
 intro σ C H ρ e
 show At K W (VRel K H) σ C H ρ (fun H Q => to σ H fun x H1 => ∃ a xs, x = .ref a ∧ SqT K H1 a xs ∧ ∀ p, H1 p = none → Q (.ref p) (upd H1 p (.tup xs.reverse))) (jd (fo ρ) fun ro => pk1 ro fun d => match d with
  | .tup ds => P.ret (.dat (.tup ds.reverse))
  | _ => P.fail)
 refine At.bind (tk := fun (x : V) (H1 : Hp) (Q : VK) => ∃ a xs, x = .ref a ∧ SqT K H1 a xs ∧ ∀ p, H1 p = none → Q (.ref p) (upd H1 p (.tup xs.reverse))) (ho σ C H ρ e) fun ro ρ1 x C1 H1 p1 r1 => ?_
 refine At.pk1 fun d q1 => ?_
 cases d with
 | tup ds =>
  obtain ⟨a, xs, ea, h3, h4⟩ := j4 p1.env.ext (kf p1.env r1 q1)
  exact At.giv p1.env p1.step.dom fun Q g => ⟨a, xs, ea, h3, fun p hp => g.tup p1.env.ext (iss_rev h4) hp⟩
 | _ => exact At.nil
end
section
variable {ι : Type} {X : ι → Cx} {P : Program} {w : World} {K : PySem.W.Frag} {mg : Str → Option Value} {base : Heap} {k : Nat} {W : WX} {N : List Str} {sc : Scope} {o : Expr} {fo : PL.P Rv} {j : Nat} {p1 p2 p3 pos : Pos}
theorem be_revT (B : CtxOk X P w K mg base k W N sc) (ho : BE X K W o fo) : BE X K W (.Subscript o (.Slice none none (some (.UnaryOp .USub (.Constant (.int 1) j p1) p2)) p3) pos) (fRevT fo) := by
 obtain ⟨to, po, so⟩ := ho
 exact ⟨_, fun i => by
  have := pe_revT (kk := j) (q1 := p1) (q2 := p2) (q3 := p3) (pos := pos) (po i)
  rw [B.pK i] at this
  exact this, sd_revT so⟩
end
section
variable {QR : Rv → En → Prop} {E : Exn → En → Prop} {ρ : En}
def isTp (d : D) (Q : List D → Prop) : Prop := match d with
 | .tup ds => Q ds
 | _ => False
theorem kao {ds : List D} {Q : List D → Prop} : isTp (.tup ds) Q ↔ Q ds := Iff.rfl
end
end PL
namespace PL
open PySem L2 PySem.Spec PyProof.Rows
end PL
namespace PL
open PySem L2 PySem.Spec PyProof.Rows
def rInT (K : PySem.W.Frag) (b : Bool) : R2 := fun x y H Q => ∃ d ds, Dp K H x d ∧ Dp K H y (.tuple ds) ∧ SeqAt.shaped d = true ∧ SeqAt.shaped (.tuple ds) = true ∧ Q (.bl (b ^^ ds.any fun z => PyData.eqv z d)) H
section
variable {X : Cx}
theorem op_notInT (hu : X.A.units + 65 < cLine) : OpR X (compareOp .NotIn) (rInT X.K true) := by
 intro pins s σ H x y v u Q I rx ry hh
 obtain ⟨d, ds, hd, he, sd, se, hq⟩ := hh
 rw [Bool.true_xor] at hq
 obtain ⟨as, g1⟩ := Dp.reads I d x v hd rx
 obtain ⟨bs, g2⟩ := Dp.reads I (.tuple ds) y u he ry
 exact SeqAt.notIn_tuple_reads g2 g1 (SeqAt.canLay_of_shaped se) (SeqAt.canLay_of_shaped sd) (room_in_shaped sd hu) ⟨.bl _, H, I, rfl, hq⟩
end
def inXB (x y : D) : Option Bool := match toPy x with
 | none => none
 | some a => match toPy y with
  | some (.list ds) => if (SeqAt.shaped a && SeqAt.shaped (.list ds)) = true then some (ds.any fun z => PyData.eqv z a) else none
  | some (.tuple ds) => if (SeqAt.shaped a && SeqAt.shaped (.tuple ds)) = true then some (ds.any fun z => PyData.eqv z a) else none
  | _ => none
def qag (x y : D) : Option Rv := match inXB x y with
 | some b => some (rvB (!b))
 | none => none
theorem inXB_some {x y : D} {b : Bool} (h : inXB x y = some b) : ∃ a ds, toPy x = some a ∧ SeqAt.shaped a = true ∧ b = (ds.any fun z => PyData.eqv z a) ∧ ((toPy y = some (.list ds) ∧ SeqAt.shaped (.list ds) = true) ∨ (toPy y = some (.tuple ds) ∧ SeqAt.shaped (.tuple ds) = true)) := by
 unfold inXB at h
 cases q1 : toPy x with
 | none => rw [q1] at h; cases h
 | some a =>
  rw [q1] at h
  dsimp only at h
  split at h
  ·rename_i ds q2
   obtain ⟨h1, rfl⟩ := yc h
   obtain ⟨h2, h3⟩ := Bool.and_eq_true_iff.mp h1
   exact ⟨a, ds, rfl, h2, rfl, .inl ⟨q2, h3⟩⟩
  ·rename_i ds q2
   obtain ⟨h1, rfl⟩ := yc h
   obtain ⟨h2, h3⟩ := Bool.and_eq_true_iff.mp h1
   exact ⟨a, ds, rfl, h2, rfl, .inr ⟨q2, h3⟩⟩
  ·cases h
section
variable {K : PySem.W.Frag}
theorem ok_notInXD : R2Ok K (fun x y H Q => L2.rNotInD K x y H Q ∨ rInT K true x y H Q) qag := by
 intro C H e dx dy x y rv Q h hx hy g
 unfold qag at h
 cases q : inXB dx dy with
 | none => rw [q] at h; cases h
 | some b =>
  rw [q] at h; cases h
  obtain ⟨a, ds, h1, h2, rfl, ⟨h3, h4⟩ | ⟨h3, h4⟩⟩ := inXB_some q
  ·exact .inl ⟨a, ds, xax e h1 hx, xax e h3 hy, h2, h4, g.d e⟩
  ·exact .inr ⟨a, ds, xax e h1 hx, xax e h3 hy, h2, h4, by rw [Bool.true_xor]; exact g.d e⟩
end
section
variable {ι : Type} {X : ι → Cx} {P : Program} {w : World} {K : PySem.W.Frag} {mg : Str → Option Value} {base : Heap} {k : Nat} {W : WX} {N : List Str} {sc : Scope}
theorem jbd (B : CtxOk X P w K mg base k W N sc) : COp X K .NotIn qag := .mk _ _ (fun i => by
 have hu : (X i).A.units + 65 < cLine := by have := B.u64 i; omega
 have := (L2.op_notInD (X := X i) hu).or (op_notInT (X := X i) hu)
 rw [B.pK i] at this
 exact this) ok_notInXD
end
end PL
namespace PL.SX
open PySem PySem.Calls PyProof.Rows PySem.Spec L2
def keyS (e : Int × Value) : Str := match e.2 with | .str k _ => k | _ => Str.empty
section
variable (P : Program) (w : World)
def GoodS (e : Int × Value) : Prop := ∃ k tk, e.2 = Value.str k tk ∧ e.1 = (PySem.strKind P w).hash k
def SetS (h : Heap) (a : Addr) (xs : List Str) : Prop :=
 ∃ o es ep t, h.get? a = some o ∧ o.ExactSet ∧ o.data = .set es ep t ∧ (∀ e ∈ es.toList, GoodS P w e) ∧ (es.toList.map keyS).Nodup ∧ (∀ k, k ∈ xs ↔ k ∈ es.toList.map keyS) ∧
  es.size < scanBound ∧ t.fits es.size = true ∧ Ris t.place.toList ∧ (w.params.followText "set-order" = true ∨ t.led = true)
end
section
variable {P : Program} {w : World} {h h' : Heap} {a : Addr} {xs : List Str}
theorem SetS.at (R : SetS P w h a xs) (k : ∀ o, h.get? a = some o → h'.get? a = some o) : SetS P w h' a xs := by
 obtain ⟨o, es, ep, t, ho, r⟩ := R
 exact ⟨o, es, ep, t, k o ho, r⟩
end
theorem nodup_len {α : Type} [DecidableEq α] {l xs : List α} (h : l.Nodup) (m : ∀ x ∈ l, x ∈ xs) : l.length ≤ xs.length := by
 induction l generalizing xs with
 | nil => exact Nat.zero_le _
 | cons x l ih =>
  obtain ⟨h1, h2⟩ := List.nodup_cons.mp h
  have hx := m x List.mem_cons_self
  have := ih (xs := xs.erase x) h2 fun y hy => (List.mem_erase_of_ne (fun e : y = x => h1 (by rw [← e]; exact hy))).mpr (m y (List.mem_cons_of_mem _ hy))
  have h3 := List.length_erase_of_mem hx
  have h4 : 0 < xs.length := List.length_pos_of_mem hx
  rw [List.length_cons]
  omega
end PL.SX
namespace LW
open PySem L2 PL
structure Wx where
 name : Str
 letter : Option Str
 kind : Option Kd
 may : Bool
 many : Bool
 must : Bool
structure Tb where
 ws : List Wx
 ps : List Pl
 bs : List (Str × Str)
 ds : List (Str × Str)
def wh (ws : List Wx) : List Str := ws.map (·.name)
def nmW (ws : List Wx) (i : Nat) : Str := (wh ws).getD i "a"
def single : List Nat → Option Nat
 | [k] => some k
 | _ => none
def byPre (nms : List Str) (n : Str) : List Nat := (List.range nms.length).filter fun k => Txt.startswith (nms.getD k "a") n
def byName (nms : List Str) (n : Str) : Option Nat := if n ∈ nms then nms.findIdx? (fun z => z == n) else if n = "" then none else single (byPre nms n)
def byLetter (ls : List (Option Str)) (z : Str) : Option Nat := ls.findIdx? (fun o => o == some z)
def finV (ws : List Wx) (i : Nat) (v : Str) : Option (Nat × Str) := if v = "" then some (i, "") else match ws[i]? with
 | some w => (match w.kind with
  | some k => if k.holds v = true then some (i, v) else none
  | none => none)
 | none => none
def tellOf (ws : List Wx) (w : Str) : Option (Nat × Str) :=
 if Txt.startswith w "--" = true then
  (if (Txt.partition (cutS w (some 2) none) "=").2.1 ≠ "" ∧ (Txt.partition (cutS w (some 2) none) "=").2.2 = "" then none
   else match byName (wh ws) (Txt.partition (cutS w (some 2) none) "=").1 with
    | some i => finV ws i (Txt.partition (cutS w (some 2) none) "=").2.2
    | none => none)
 else match byLetter (ws.map (·.letter)) (cutS w (some 1) (some 2)) with
  | some i => finV ws i (cutS w (some 2) none)
  | none => none
abbrev Told := List (Nat × Str)
def bareW (w : Str) : Bool := !Txt.startswith w "-"
def mayV (one : Wx) (v : Str) : Bool := (!(v == "") || one.kind.isNone) || one.may
def nextV (one : Wx) (v : Str) (u : Str) : Bool := (v == "") && (bareW u && (match one.kind with
 | some k => k.holds u
 | none => false))
def parts (ws : List Wx) : List Str → List (Told × List Str)
 | [] => [([], [])]
 | w :: r => if w = "--" then [([], r)] else if bareW w = true then (parts ws r).map fun p => (p.1, w :: p.2)
  else match tellOf ws w with
   | none => []
   | some (i, v) => match ws[i]? with
    | none => []
    | some one => (if mayV one v = true then (parts ws r).map fun p => ((i, v) :: p.1, p.2) else []) ++
     (match r with
      | [] => []
      | u :: r' => if nextV one v u = true then (parts ws r').map fun p => ((i, u) :: p.1, p.2) else [])
def namesT (ws : List Wx) (t : Told) : List Str := t.map fun p => nmW ws p.1
def badN (nms : List Str) (w : Wx) : Bool := (decide (1 < nms.count w.name) && !w.many) || (w.must && !inW w.name nms)
def keptN (tb : Tb) (nms : List Str) : Bool := (!(tb.ws.any (badN nms)) && !(tb.bs.any fun p => inW p.1 nms && inW p.2 nms)) && (tb.ds.all fun p => !inW p.1 nms || inW p.2 nms)
def valsT (t : Told) (k : Nat) : List Str := (t.filter fun p => p.1 == k).map (·.2)
def tldL (ws : List Wx) (t : Told) (n : Nat) : List D := ((List.range n).filter fun k => !(valsT t k).isEmpty).map fun k => .tup [zs (nmW ws k), .tup ((valsT t k).map zs)]
def pick (l : List Str) (way : List Int) (j : Nat) : List Str := ((l.zip way).filter fun p => p.2 == (j : Int)).map (·.1)
def nmP (ps : List Pl) (i : Nat) : Str := (ps.map (·.name)).getD i "a"
def lidL (ps : List Pl) (l : List Str) (way : List Int) (n : Nat) : List D := ((List.range n).filter fun k => !(pick l way k).isEmpty).map fun k => .tup [zs (nmP ps k), .tup ((pick l way k).map zs)]
def reading (tb : Tb) (t : Told) (l : List Str) (way : List Int) : D := .tup [.tup (tldL tb.ws t tb.ws.length), .tup (lidL tb.ps l way tb.ps.length)]
def readsOf (tb : Tb) (p : Told × List Str) : List D := if keptN tb (namesT tb.ws p.1) = true then (jac tb.ps p.2).map (reading tb p.1 p.2) else []
def readsU (tb : Tb) (row : List Str) : List D := (parts tb.ws row).flatMap (readsOf tb)
def reads (tb : Tb) (row : List Str) : List D := (readsU tb row).mergeSort dle
theorem okS_sub {z : Str} {a b : Nat} (h : okS z) : okS (Builtin.Str.strSub z a b) := okS_iff.mpr fun c m => okS_iff.mp h c (by
 unfold Builtin.Str.strSub at m
 rw [Array.toList_extract] at m
 exact List.mem_of_mem_drop (List.mem_of_mem_take m))
end LW
namespace LW
open PySem L2 PL
def NvD (d : D) : Prop := ∃ (z : Str) (vs : List Str), okS z ∧ (∀ v ∈ vs, okS v) ∧ d = .tup [zs z, .tup (vs.map zs)]
def RdD (d : D) : Prop := ∃ as bs : List D, (∀ a ∈ as, NvD a) ∧ (∀ b ∈ bs, NvD b) ∧ d = .tup [.tup as, .tup bs]
theorem zs_sh {vs : List Str} (h : ∀ v ∈ vs, okS v) : ∀ d ∈ vs.map zs, Sh 0 d := fun d m => by
 obtain ⟨v, hv, rfl⟩ := List.mem_map.mp m
 exact Sh.str (h v hv)
theorem NvD.in_sh {d : D} (h : NvD d) : ∃ xs, d = .tup xs ∧ ∀ x ∈ xs, Sh 1 x := by
 obtain ⟨z, vs, h1, h2, rfl⟩ := h
 refine ⟨_, rfl, fun x m => ?_⟩
 simp only [List.mem_cons, List.not_mem_nil, or_false] at m
 rcases m with rfl | rfl
 ·exact (Sh.str h1).mono (by decide)
 ·exact Sh.tup (zs_sh h2) (by decide)
theorem NvD.sh {d : D} (h : NvD d) : Sh 2 d := by
 obtain ⟨xs, rfl, hx⟩ := h.in_sh
 exact Sh.tup hx (by decide)
theorem RdD.in_sh {d : D} (h : RdD d) : ∃ xs, d = .tup xs ∧ ∀ x ∈ xs, Sh 3 x := by
 obtain ⟨as, bs, h1, h2, rfl⟩ := h
 refine ⟨_, rfl, fun x m => ?_⟩
 simp only [List.mem_cons, List.not_mem_nil, or_false] at m
 rcases m with rfl | rfl
 ·exact Sh.tup (fun a m => (h1 a m).sh) (by decide)
 ·exact Sh.tup (fun a m => (h2 a m).sh) (by decide)
theorem RdD.sh {d : D} (h : RdD d) : Sh 4 d := by
 obtain ⟨xs, rfl, hx⟩ := h.in_sh
 exact Sh.tup hx (by decide)
theorem py_strs {vs : List Str} (h : ∀ v ∈ vs, okS v) : py (.tup (vs.map zs)) = .tuple (vs.map .str) := by
 rw [x3 fun d m => (zs_sh h d m).s, List.map_map]
 rfl
theorem NvD.py {z : Str} {vs : List Str} (h1 : okS z) (h2 : ∀ v ∈ vs, okS v) : PL.py (.tup [zs z, .tup (vs.map zs)]) = .tuple [.str z, .tuple (vs.map .str)] := by
 obtain ⟨xs, e, hx⟩ := NvD.in_sh ⟨z, vs, h1, h2, rfl⟩
 rw [x3 fun d m => (by cases e; exact (hx d m).s), List.map_cons, List.map_cons, List.map_nil, py_strs h2]
 rfl
theorem RdD.py {as bs : List D} (h1 : ∀ a ∈ as, NvD a) (h2 : ∀ b ∈ bs, NvD b) : PL.py (.tup [.tup as, .tup bs]) = .tuple [.tuple (as.map PL.py), .tuple (bs.map PL.py)] := by
 obtain ⟨xs, e, hx⟩ := RdD.in_sh ⟨as, bs, h1, h2, rfl⟩
 rw [x3 fun d m => (by cases e; exact (hx d m).s), List.map_cons, List.map_cons, List.map_nil, x3 fun d m => ((h1 d m).sh).s, x3 fun d m => ((h2 d m).sh).s]
open PySem.W (alike alikeAll)
theorem wah : ∀ xs ys : List Str, alikeAll (xs.map PyData.str) (ys.map PyData.str) = true
 | [], _ => by simp [alikeAll]
 | _ :: _, [] => by simp [alikeAll]
 | x :: xs, y :: ys => by
  rw [List.map_cons, List.map_cons, alikeAll, wah xs ys]
  simp [alike]
theorem NvD.alike {a b : D} (ha : NvD a) (hb : NvD b) : PySem.W.alike (PL.py a) (PL.py b) = true := by
 obtain ⟨z, vs, h1, h2, rfl⟩ := ha
 obtain ⟨y, us, h3, h4, rfl⟩ := hb
 rw [NvD.py h1 h2, NvD.py h3 h4]
 simp [PySem.W.alike, alikeAll, wah]
theorem z7 : ∀ (as bs : List D), (∀ a ∈ as, NvD a) → (∀ b ∈ bs, NvD b) → alikeAll (as.map PL.py) (bs.map PL.py) = true
 | [], _, _, _ => by simp [alikeAll]
 | _ :: _, [], _, _ => by simp [alikeAll]
 | a :: as, b :: bs, h1, h2 => by
  rw [List.map_cons, List.map_cons, alikeAll, z7 as bs (fun x m => h1 x (List.mem_cons_of_mem _ m)) (fun x m => h2 x (List.mem_cons_of_mem _ m)), (h1 a List.mem_cons_self).alike (h2 b List.mem_cons_self)]
  rfl
theorem RdD.alike {a b : D} (ha : RdD a) (hb : RdD b) : PySem.W.alike (PL.py a) (PL.py b) = true := by
 obtain ⟨as, bs, h1, h2, rfl⟩ := ha
 obtain ⟨cs, ds, h3, h4, rfl⟩ := hb
 rw [RdD.py h1 h2, RdD.py h3 h4]
 simp [PySem.W.alike, alikeAll, z7 _ _ h1 h3, z7 _ _ h2 h4]
theorem y7 : ∀ xs ys : List Str, PyData.eqvAll (xs.map PyData.str) (ys.map PyData.str) = true → xs = ys
 | [], [], _ => rfl
 | [], _ :: _, h => by simp [PyData.eqvAll] at h
 | _ :: _, [], h => by simp [PyData.eqvAll] at h
 | x :: xs, y :: ys, h => by
  rw [List.map_cons, List.map_cons, PySem.W.eqv_all_cons, Bool.and_eq_true] at h
  rw [y7 xs ys h.2, show x = y from by simpa [PyData.eqv] using h.1]
theorem NvD.eqv {a b : D} (ha : NvD a) (hb : NvD b) (h : PyData.eqv (PL.py a) (PL.py b) = true) : a = b := by
 obtain ⟨z, vs, h1, h2, rfl⟩ := ha
 obtain ⟨y, us, h3, h4, rfl⟩ := hb
 rw [NvD.py h1 h2, NvD.py h3 h4, jj, PySem.W.eqv_all_cons, PySem.W.eqv_all_cons, Bool.and_eq_true, Bool.and_eq_true, jj] at h
 rw [y7 vs us h.2.1, show z = y from by simpa [PyData.eqv] using h.1]
theorem vas : ∀ (as bs : List D), (∀ a ∈ as, NvD a) → (∀ b ∈ bs, NvD b) → PyData.eqvAll (as.map PL.py) (bs.map PL.py) = true → as = bs
 | [], [], _, _, _ => rfl
 | [], _ :: _, _, _, h => by simp [PyData.eqvAll] at h
 | _ :: _, [], _, _, h => by simp [PyData.eqvAll] at h
 | a :: as, b :: bs, h1, h2, h => by
  rw [List.map_cons, List.map_cons, PySem.W.eqv_all_cons, Bool.and_eq_true] at h
  rw [vas as bs (fun x m => h1 x (List.mem_cons_of_mem _ m)) (fun x m => h2 x (List.mem_cons_of_mem _ m)) h.2, (h1 a List.mem_cons_self).eqv (h2 b List.mem_cons_self) h.1]
theorem RdD.eqv {a b : D} (ha : RdD a) (hb : RdD b) (h : PyData.eqv (PL.py a) (PL.py b) = true) : a = b := by
 obtain ⟨as, bs, h1, h2, rfl⟩ := ha
 obtain ⟨cs, ds, h3, h4, rfl⟩ := hb
 rw [RdD.py h1 h2, RdD.py h3 h4, jj, PySem.W.eqv_all_cons, PySem.W.eqv_all_cons, Bool.and_eq_true, Bool.and_eq_true, jj, jj] at h
 rw [vas _ _ h1 h3 h.1, vas _ _ h2 h4 h.2.1]
theorem jam {x y : PyData} (ha : PySem.W.alike x y = true) (h : PySem.W.keyToks x = PySem.W.keyToks y) : PyData.eqv x y = true := by
 cases q : PyData.eqv x y with
 | true => rfl
 | false =>
  have h2 := (PySem.W.toks_eqv x y ha).2 q [] [.inl 0]
  rw [h, PySem.W.lex_pre, PyProof.Rows.lex_irrefl] at h2
  exact absurd h2 (by decide)
theorem qaj (a b : D) : dle a b = !(PyProof.Rows.lexLt PyProof.Rows.itemOrd (PySem.W.keyToks (PL.py b)) (PySem.W.keyToks (PL.py a))) := rfl
theorem va0 {a b c : D} (h1 : dle a b = true) (h2 : dle b c = true) : dle a c = true := by
 rw [qaj, Bool.not_eq_true'] at h1 h2 ⊢
 cases q : PyProof.Rows.lexLt PyProof.Rows.itemOrd (PySem.W.keyToks (PL.py c)) (PySem.W.keyToks (PL.py a)) with
 | false => rfl
 | true =>
  rcases PyProof.Rows.lex_negTrans _ (PySem.W.keyToks (PL.py b)) _ q with z | z
  ·rw [h2] at z; cases z
  ·rw [h1] at z; cases z
theorem w7 (a b : D) : (dle a b || dle b a) = true := by
 rw [qaj, qaj]
 cases q : PyProof.Rows.lexLt PyProof.Rows.itemOrd (PySem.W.keyToks (PL.py b)) (PySem.W.keyToks (PL.py a)) with
 | false => rfl
 | true =>
  cases q2 : PyProof.Rows.lexLt PyProof.Rows.itemOrd (PySem.W.keyToks (PL.py a)) (PySem.W.keyToks (PL.py b)) with
  | false => rfl
  | true =>
   have := PyProof.Rows.lex_trans _ _ _ q q2
   rw [PyProof.Rows.lex_irrefl] at this
   cases this
theorem RdD.anti {a b : D} (ha : RdD a) (hb : RdD b) (h1 : dle a b = true) (h2 : dle b a = true) : a = b := by
 rw [qaj, Bool.not_eq_true'] at h1 h2
 exact ha.eqv hb (jam (ha.alike hb) (PyProof.Rows.lex_total _ _ h2 h1))
end LW
namespace PL.TN
open PySem PySem.Calls PyProof.Rows PySem.Spec L2
section
variable {P : Program} {w : World}
def Cls0 (P : Program) (w : World) (n : Nat) (s : Shared) (v : Value) : Prop := ∀ (A : Around) (E : Value → Shared → Prop) (Q : Bool → Shared → Prop), Q false s → wpAny (model P w) A (ofAClassStatement n v) Q E s
def HashB (P : Program) (w : World) (n : Nat) (s : Shared) (v : Value) : Prop := ∀ (A : Around) (E : Value → Shared → Prop) (Q : Bool → Shared → Prop), (∀ b, Q b s) → wpAny (model P w) A (hashByValue n v) Q E s
theorem cls0_tup {n m : Nat} {s : Shared} {a : Addr} {o : Obj} {vs : Array Value} (g : s.heap.get? a = some o) (c : o.cls = .type "tuple") (d : o.data = .seq vs m) (each : ∀ v ∈ vs.toList, Cls0 P w n s v) : Cls0 P w (n + 1) s (.ref a) := fun A E Q q => by
 have ty : s.TypeIs (.ref a) "tuple" := ⟨o, g, c⟩
 unfold ofAClassStatement
 refine wpAny_bind (wpAny_typeOf ty ?_)
 dsimp only
 have te : (("tuple" : String) == "tuple") = true := by decide
 simp only [te, if_true, Bool.not_true, Bool.false_eq_true, if_false]
 try refine wpAny_bind (wpAny_pure ?_)
 try simp only [Bool.not_true, Bool.false_eq_true, if_false]
 show wpAny _ _ (seqItems? (.ref a) >>= _) _ _ s
 refine wpAny_bind (wpAny_seqItems g d ?_)
 dsimp only
 refine wpAny_bind ?_
 show wpAny _ _ (forIn vs _ _) _ _ s
 rw [← Array.forIn_toList]
 refine wpAny_forIn_list _ (fun l r s' => (r.1 = none ∧ s' = s) ∧ ∀ v ∈ l, Cls0 P w n s v) _ ?_ ?_ _ _ ⟨⟨rfl, rfl⟩, each⟩
 ·rintro v l r s' ⟨⟨e1, rfl⟩, al⟩
  refine wpAny_bind (al v List.mem_cons_self _ _ _ ?_)
  simp only [Bool.false_eq_true, if_false]
  exact wpAny_pure ⟨⟨rfl, rfl⟩, fun u hu => al u (List.mem_cons_of_mem _ hu)⟩
 ·rintro ⟨r1, r2⟩ s' ⟨⟨e1, rfl⟩, _⟩
  simp only at e1
  subst e1
  exact wpAny_pure q
mutual
theorem qbd : ∀ (k : NestedKey) (v : Value) (n : Nat) (s : Shared), NestedIs s.heap k v → k.depth ≤ n → Cls0 P w n s v
 | .none, _, n, s, x, _ => by
  cases x
  intro A E Q q
  have e : ofAClassStatement n .none = pure false := by cases n <;> rfl
  rw [e]
  exact wpAny_pure q
 | .num i, _, n, s, x, _ => by
  intro A E Q q
  cases x with
  | bool =>
   have e : ∀ b, ofAClassStatement n (.bool b) = pure false := fun b => by cases n <;> rfl
   rw [e]
   exact wpAny_pure q
  | int _ t =>
   have e : ofAClassStatement n (.int i t) = pure false := by cases n <;> rfl
   rw [e]
   exact wpAny_pure q
 | .text z, _, n, s, x, _ => by
  intro A E Q q
  cases x with
  | text _ t =>
   have e : ofAClassStatement n (.str z t) = pure false := by cases n <;> rfl
   rw [e]
   exact wpAny_pure q
 | .tup ks, _, n, s, x, d => by
  cases x with
  | tup g c b al =>
   simp only [NestedKey.depth] at d
   cases n with
   | zero => omega
   | succ n => exact cls0_tup g c b (zbj ks _ n s al (by omega))
theorem zbj : ∀ (ks : List NestedKey) (vs : List Value) (n : Nat) (s : Shared), NestedAll s.heap ks vs → NestedKey.depthAll ks ≤ n → ∀ v ∈ vs, Cls0 P w n s v
 | [], _, n, s, x, _, v, m => by cases x; cases m
 | k :: ks, _, n, s, x, d, v, m => by
  cases x with
  | cons x1 x2 =>
   simp only [NestedKey.depthAll] at d
   rcases List.mem_cons.mp m with e | m
   ·subst e; exact qbd k _ n s x1 (by omega)
   ·exact zbj ks _ n s x2 (by omega) v m
end
theorem hashB_tup {n m : Nat} {s : Shared} {a : Addr} {o : Obj} {vs : Array Value} (g : s.heap.get? a = some o) (c : o.cls = .type "tuple") (d : o.data = .seq vs m) (each : ∀ v ∈ vs.toList, HashB P w n s v) : HashB P w (n + 1) s (.ref a) := fun A E Q q => by
 have ty : s.TypeIs (.ref a) "tuple" := ⟨o, g, c⟩
 unfold hashByValue
 refine wpAny_bind (wpAny_specialOf ty F.slot_tuple_hash.lookup ?_)
 show wpAny _ _ (seqItems? (.ref a) >>= _) _ _ s
 refine wpAny_bind (wpAny_seqItems g d ?_)
 refine wpAny_bind ?_
 show wpAny _ _ (forIn vs _ _) _ _ s
 rw [← Array.forIn_toList]
 refine wpAny_forIn_list _ (fun l r s' => (r.1 = none ∧ s' = s) ∧ ∀ v ∈ l, HashB P w n s v) _ ?_ ?_ _ _ ⟨⟨rfl, rfl⟩, each⟩
 ·rintro v l r s' ⟨⟨e1, rfl⟩, al⟩
  refine wpAny_bind (al v List.mem_cons_self _ _ _ fun b => ?_)
  cases b with
  | true =>
   simp only [Bool.not_true, Bool.false_eq_true, if_false]
   exact wpAny_pure ⟨⟨rfl, rfl⟩, fun u hu => al u (List.mem_cons_of_mem _ hu)⟩
  | false =>
   simp only [Bool.not_false, if_true]
   exact wpAny_pure (wpAny_pure (q false))
 ·rintro ⟨r1, r2⟩ s' ⟨⟨e1, rfl⟩, _⟩
  simp only at e1
  subst e1
  exact wpAny_pure (q true)
mutual
theorem zat : ∀ (k : NestedKey) (v : Value) (n : Nat) (s : Shared), NestedIs s.heap k v → HashB P w n s v
 | .none, _, n, s, x => by
  cases x
  intro A E Q q
  have e : hashByValue n .none = pure true := by cases n <;> rfl
  rw [e]
  exact wpAny_pure (q true)
 | .num i, _, n, s, x => by
  intro A E Q q
  cases x with
  | bool =>
   have e : ∀ b, hashByValue n (.bool b) = pure true := fun b => by cases n <;> rfl
   rw [e]
   exact wpAny_pure (q true)
  | int _ t =>
   have e : hashByValue n (.int i t) = pure true := by cases n <;> rfl
   rw [e]
   exact wpAny_pure (q true)
 | .text z, _, n, s, x => by
  intro A E Q q
  cases x with
  | text _ t =>
   have e : hashByValue n (.str z t) = pure false := by cases n <;> rfl
   rw [e]
   exact wpAny_pure (q false)
 | .tup ks, _, n, s, x => by
  cases x with
  | tup g c b al =>
   cases n with
   | zero => intro A E Q q; exact wpAny_pure (q false)
   | succ n => exact hashB_tup g c b (yaz ks _ n s al)
theorem yaz : ∀ (ks : List NestedKey) (vs : List Value) (n : Nat) (s : Shared), NestedAll s.heap ks vs → ∀ v ∈ vs, HashB P w n s v
 | [], _, n, s, x, v, m => by cases x; cases m
 | k :: ks, _, n, s, x, v, m => by
  cases x with
  | cons x1 x2 =>
   rcases List.mem_cons.mp m with e | m
   ·subst e; exact zat k _ n s x1
   ·exact yaz ks _ n s x2 v m
end
end
def IsN (h : Heap) (k : NestedKey) (a : Addr) : Prop := NestedIs h k (.ref a) ∧ k.depth ≤ 8
theorem IsN.keep {h h' : Heap} {k : NestedKey} {a : Addr} (x : IsN h k a) (up : ∀ b o, h.get? b = some o → h'.get? b = some o) : IsN h' k a := ⟨NestedIs.at (fun b o _ _ e _ => up b o e) k _ x.1, x.2⟩
theorem IsN.same {h h' : Heap} {k : NestedKey} {a b : Addr} {o : Obj} {es : Array (Int × Value)} {ep : Nat} {t : SetTable} (x : IsN h k b) (g : h.get? a = some o) (d : o.data = .set es ep t) (sb : Heap.SameBut a h h') : IsN h' k b :=
 ⟨NestedIs.at (fun c u _ _ e z => by
  refine (sb.2 c fun q => ?_).trans e
  subst q
  rw [g] at e
  cases e
  rw [d] at z
  cases z) k _ x.1, x.2⟩
abbrev LK := List (Addr × NestedKey)
def hsN (w : World) (L : LK) : List Int := L.map fun p => p.2.hash w
def rowsN (w : World) (L : LK) : List (Int × Value) := L.map fun p => (p.2.hash w, Value.ref p.1)
theorem hsN_get {w : World} {L : LK} {i : Nat} {p : Addr × NestedKey} (e : L[i]? = some p) : (hsN w L)[i]? = some (p.2.hash w) := by
 unfold hsN; rw [List.getElem?_map, e]; rfl
theorem xag {w : World} {L : LK} : (hsN w L).length = L.length := by unfold hsN; rw [List.length_map]
structure SetN (w : World) (h : Heap) (a : Addr) (L : LK) (es : Array (Int × Value)) (ep : Nat) (t : SetTable) : Prop where
 ob : ∃ o, h.get? a = some o ∧ o.ExactSet ∧ o.data = .set es ep t
 rw : es.toList = rowsN w L
 tb : TabOk t (hsN w L)
 nd : (L.map (·.2)).Nodup
 is : ∀ p ∈ L, IsN h p.2 p.1
 led : w.params.followText "set-order" = true ∨ t.led = true
 rm : L.length * 5 < t.mask * 3
 fw : L.length < 64
section
variable {P : Program} {w : World} {A : Around} {E : Value → Shared → Prop} {s : Shared} {a : Addr} {L : LK} {es : Array (Int × Value)} {ep : Nat} {t : SetTable}
theorem rowsN_size (e : es.toList = rowsN w L) : es.size = L.length := by
 have q := congrArg List.length e
 unfold rowsN at q
 rwa [Array.length_toList, List.length_map] at q
theorem fitsN (T : TabOk t (hsN w L)) (e : es.size = L.length) (m : L.length ≤ t.mask) : t.fits es.size = true := by
 have q := T.sz
 rw [xag] at q
 unfold SetTable.fits SetTable.fill
 rw [T.dm, Bool.and_eq_true, beq_iff_eq, decide_eq_true_eq]
 refine ⟨by omega, ?_⟩
 show t.place.size + 0 ≤ t.mask
 omega
theorem SetN.fits (R : SetN w s.heap a L es ep t) : t.fits es.size = true := fitsN R.tb (rowsN_size R.rw) (by have := R.rm; omega)
theorem SetN.row (R : SetN w s.heap a L es ep t) {i : Nat} {p : Addr × NestedKey} (e : L[i]? = some p) : es[i]? = some (p.2.hash w, Value.ref p.1) := by
 rw [← Array.getElem?_toList, R.rw]
 unfold rowsN
 rw [List.getElem?_map, e]; rfl
theorem SetN.gw (R : SetN w s.heap a L es ep t) : ¬ t.gaveWay = true := by
 unfold SetTable.gaveWay
 rw [mask_odd R.tb.mok]
 decide
theorem seenN {k : NestedKey} {b : Addr} {Q : Bool → Shared → Prop} (x : IsN s.heap k b) {ys : List Value} (al : ∀ y ∈ ys, ∃ k' c, y = Value.ref c ∧ IsN s.heap k' c) (q : Q false s) :
  wpAny (model P w) A (searchCouldBeSeen (.ref b) ys) Q E s := by
 unfold searchCouldBeSeen
 refine wpAny_bind ?_
 refine wpAny_forIn_list _ (fun l r s' => (r.1 = none ∧ s' = s) ∧ ∀ y ∈ l, ∃ k' c, y = Value.ref c ∧ IsN s.heap k' c) _ ?_ ?_ _ _ ⟨⟨rfl, rfl⟩, al⟩
 ·rintro v l r s' ⟨⟨e1, rfl⟩, al⟩
  obtain ⟨k', c, rfl, y⟩ := al v List.mem_cons_self
  have al' := fun u hu => al u (List.mem_cons_of_mem _ hu)
  dsimp only
  by_cases hv : (b == c || (carriedByValue (.ref b) && carriedByValue (.ref c))) = true
  ·refine wp_if_pos hv ?_
   exact wpAny_pure ⟨⟨rfl, rfl⟩, al'⟩
  ·refine wp_if_neg hv (wpAny_bind ((nestedKind P w).quiet x ?_))
   simp only [Bool.not_true, Bool.false_eq_true, if_false]
   refine wpAny_bind ((nestedKind P w).quiet y ?_)
   simp only [Bool.not_true, Bool.false_eq_true, if_false]
   refine wpAny_bind (qbd _ _ 8 _ x.1 x.2 _ _ _ ?_)
   simp only [Bool.false_eq_true, if_false]
   refine wpAny_bind (qbd _ _ 8 _ y.1 y.2 _ _ _ ?_)
   simp only [Bool.false_eq_true, if_false]
   exact wpAny_pure ⟨⟨rfl, rfl⟩, al'⟩
 ·rintro ⟨r1, r2⟩ s' ⟨⟨e1, rfl⟩, _⟩
  simp only at e1
  subst e1
  exact wpAny_pure q
abbrev kbf (m : Nat) (h : Int) (c : Nat) : SetTable.Probe := nth m (runAt m (SetTable.bits h % (m + 1)) (SetTable.bits h)) c
theorem zbl (m : Nat) (h : Int) (c : Nat) : (kbf m h c).dummy = none := by
 have key : ∀ (n : Nat) (p : SetTable.Probe), p.dummy = none → (nth m p n).dummy = none := by
  intro n
  induction n with
  | zero => intro p q; exact q
  | succ n ih =>
   intro p q
   refine ih (adv m p) ?_
   unfold adv
   split <;> exact q
 exact key c _ rfl
theorem ordN (L : LK) (es : Array (Int × Value)) (order : Array Nat) (hr : es.toList = rowsN w L) (hp : order.toList.Perm (List.range L.length)) :
  ∃ L2 : LK, (order.filterMap (es[·]?)).toList = rowsN w L2 ∧ L2.Perm L ∧ hsN w L2 = order.toList.map fun i => (es.map (·.1)).getD i 0 := by
 have hsz := rowsN_size hr
 have ent : ∀ i (h : i < L.length), es[i]? = some ((L[i]).2.hash w, Value.ref (L[i]).1) := fun i h => by
  rw [← Array.getElem?_toList, hr]
  unfold rowsN
  rw [List.getElem?_map, List.getElem?_eq_getElem h]; rfl
 have key : ∀ l : List Nat, (∀ i ∈ l, i < L.length) → ∃ L2 : LK, (l.filterMap (fun i => es[i]?) = rowsN w L2 ∧ L2 = l.filterMap (fun i => L[i]?)) ∧ hsN w L2 = l.map fun i => (es.map (·.1)).getD i 0 := by
  intro l
  induction l with
  | nil => intro _; exact ⟨[], ⟨rfl, rfl⟩, rfl⟩
  | cons i l ih =>
   intro hl
   have hi := hl i List.mem_cons_self
   obtain ⟨L2, ⟨e1, e2⟩, e3⟩ := ih fun j hj => hl j (List.mem_cons_of_mem _ hj)
   refine ⟨L[i] :: L2, ⟨?_, ?_⟩, ?_⟩
   ·rw [List.filterMap_cons_some (ent i hi), e1]; rfl
   ·rw [List.filterMap_cons_some (List.getElem?_eq_getElem hi), e2]
   ·have e5 : (es.map (·.1))[i]? = some ((L[i]).2.hash w) := by rw [Array.getElem?_map, ent i hi]; rfl
    have e4 : (es.map (·.1)).getD i 0 = (L[i]).2.hash w := by simp [Array.getD_eq_getD_getElem?, e5]
    rw [List.map_cons, e4, ← e3]; rfl
 obtain ⟨L2, ⟨e1, e2⟩, e3⟩ := key order.toList fun i hi => List.mem_range.mp (hp.mem_iff.mp hi)
 refine ⟨L2, by first | (rw [Array.toList_filterMap]; exact e1) | simpa using e1, ?_, e3⟩
 have h2 : (List.range L.length).filterMap (fun i => L[i]?) = L := by
  have key2 : ∀ n, n ≤ L.length → (List.range n).filterMap (fun i => L[i]?) = L.take n := by
   intro n
   induction n with
   | zero => intro _; rfl
   | succ n ih =>
    intro hn
    rw [List.range_succ, List.filterMap_append, ih (by omega), List.take_succ, List.getElem?_eq_getElem (show n < L.length from hn)]
    rw [List.filterMap_cons_some (List.getElem?_eq_getElem (show n < L.length from hn))]; rfl
  rw [key2 L.length (Nat.le_refl _), List.take_length]
 have h1 := hp.filterMap fun i => L[i]?
 rw [h2, ← e2] at h1
 exact h1
theorem put_permN (L : LK) (p : Nat) (x : Addr × NestedKey) : (L.take p ++ x :: L.drop p).Perm (x :: L) := put_perm L p x
end
end PL.TN
namespace PL.TN
open PySem PySem.Calls PyProof.Rows PySem.Spec L2 PL.SX
structure GotN (ks : LK) (i : Nat) (L : LK) : Prop where
 sub : ∀ p ∈ L, p ∈ ks.take i
 all : ∀ p ∈ ks.take i, p.2 ∈ L.map (·.2)
theorem take_one {α : Type} {l : List α} {i : Nat} {x : α} (e : l[i]? = some x) : l.take (i + 1) = l.take i ++ [x] := by
 rw [List.take_add_one, e]; rfl
theorem GotN.old {ks L : LK} {i : Nat} {x : Addr × NestedKey} (g : GotN ks i L) (e : ks[i]? = some x) (m : x.2 ∈ L.map (·.2)) : GotN ks (i + 1) L := by
 refine ⟨fun p q => ?_, fun p q => ?_⟩
 ·rw [take_one e]; exact List.mem_append_left _ (g.sub p q)
 ·rw [take_one e] at q
  rcases List.mem_append.mp q with z | z
  ·exact g.all p z
  ·rw [List.mem_singleton.mp z]; exact m
theorem GotN.new {ks L L' : LK} {i : Nat} {x : Addr × NestedKey} (g : GotN ks i L) (e : ks[i]? = some x) (pm : L'.Perm (x :: L)) : GotN ks (i + 1) L' := by
 refine ⟨fun p q => ?_, fun p q => ?_⟩
 ·rw [take_one e]
  rcases List.mem_cons.mp (pm.mem_iff.mp q) with z | z
  ·rw [z]; exact List.mem_append_right _ (List.mem_singleton.mpr rfl)
  ·exact List.mem_append_left _ (g.sub p z)
 ·rw [(pm.map (·.2)).mem_iff, List.map_cons]
  rw [take_one e] at q
  rcases List.mem_append.mp q with z | z
  ·exact List.mem_cons_of_mem _ (g.all p z)
  ·rw [List.mem_singleton.mp z]; exact List.mem_cons_self
section
variable {P : Program} {w : World} {A : Around} {E : Value → Shared → Prop} {s : Shared}
theorem SetN.at {h h' : Heap} {a : Addr} {L : LK} {es : Array (Int × Value)} {ep : Nat} {t : SetTable} (R : SetN w h a L es ep t) (up : ∀ o, h.get? a = some o → h'.get? a = some o) (is : ∀ p ∈ L, IsN h' p.2 p.1) : SetN w h' a L es ep t := by
 obtain ⟨o, e, r⟩ := R.ob
 exact ⟨⟨o, up o e, r⟩, R.rw, R.tb, R.nd, is, R.led, R.rm, R.fw⟩
end
mutual
def keyP : PyData → NestedKey
 | .none => .none
 | .bool b => .num (if b = true then 1 else 0)
 | .int i => .num i
 | .str x => .text x
 | .list _ => .none
 | .tuple xs => .tup (keyPs xs)
 | .dict _ => .none
def keyPs : List PyData → List NestedKey
 | [] => []
 | x :: xs => keyP x :: keyPs xs
end
mutual
def keyable : PyData → Bool
 | .none => true
 | .bool _ => true
 | .int _ => true
 | .str _ => true
 | .list _ => false
 | .tuple xs => keyables xs
 | .dict _ => false
def keyables : List PyData → Bool
 | [] => true
 | x :: xs => keyable x && keyables xs
end
section
variable {X : Cx} {pins : List (Addr × Obj)} {σ : L2.St} {H : Hp} {s : Shared}
mutual
theorem dp_key (I : Inv X pins σ H s) : ∀ (d : PyData) (v : V) (u : Value), keyable d = true → Dp X.K H v d → RelV v u → NestedIs s.heap (keyP d) u
 | .none, _, _, _, h, r => by cases h; cases r; exact .none
 | .bool b, _, _, _, h, r => by cases h; cases r; exact .bool rfl
 | .int i, _, _, _, h, r => by cases h; obtain ⟨t, rfl⟩ := r; exact .int i t
 | .str x, _, _, _, h, r => by cases h; obtain ⟨t, rfl⟩ := r; exact .text x t
 | .list _, _, _, k, _, _ => by cases k
 | .tuple ds, _, _, k, h, r => by
  cases h with
  | tup hs ha =>
   cases r
   obtain ⟨its, rv, ⟨o, ho, hc, n, hd⟩, _⟩ := I.tuple hs
   exact .tup ho hc hd (by simpa using dp_keys I ds _ its k ha rv)
 | .dict _, _, _, _, h, _ => by cases h
theorem dp_keys (I : Inv X pins σ H s) : ∀ (ds : List PyData) (vs : List V) (us : List Value), keyables ds = true → DpAll X.K H vs ds → Vals vs us → NestedAll s.heap (keyPs ds) us
 | [], _, _, _, h, r => by cases h; cases r; exact .nil
 | d :: ds, _, _, k, h, r => by
  cases h with
  | cons h1 h2 =>
   cases r with
   | cons r1 r2 =>
    obtain ⟨k1, k2⟩ := Bool.and_eq_true_iff.mp (show (keyable d && keyables ds) = true from k)
    exact .cons (dp_key I d _ _ k1 h1 r1) (dp_keys I ds _ _ k2 h2 r2)
end
end
end PL.TN
namespace PL
open PySem PySem.Spec PyProof.Rows L2 LW
open Classical in
noncomputable def nubC {α : Type} : List α → List α
 | [] => []
 | x :: xs => if x ∈ xs then nubC xs else x :: nubC xs
theorem mem_nubC {α : Type} {x : α} : ∀ {xs : List α}, x ∈ nubC xs ↔ x ∈ xs
 | [] => Iff.rfl
 | y :: xs => by
  unfold nubC
  split
  ·rename_i h
   rw [mem_nubC, List.mem_cons]
   exact ⟨.inr, fun z => z.elim (fun e => e ▸ h) id⟩
  ·rw [List.mem_cons, List.mem_cons, mem_nubC]
theorem waf {α : Type} : ∀ xs : List α, (nubC xs).Nodup
 | [] => List.nodup_nil
 | y :: xs => by
  unfold nubC
  split
  ·exact waf xs
  ·rename_i h
   exact List.nodup_cons.mpr ⟨fun m => h (mem_nubC.mp m), waf xs⟩
theorem nubC_len {α : Type} : ∀ xs : List α, (nubC xs).length ≤ xs.length
 | [] => Nat.le_refl _
 | y :: xs => by
  have := nubC_len xs
  unfold nubC
  split
  ·rw [List.length_cons]; omega
  ·rw [List.length_cons, List.length_cons]; omega
theorem nubC_map {α β : Type} {f : α → β} : ∀ {xs : List α}, (∀ x ∈ xs, ∀ y ∈ xs, f x = f y → x = y) → nubC (xs.map f) = (nubC xs).map f
 | [], _ => rfl
 | x :: xs, h => by
  have ih := nubC_map (xs := xs) fun a ha b hb => h a (List.mem_cons_of_mem _ ha) b (List.mem_cons_of_mem _ hb)
  rw [List.map_cons]
  unfold nubC
  have e : f x ∈ xs.map f ↔ x ∈ xs := ⟨fun m => by
   obtain ⟨y, hy, q⟩ := List.mem_map.mp m
   rw [h x List.mem_cons_self y (List.mem_cons_of_mem _ hy) q.symm]
   exact hy, fun m => List.mem_map_of_mem m⟩
  by_cases c : x ∈ xs
  ·rw [if_pos c, if_pos (e.mpr c), ih]
  ·rw [if_neg c, if_neg (fun m => c (e.mp m)), ih, List.map_cons]
structure GoodN (ds : List D) : Prop where
 sh : ∀ d ∈ ds, shp d = true
 ky : ∀ d ∈ ds, TN.keyable (py d) = true
 dp : ∀ d ∈ ds, (TN.keyP (py d)).depth ≤ 8
 tp : ∀ d ∈ ds, consTup (py d) = true
 al : ∀ d ∈ ds, ∀ e ∈ ds, PySem.W.alike (py d) (py e) = true
 ij : ∀ d ∈ ds, ∀ e ∈ ds, TN.keyP (py d) = TN.keyP (py e) → d = e
 ev : ∀ d ∈ ds, ∀ e ∈ ds, PyData.eqv (py d) (py e) = true → d = e
 fw : (nubC ds).length < 64
noncomputable def ya6 (ds : List D) : List D := (nubC ds).mergeSort dle
theorem GoodN.anti {ds : List D} (g : GoodN ds) {a b : D} (ha : a ∈ ds) (hb : b ∈ ds) (h1 : dle a b = true) (h2 : dle b a = true) : a = b := by
 rw [qaj, Bool.not_eq_true'] at h1 h2
 exact g.ev a ha b hb (jam (g.al a ha b hb) (PyProof.Rows.lex_total _ _ h2 h1))
theorem GoodN.sort {ds es : List D} (g : GoodN ds) (nd : es.Nodup) (m : ∀ d, d ∈ es ↔ d ∈ ds) : es.mergeSort dle = ya6 ds := by
 have hp : es.Perm (nubC ds) := (List.perm_ext_iff_of_nodup nd (waf ds)).mpr fun k => (m k).trans mem_nubC.symm
 have hx : ∀ d ∈ es.mergeSort dle, d ∈ ds := fun d q => (m d).mp ((List.mergeSort_perm _ _).mem_iff.mp q)
 have hy : ∀ d ∈ (nubC ds).mergeSort dle, d ∈ ds := fun d q => mem_nubC.mp ((List.mergeSort_perm _ _).mem_iff.mp q)
 refine List.Perm.eq_of_pairwise (le := fun a b => dle a b = true) (fun a b m1 m2 => g.anti (hx a m1) (hy b m2)) ?_ ?_ ((List.mergeSort_perm _ _).trans (hp.trans (List.mergeSort_perm _ _).symm))
 ·exact List.pairwise_mergeSort (le := dle) (fun _ _ _ => va0) w7 es
 ·exact List.pairwise_mergeSort (le := dle) (fun _ _ _ => va0) w7 (nubC ds)
theorem sortN_len (ds : List D) : (ya6 ds).length = (nubC ds).length := (List.mergeSort_perm _ _).length_eq
theorem yat {α β : Type} {R : α → β → Prop} : ∀ {vs : List α}, (∀ v ∈ vs, ∃ b, R v b) → ∃ bs, EIs R vs bs
 | [], _ => ⟨[], .nil⟩
 | v :: vs, h => by
  obtain ⟨b, hb⟩ := h v List.mem_cons_self
  obtain ⟨bs, hs⟩ := yat (vs := vs) fun u m => h u (List.mem_cons_of_mem _ m)
  exact ⟨b :: bs, .cons hb hs⟩
theorem zah {α β : Type} {R : α → β → Prop} : ∀ {as : List α} {bs : List β}, EIs R as bs → ∀ b ∈ bs, ∃ a, a ∈ as ∧ R a b
 | _, _, .cons h t, b, m => by
  rcases List.mem_cons.mp m with e | m
  ·subst e; exact ⟨_, List.mem_cons_self, h⟩
  ·obtain ⟨a, h1, h2⟩ := zah t b m
   exact ⟨a, List.mem_cons_of_mem _ h1, h2⟩
theorem each_eq {α β γ : Type} {R : α → β → Prop} {f : α → γ} {g : β → γ} (h : ∀ a b, R a b → f a = g b) : ∀ {as : List α} {bs : List β}, EIs R as bs → as.map f = bs.map g
 | _, _, .nil => rfl
 | _, _, .cons h1 t => by rw [List.map_cons, List.map_cons, h _ _ h1, each_eq h t]
end PL
namespace PL
open PySem PySem.Spec PyProof.Rows L2
theorem refs_lk {S : Addr → D → Prop} : ∀ {its : List Value} {bs : List D}, EIs (fun v d => ∃ a, v = Value.ref a ∧ S a d) its bs → ∃ ks : TN.LK, its = ks.map (fun p => Value.ref p.1) ∧ EIs (fun (p : Addr × NestedKey) d => S p.1 d ∧ p.2 = TN.keyP (py d)) ks bs
 | _, _, .nil => ⟨[], rfl, .nil⟩
 | _, _, .cons ⟨a, e, h⟩ t => by
  obtain ⟨ks, h1, h2⟩ := refs_lk t
  exact ⟨(a, TN.keyP (py _)) :: ks, by rw [List.map_cons, ← h1, e], .cons ⟨h, rfl⟩ h2⟩
end PL
namespace PL
open PySem L2
def truS : V → Option Bool
 | .non => some false
 | .bl b => some b
 | .str z => if z.length ≤ sizeLine then some ((z.length : Int) != 0) else none
 | _ => none
section
variable {QR : Rv → En → Prop} {E : Exn → En → Prop} {ρ : En}
def trQ (d : D) (Q : V → Bool → Prop) : Prop := match d with
 | .s x => wpO (truS x) (Q x)
 | _ => False
theorem za6 {Q : V → Bool → Prop} : trQ (.s .non) Q ↔ Q .non false := Iff.rfl
end
end PL
namespace PL.TW
open PySem PySem.Calls PyProof.Rows PySem.Spec L2 PL.TN
def lx : Nat → Nat
 | 0 => 0
 | n + 1 => 5 * lx n + 1
theorem lx_add (a : Nat) : ∀ b, lx (a + b) = 5 ^ b * lx a + lx b
 | 0 => by simp [lx]
 | b + 1 => by
  show 5 * lx (a + b) + 1 = 5 ^ (b + 1) * lx a + (5 * lx b + 1)
  rw [lx_add a b, Nat.pow_succ, Nat.mul_add, Nat.mul_comm (5 ^ b) 5, Nat.mul_assoc]
  omega
theorem qbn : ∀ n, 5 ^ n = 4 * lx n + 1
 | 0 => rfl
 | n + 1 => by
  show 5 ^ n * 5 = 4 * (5 * lx n + 1) + 1
  rw [qbn n]; omega
theorem lx_pow : ∀ k, ∃ q, lx (2 ^ k) = 2 ^ k * (2 * q + 1)
 | 0 => ⟨0, rfl⟩
 | k + 1 => by
  obtain ⟨q, e⟩ := lx_pow k
  have h : lx (2 ^ (k + 1)) = lx (2 ^ k) * (4 * lx (2 ^ k) + 2) := by
   rw [Nat.pow_succ, show 2 ^ k * 2 = 2 ^ k + 2 ^ k by omega, lx_add, qbn, Nat.mul_comm (lx (2 ^ k)), Nat.add_mul, Nat.add_mul]
   omega
  refine ⟨(2 * q + 1) * lx (2 ^ k) + q, ?_⟩
  rw [h]
  generalize lx (2 ^ k) = x at e ⊢
  rw [Nat.pow_succ, show 4 * x + 2 = 2 * (2 * x + 1) by omega, ← Nat.mul_assoc]
  rw [show 2 * ((2 * q + 1) * x + q) + 1 = (2 * q + 1) * (2 * x + 1) by rw [Nat.mul_add (2 * q + 1), Nat.mul_left_comm (2 * q + 1) 2 x]; omega]
  rw [← Nat.mul_assoc (2 ^ k * 2), Nat.mul_right_comm (2 ^ k) 2, ← e]
theorem lx_odd (b q : Nat) : ∃ r, 5 ^ b * (2 * q + 1) = 2 * r + 1 := by
 refine ⟨lx b * 2 * (2 * q + 1) + q, ?_⟩
 rw [qbn, Nat.add_mul, Nat.one_mul, show 4 * lx b = 2 * (lx b * 2) by omega, Nat.mul_assoc]
 omega
theorem lx_all : ∀ k j, j < 2 ^ k → ∃ b, b < 2 ^ k ∧ lx b % 2 ^ k = j
 | 0, j, h => ⟨0, Nat.two_pow_pos 0, by rw [Nat.pow_zero] at h ⊢; omega⟩
 | k + 1, j, h => by
  have hp : 0 < 2 ^ k := Nat.two_pow_pos k
  obtain ⟨b, hb, e⟩ := lx_all k (j % 2 ^ k) (Nat.mod_lt _ hp)
  obtain ⟨q, eq⟩ := lx_pow k
  obtain ⟨r, er⟩ := lx_odd b q
  rw [Nat.pow_succ] at h ⊢
  have hsh : lx (2 ^ k + b) = 2 ^ k * 2 * r + (2 ^ k + lx b) := by
   rw [lx_add, eq, Nat.mul_left_comm, er, Nat.mul_add, Nat.mul_one, ← Nat.mul_assoc]
   omega
  have h1 := Nat.mod_mul (a := 2 ^ k) (b := 2) (x := lx b)
  have h2 := Nat.mod_mul (a := 2 ^ k) (b := 2) (x := j)
  rw [Nat.mod_eq_of_lt h] at h2
  rw [e] at h1
  by_cases c : lx b / 2 ^ k % 2 = j / 2 ^ k % 2
  ·exact ⟨b, by omega, by rw [h1, c]; exact h2.symm⟩
  ·refine ⟨2 ^ k + b, by omega, ?_⟩
   rw [hsh, Nat.mul_add_mod, Nat.mod_mul, Nat.add_mod_left, e, Nat.add_div_left _ hp]
   have : (lx b / 2 ^ k).succ % 2 = j / 2 ^ k % 2 := by omega
   rw [this]
   exact h2.symm
theorem lcg_lx (m : Nat) : ∀ n, lcgN m n = lx n % (m + 1)
 | 0 => by rw [show lx 0 = 0 from rfl, Nat.zero_mod]; rfl
 | n + 1 => by
  show (lcgN m n * 5 + 1) % (m + 1) = (5 * lx n + 1) % (m + 1)
  rw [lcg_lx m n, Nat.add_mod, Nat.mod_mul_mod, ← Nat.add_mod, Nat.mul_comm]
def MaskW (m : Nat) : Prop := m = 7 ∨ m = 31 ∨ m = 127 ∨ m = 511 ∨ m = 2047 ∨ m = 8191
theorem MaskW.pow {m : Nat} (h : MaskW m) : ∃ k, m + 1 = 2 ^ k := by
 rcases h with rfl | rfl | rfl | rfl | rfl | rfl
 ·exact ⟨3, rfl⟩
 ·exact ⟨5, rfl⟩
 ·exact ⟨7, rfl⟩
 ·exact ⟨9, rfl⟩
 ·exact ⟨11, rfl⟩
 ·exact ⟨13, rfl⟩
theorem MaskW.le {m : Nat} (h : MaskW m) : m ≤ 8191 := by unfold MaskW at h; omega
theorem MaskW.odd {m : Nat} (h : MaskW m) : m % 2 = 1 := by unfold MaskW at h; omega
theorem round_all {m i j : Nat} (h : MaskW m) (hi : i ≤ m) (hj : j ≤ m) : ∃ k, k ≤ m ∧ lcgI m i k = j := by
 obtain ⟨p, hp⟩ := h.pow
 have reach : ∀ x, x ≤ m → ∃ b, b ≤ m ∧ lcgN m b = x := fun x hx => by
  obtain ⟨b, h1, h2⟩ := lx_all p x (by omega)
  exact ⟨b, by omega, by rw [lcg_lx, hp]; exact h2⟩
 have again : ∀ k, lcgN m (m + 1 + k) = lcgN m k := fun k => by
  obtain ⟨q, eq⟩ := lx_pow p
  rw [lcg_lx, lcg_lx, hp, lx_add, eq, Nat.mul_left_comm, Nat.mul_add_mod]
 obtain ⟨a, a1, a2⟩ := reach i hi
 obtain ⟨b, b1, b2⟩ := reach j hj
 by_cases c : a ≤ b
 ·exact ⟨b - a, by omega, by rw [← a2, lcgN_add, show a + (b - a) = b by omega, b2]⟩
 ·exact ⟨m + 1 + b - a, by omega, by rw [← a2, lcgN_add, show a + (m + 1 + b - a) = m + 1 + b by omega, again, b2]⟩
theorem xbf {m j : Nat} (hm : MaskW m) (h : Int) (hj : j ≤ m) : ∃ n, n ≤ m + 12 ∧ runI m (SetTable.bits h) n = j := by
 obtain ⟨k, k1, k2⟩ := round_all hm (runI_le m (SetTable.bits h) 12) hj
 refine ⟨12 + k, by omega, ?_⟩
 rw [runI_tail (bits_lt h), k2]
theorem seen_all {m j : Nat} (hm : MaskW m) (h : Int) (hj : j ≤ m) : ∃ k, k < 10 * SetTable.turns m ∧ way m h k = j := by
 obtain ⟨n, n1, n2⟩ := xbf hm h hj
 obtain ⟨k, k1, k2⟩ := run_nth m (SetTable.bits h) n
 have e : way m h k = runI m (SetTable.bits h) n := congrArg SetTable.Probe.j k2
 exact ⟨k, by unfold SetTable.turns; omega, e.trans n2⟩
theorem way_in {m k : Nat} {h : Int} : way m h k ≤ m := by
 have b1 : SetTable.bits h % (m + 1) ≤ m := Nat.le_of_lt_succ (Nat.mod_lt _ (Nat.succ_pos m))
 have b2 := runEnd_bd b1
 have b3 := nth_in (m := m) k (runAt m (SetTable.bits h % (m + 1)) (SetTable.bits h)) (show SetTable.bits h % (m + 1) + (SetTable.runEnd m (SetTable.bits h % (m + 1)) - SetTable.bits h % (m + 1)) ≤ m by omega)
 exact Nat.le_trans (Nat.le_add_right _ _) b3
structure TabW (t : SetTable) (hs : List Int) : Prop where
 up : Ris t.place.toList
 clean : t.dummies = #[]
 len : t.place.size = hs.length
 mask : MaskW t.mask
 inn : ∀ x ∈ t.place.toList, x ≤ t.mask
 met : ∀ (i : Nat) (h : Int) (j : Nat), hs[i]? = some h → t.place.toList[i]? = some j → ∃ k, way t.mask h k = j ∧ ∀ c, c < k → way t.mask h c ∈ t.place.toList
theorem TabW.gap {t : SetTable} {hs : List Int} (T : TabW t hs) (room : hs.length ≤ t.mask) (h : Int) :
  ∃ K, K < 10 * SetTable.turns t.mask ∧ way t.mask h K ∉ t.place.toList ∧ ∀ c, c < K → way t.mask h c ∈ t.place.toList := by
 have short : t.place.toList.length < t.mask + 1 := by have := T.len; rw [Array.length_toList]; omega
 obtain ⟨j, j1, j2⟩ := st_missing _ _ short
 obtain ⟨k, k1, k2⟩ := seen_all T.mask h (show j ≤ t.mask by omega)
 obtain ⟨K, a, b, c⟩ := st_least (p := fun k => way t.mask h k ∉ t.place.toList) k (by rw [k2]; exact j2)
 exact ⟨K, by omega, b, fun q hq => Classical.not_not.mp (c q hq)⟩
theorem TabW.ahead {t : SetTable} {hs : List Int} (T : TabW t hs) {h : Int} {K i j : Nat} (free : way t.mask h K ∉ t.place.toList) (e1 : hs[i]? = some h) (e2 : t.place.toList[i]? = some j) : ∃ k, k < K ∧ way t.mask h k = j := by
 obtain ⟨k, e, held⟩ := T.met i h j e1 e2
 have hj : j ∈ t.place.toList := List.mem_of_getElem? e2
 refine ⟨k, ?_, e⟩
 by_cases c : k < K
 ·exact c
 ·by_cases d : k = K
  ·subst d; rw [e] at free; exact absurd hj free
  ·exact absurd (held K (by omega)) free
theorem TabW.put {t : SetTable} {hs : List Int} (T : TabW t hs) {h : Int} {K : Nat} (free : way t.mask h K ∉ t.place.toList) (held : ∀ c, c < K → way t.mask h c ∈ t.place.toList) :
  SetTable.below t.place (way t.mask h K) ≤ hs.length ∧ TabW (t.put (way t.mask h K)).1 (hs.take (SetTable.below t.place (way t.mask h K)) ++ h :: hs.drop (SetTable.below t.place (way t.mask h K))) ∧
   (t.put (way t.mask h K)).1.fill = hs.length + 1 := by
 have hle : way t.mask h K ≤ t.mask := way_in
 generalize hj : way t.mask h K = j at free hle ⊢
 have cut := (below_cut T.up j).1
 have p1 : SetTable.below t.place j ≤ t.place.toList.length := cut
 have p2 : SetTable.below t.place j ≤ hs.length := by rw [← T.len]; exact cut
 have place := put_place t j
 have size : (t.put j).1.place.size = hs.length + 1 := by
  rw [← Array.length_toList, place, len_ins _ p1, Array.length_toList, T.len]
 have more : ∀ x, x ∈ t.place.toList → x ∈ (t.put j).1.place.toList := fun x hx => by
  rw [place]; exact mem_ins.mpr (.inr hx)
 refine ⟨p2, ⟨ris_insert T.up fun e => free (List.mem_of_getElem? (by rw [Array.getElem?_toList]; exact e)), put_dm T.clean j, by rw [len_ins _ p2]; exact size, T.mask, fun x hx => ?_, fun i h' j' e1 e2 => ?_⟩, ?_⟩
 ·rw [place] at hx
  rcases mem_ins.mp hx with rfl | hx
  ·exact hle
  ·exact T.inn x hx
 ·rw [tins_get hs p2] at e1
  rw [place, tins_get _ p1] at e2
  have keep : (∃ k, way t.mask h' k = j' ∧ ∀ c, c < k → way t.mask h' c ∈ t.place.toList) → ∃ k, way t.mask h' k = j' ∧ ∀ c, c < k → way t.mask h' c ∈ (t.put j).1.place.toList :=
   fun ⟨k, a, b⟩ => ⟨k, a, fun c hc => more _ (b c hc)⟩
  by_cases c1 : i < SetTable.below t.place j
  ·rw [if_pos c1] at e1 e2
   exact keep (T.met i h' j' e1 e2)
  ·by_cases c2 : i = SetTable.below t.place j
   ·rw [if_neg c1, if_pos c2] at e1 e2
    cases e1
    cases e2
    exact keep ⟨K, hj, held⟩
   ·rw [if_neg c1, if_neg c2] at e1 e2
    exact keep (T.met _ h' j' e1 e2)
 ·have d := put_dm T.clean j
  show (t.put j).1.place.size + (t.put j).1.dummies.size = _
  rw [size, d]
  rfl
theorem free_at {m j : Nat} (hm : MaskW m) (owner : Array (Option Nat)) (h : Int) (hj : j ≤ m) (hf : oAt owner j = none) :
  ∃ K, SetTable.layClean.free m owner (SetTable.turns m) (SetTable.bits h % (m + 1)) (SetTable.bits h) = some (way m h K) ∧ oAt owner (way m h K) = none ∧ ∀ c, c < K → oAt owner (way m h c) ≠ none := by
 obtain ⟨n, n1, n2⟩ := xbf hm h hj
 generalize hi : SetTable.bits h % (m + 1) = i
 have e : way m h (off m i (SetTable.bits h) n) = j := by
  have q := congrArg SetTable.Probe.j (nth_off m n i (SetTable.bits h))
  subst hi
  rw [itL_run] at q
  exact q.trans n2
 obtain ⟨K, a, b, c⟩ := st_least (p := fun k => oAt owner (way m h k) = none) (off m i (SetTable.bits h) n) (by rw [e]; exact hf)
 subst hi
 exact ⟨K, free_spec m owner (SetTable.turns m) n _ _ K (by unfold SetTable.turns; omega) a (fun k hk => by
  have q := c k hk
  show (oAt owner (way m h k)).isNone = false
  cases z : oAt owner (way m h k) with
  | none => exact absurd z q
  | some _ => rfl) (by show (oAt owner (way m h K)).isNone = true; rw [b]; rfl), b, c⟩
theorem own_more {m : Nat} (hm : MaskW m) {done : List Int} {owner : Array (Option Nat)} (W : Own m done owner) (room : done.length ≤ m) (h : Int) :
  ∃ j, SetTable.layClean.free m owner (SetTable.turns m) (SetTable.bits h % (m + 1)) (SetTable.bits h) = some j ∧ Own m (done ++ [h]) (owner.setIfInBounds j (some done.length)) := by
 obtain ⟨ps, p1, p2⟩ := W.ps
 obtain ⟨j, j1, j2⟩ := st_missing ps (m + 1) (by omega)
 have hj : oAt owner j = none := Classical.byContradiction fun q => j2 (p2 j (by omega) q)
 obtain ⟨K, a, b, c⟩ := free_at hm owner h (show j ≤ m by omega) hj
 have hle : way m h K ≤ m := way_in
 have self : oAt (owner.setIfInBounds (way m h K) (some done.length)) (way m h K) = some done.length := oAt_set_self _ (by rw [W.sz]; omega)
 have held : ∀ x, oAt owner x ≠ none → oAt (owner.setIfInBounds (way m h K) (some done.length)) x ≠ none := fun x hx => by
  by_cases q : x = way m h K
  ·rw [q, self]; simp
  ·rw [oAt_set_ne _ q]; exact hx
 refine ⟨way m h K, a, ?_, ?_, ?_, way m h K :: ps, ?_, ?_⟩
 ·rw [Array.size_setIfInBounds]; exact W.sz
 ·intro x k hx e
  by_cases q : x = way m h K
  ·subst q
   rw [self] at e
   cases e
   exact ⟨h, K, by simp, rfl, fun y hy => held _ (c y hy)⟩
  ·rw [oAt_set_ne _ q] at e
   obtain ⟨h', K', b1, b2, b3⟩ := W.at_ x k hx e
   refine ⟨h', K', ?_, b2, fun y hy => held _ (b3 y hy)⟩
   rw [List.getElem?_append_left (List.getElem?_eq_some_iff.mp b1).1]; exact b1
 ·intro k hk
  rw [List.length_append, List.length_singleton] at hk
  by_cases q : k = done.length
  ·subst q; exact ⟨_, hle, self⟩
  ·obtain ⟨x, x1, x2⟩ := W.all k (by omega)
   refine ⟨x, x1, ?_⟩
   rw [oAt_set_ne _ fun z => ?_]
   ·exact x2
   ·rw [z, b] at x2; cases x2
 ·rw [List.length_cons, List.length_append, p1]; rfl
 ·intro x hx e
  by_cases q : x = way m h K
  ·rw [q]; exact List.mem_cons_self
  ·rw [oAt_set_ne _ q] at e
   exact List.mem_cons_of_mem _ (p2 x hx e)
theorem jba {m : Nat} (hm : MaskW m) : ∀ (rest done : List Int) (owner : Array (Option Nat)), Own m done owner → done.length + rest.length ≤ m →
  ∃ owner', rest.foldl (stepF m) (some (owner, done.length)) = some (owner', (done ++ rest).length) ∧ Own m (done ++ rest) owner' := by
 intro rest
 induction rest with
 | nil => intro done owner W _; exact ⟨owner, by rw [List.append_nil]; rfl, by rw [List.append_nil]; exact W⟩
 | cons h rest ih =>
  intro done owner W room
  rw [List.length_cons] at room
  obtain ⟨j, a, W2⟩ := own_more hm W (by omega) h
  obtain ⟨owner', b, W3⟩ := ih (done ++ [h]) _ W2 (by rw [List.length_append, List.length_singleton]; omega)
  rw [List.append_assoc, List.singleton_append] at b W3
  refine ⟨owner', ?_, W3⟩
  rw [List.foldl_cons, stepF_some a, ← b, List.length_append]
  rfl
theorem lay_ok {m : Nat} (hm : MaskW m) {hs : Array Int} (room : hs.size ≤ m) : ∃ owner, SetTable.layClean m hs = some owner ∧ Own m hs.toList owner := by
 obtain ⟨owner, a, W⟩ := jba hm hs.toList [] (Array.replicate (m + 1) none) (Own.init m) (by simpa using room)
 have a2 : hs.toList.foldl (stepF m) (some (Array.replicate (m + 1) none, 0)) = some (owner, hs.toList.length) := a
 exact ⟨owner, by rw [layClean_eq, a2]; rfl, W⟩
theorem anew_ok (t : SetTable) {hs : Array Int} {wanted M : Nat} (hw : SetTable.sizeAbove wanted - 1 = M) (hM : MaskW M) (room : hs.size ≤ M) :
  ∃ t' order, t.relaid hs wanted = some (t', order) ∧ order.toList.Perm (List.range hs.size) ∧ TabW t' (order.toList.map fun i => hs.getD i 0) ∧ t'.mask = M ∧ t'.led = t.led := by
 obtain ⟨owner, a, W⟩ := lay_ok hM room
 obtain ⟨ps, p1, p2⟩ := W.ps
 obtain ⟨r1, r2⟩ := ris_live (fun j => owner.getD j none) (List.range (M + 1)) List.pairwise_lt_range
 change Ris ((liveOf M owner).map (·.1)) at r1
 change ∀ x ∈ (liveOf M owner).map (·.1), x ∈ List.range (M + 1) at r2
 have two : ∀ k, k < hs.size → k ∈ (liveOf M owner).map (·.2) := fun k hk => by
  obtain ⟨j, b1, b2⟩ := W.all k (by rw [Array.length_toList]; exact hk)
  exact List.mem_map.mpr ⟨(j, k), (mem_live W.sz).mpr ⟨b1, b2⟩, rfl⟩
 have few : (liveOf M owner).length ≤ hs.size := by
  have nd : ((liveOf M owner).map (·.1)).Nodup := r1.imp fun h => Nat.ne_of_lt h
  have q := nat_nodup_len _ ps nd fun x hx => by
   obtain ⟨⟨y, k⟩, hq, rfl⟩ := List.mem_map.mp hx
   obtain ⟨b1, b2⟩ := (mem_live W.sz).mp hq
   exact p2 y b1 (by rw [b2]; simp)
  rw [List.length_map, p1, Array.length_toList] at q
  exact q
 have many : hs.size ≤ (liveOf M owner).length := by
  have q := nat_nodup_len (List.range hs.size) ((liveOf M owner).map (·.2)) List.nodup_range fun k hk => two k (List.mem_range.mp hk)
  rw [List.length_map, List.length_range] at q
  exact q
 refine ⟨tabOf t M owner, ((liveOf M owner).map (·.2)).toArray, by rw [relaid_eq, hw, a]; rfl, perm_range _ _ (by show ((liveOf M owner).map (·.2)).length = _; rw [List.length_map]; omega) two, ⟨r1, rfl, ?_, hM, fun x hx => by have := List.mem_range.mp (r2 x hx); show x ≤ M; omega, fun i h j e1 e2 => ?_⟩, rfl, rfl⟩
 ·show ((liveOf M owner).map (·.1)).toArray.size = (((liveOf M owner).map (·.2)).map fun i => hs.getD i 0).length
  simp
 ·have f1 : (((liveOf M owner).map (·.2)).map fun i => hs.getD i 0)[i]? = some h := e1
  have f2 : ((liveOf M owner).map (·.1))[i]? = some j := e2
  rw [List.map_map, List.getElem?_map] at f1
  rw [List.getElem?_map] at f2
  obtain ⟨⟨y, k⟩, g1, rfl⟩ := Option.map_eq_some_iff.mp f2
  rw [g1] at f1
  obtain ⟨b1, b2⟩ := (mem_live W.sz).mp (List.mem_of_getElem? g1)
  obtain ⟨h0, K, c1, c2, c3⟩ := W.at_ y k b1 b2
  have c4 : hs.getD k 0 = h0 := by
   rw [Array.getD_eq_getD_getElem?, ← Array.getElem?_toList, c1]; rfl
  have c5 : h0 = h := c4.symm.trans (Option.some.inj f1)
  subst c5
  refine ⟨K, c2, fun c hc => ?_⟩
  show way M h0 c ∈ (liveOf M owner).map (·.1)
  cases z : oAt owner (way M h0 c) with
  | none => exact absurd z (c3 c hc)
  | some k2 => exact List.mem_map.mpr ⟨(way M h0 c, k2), (mem_live W.sz).mpr ⟨way_in, z⟩, rfl⟩
end PL.TW
namespace PL.TW
open PySem PySem.Calls PyProof.Rows PySem.Spec L2 PL.TN
theorem size_w3 : SetTable.sizeAbove (SetTable.grown (76 + 1)) = 512 := by decide +kernel
theorem size_w4 : SetTable.sizeAbove (SetTable.grown (306 + 1)) = 2048 := by decide +kernel
theorem size_w5 : SetTable.sizeAbove (SetTable.grown (1228 + 1)) = 8192 := by decide +kernel
structure SetW (w : World) (h : Heap) (a : Addr) (L : LK) (es : Array (Int × Value)) (ep : Nat) (t : SetTable) : Prop where
 ob : ∃ o, h.get? a = some o ∧ o.ExactSet ∧ o.data = .set es ep t
 rw : es.toList = rowsN w L
 tb : TabW t (hsN w L)
 nd : (L.map (·.2)).Nodup
 is : ∀ p ∈ L, IsN h p.2 p.1
 led : w.params.followText "set-order" = true ∨ t.led = true
 rm : L.length * 5 < t.mask * 3
 fw : L.length < 2000
section
variable {P : Program} {w : World} {A : Around} {E : Value → Shared → Prop} {s : Shared} {a : Addr} {L : LK} {es : Array (Int × Value)} {ep : Nat} {t : SetTable}
theorem fitsW (T : TabW t (hsN w L)) (e : es.size = L.length) (m : L.length ≤ t.mask) : t.fits es.size = true := by
 have q := T.len
 rw [xag] at q
 unfold SetTable.fits SetTable.fill
 rw [T.clean, Bool.and_eq_true, beq_iff_eq, decide_eq_true_eq]
 refine ⟨by omega, ?_⟩
 show t.place.size + 0 ≤ t.mask
 omega
theorem SetW.fits (R : SetW w s.heap a L es ep t) : t.fits es.size = true := fitsW R.tb (rowsN_size R.rw) (by have := R.rm; omega)
theorem SetW.row (R : SetW w s.heap a L es ep t) {i : Nat} {p : Addr × NestedKey} (e : L[i]? = some p) : es[i]? = some (p.2.hash w, Value.ref p.1) := by
 rw [← Array.getElem?_toList, R.rw]
 unfold rowsN
 rw [List.getElem?_map, e]; rfl
theorem SetW.gw (R : SetW w s.heap a L es ep t) : ¬ t.gaveWay = true := by
 unfold SetTable.gaveWay
 rw [R.tb.mask.odd]
 decide
theorem findW (R : SetW w s.heap a L es ep t) {x : Addr} {k : NestedKey} (hx : IsN s.heap k x) (hu : A.units + 8 < cLine) {K : Nat} (hf : K < 10 * SetTable.turns t.mask)
  (free : way t.mask (k.hash w) K ∉ t.place.toList) (held : ∀ c, c < K → way t.mask (k.hash w) c ∈ t.place.toList) {Q : SetFound → Shared → Prop}
  (yes : k ∈ L.map (·.2) → Q (.there none) s) (no : k ∉ L.map (·.2) → Q (.free (way t.mask (k.hash w) K) false) s) :
  ∀ (f c : Nat) (st : Option SetTable.Probe), st.getD (t.probeStart (k.hash w)) = kbf t.mask (k.hash w) c → c ≤ K → K - c < f →
   (∀ (i : Nat) p, L[i]? = some p → p.2 = k → ∃ c', (c ≤ c' ∧ c' < K) ∧ t.place.toList[i]? = some (way t.mask (k.hash w) c')) →
   wpAny (model P w) A (setSearchFrom a (.ref x) (k.hash w) true f st) Q E s
 | 0, c, st, _, _, z, _ => absurd z (Nat.not_lt_zero _)
 | f + 1, c, st, est, hc, hfu, hre => by
  obtain ⟨o, ho, hex, hd⟩ := R.ob
  rw [setSearchFrom_succ]
  refine wpAny_bind (wpAny_setState_of ho hd R.fits ?_)
  dsimp only
  refine wp_if_neg R.gw ?_
  try refine wpAny_bind (wpAny_pure ?_)
  have sh : ∀ q, nth t.mask (kbf t.mask (k.hash w) c) q = kbf t.mask (k.hash w) (c + q) := fun q => (nth_add t.mask c _ q).symm
  have e1 : ∀ q, (nth t.mask (kbf t.mask (k.hash w) c) q).j = way t.mask (k.hash w) (c + q) := fun q => congrArg SetTable.Probe.j (sh q)
  have spec := go_spec t R.tb.up R.tb.clean (fun i => (es[i]?.map (·.1)).getD 0) (k.hash w) (10 * SetTable.turns t.mask) (K - c) _ (zbl t.mask (k.hash w) c) (by omega)
   (fun q hq => by rw [e1]; exact held (c + q) (by omega)) (by rw [e1, show c + (K - c) = K by omega]; exact free)
  have hashAt : ∀ (i : Nat) p, L[i]? = some p → (fun i => (es[i]?.map (·.1)).getD 0) i = p.2.hash w := fun i p hp => by
   show (es[i]?.map (·.1)).getD 0 = _
   rw [R.row hp]; rfl
  rcases spec with ⟨q, i, hq, hi, hh, hno, hpr⟩ | ⟨hno, hpr⟩
  ·have hpr' : t.probe (fun i => (es[i]?.map (·.1)).getD 0) (k.hash w) (st.getD (t.probeStart (k.hash w))) = some (.candidate (way t.mask (k.hash w) (c + q)) i (kbf t.mask (k.hash w) (c + (q + 1)))) := by
    rw [est, ← e1, ← sh]
    exact hpr
   rw [hpr']
   dsimp only
   rw [e1] at hi
   have hil : i < L.length := by
    have h1 : i < t.place.toList.length := (List.getElem?_eq_some_iff.mp hi).1
    have h2 := R.tb.len
    rw [xag] at h2
    rw [Array.length_toList] at h1
    omega
   have hp : L[i]? = some L[i] := List.getElem?_eq_getElem hil
   generalize L[i] = p at hp
   have hmem : p ∈ L := List.mem_of_getElem? hp
   have hpt := R.is p hmem
   have rest : wpAny (model P w) A (searchRest a (.ref x) (k.hash w) true f es t (way t.mask (k.hash w) (c + q)) i (kbf t.mask (k.hash w) (c + (q + 1)))) Q E s := by
    unfold searchRest
    rw [R.row hp]
    dsimp only
    refine wpAny_bind (wpAny_holding ((nestedKind P w).eqBool hu hpt hx ?_))
    refine wpAny_bind (wpAny_setState_of ho hd R.fits ?_)
    dsimp only
    by_cases hkk : p.2 = k
    ·refine wp_if_pos (by simp [hkk]) (wpAny_pure (yes ?_))
     exact List.mem_map.mpr ⟨p, hmem, hkk⟩
    ·refine wp_if_neg (by simp [hkk]) ?_
     try refine wpAny_bind (wpAny_pure ?_)
     rw [sameMem]
     dsimp only
     have hsl : t.slot (way t.mask (k.hash w) (c + q)) = .live i := slot_live R.tb.up hi
     simp only [if_true, hsl, R.row hp]
     refine wpAny_bind (wpAny_isSame_ref_self (wpAny_bind (wpAny_pure ?_)))
     simp only [if_true]
     refine wp_if_neg (by simp [hkk]) ?_
     refine findW R hx hu hf free held yes no f (c + (q + 1)) _ rfl (by omega) (by omega) fun i0 p0 h0 hk0 => ?_
     obtain ⟨c', ⟨a1, a2⟩, a3⟩ := hre i0 p0 h0 hk0
     refine ⟨c', ⟨?_, a2⟩, a3⟩
     have ne1 : ¬ c' < c + q := fun z => by
      exact hno (c' - c) i0 (by omega) (by rw [e1, show c + (c' - c) = c' by omega]; exact a3) ((hashAt i0 p0 h0).trans (by rw [hk0]))
     have ne2 : c' ≠ c + q := fun z => by
      rw [z] at a3
      have s0 := slot_live R.tb.up a3
      rw [hsl] at s0
      injection s0 with s0
      rw [← s0, hp] at h0
      cases h0
      exact hkk hk0
     omega
   by_cases hl : t.led = true
   ·refine wp_if_neg (by simp [hl]) ?_
    try refine wpAny_bind (wpAny_pure ?_)
    exact rest
   ·refine wp_if_pos (by simp [hl]) ?_
    refine wpAny_bind (seenN hx (fun y hy => ?_) ?_)
    ·obtain ⟨e, he, ee⟩ := List.mem_map.mp hy
     have he1 : e ∈ es ∧ e.1 = k.hash w := by simpa using he
     have he2 : e ∈ es.toList := by simpa using he1.1
     rw [R.rw] at he2
     obtain ⟨p2, hp2, e2⟩ := List.mem_map.mp he2
     exact ⟨p2.2, p2.1, by rw [← ee, ← e2], R.is p2 hp2⟩
    ·refine wp_if_neg (by decide) ?_
     try refine wpAny_bind (wpAny_pure ?_)
     exact rest
  ·have hpr' : t.probe (fun i => (es[i]?.map (·.1)).getD 0) (k.hash w) (st.getD (t.probeStart (k.hash w))) = some (.empty (way t.mask (k.hash w) K) none) := by
    have e2 : way t.mask (k.hash w) K = (nth t.mask (kbf t.mask (k.hash w) c) (K - c)).j := by
     rw [e1, show c + (K - c) = K by omega]
    rw [est, e2]
    exact hpr
   rw [hpr']
   dsimp only
   refine wpAny_pure (no fun hm => ?_)
   obtain ⟨p0, h0, hk0⟩ := List.mem_map.mp hm
   obtain ⟨i0, h00⟩ := List.getElem?_of_mem h0
   obtain ⟨c', ⟨a1, a2⟩, a3⟩ := hre i0 p0 h00 hk0
   exact hno (c' - c) i0 (by omega) (by rw [e1, show c + (c' - c) = c' by omega]; exact a3) ((hashAt i0 p0 h00).trans (by rw [hk0]))
theorem seekW (R : SetW w s.heap a L es ep t) {x : Addr} {k : NestedKey} (hx : IsN s.heap k x) (hu : A.units + 8 < cLine) {Q : SetFound → Shared → Prop}
  (yes : k ∈ L.map (·.2) → Q (.there none) s)
  (no : ∀ K, k ∉ L.map (·.2) → way t.mask (k.hash w) K ∉ t.place.toList → (∀ c, c < K → way t.mask (k.hash w) c ∈ t.place.toList) → Q (.free (way t.mask (k.hash w) K) false) s) :
  wpAny (model P w) A (setSearch a (.ref x) (k.hash w) true) Q E s := by
 have hr := R.rm
 obtain ⟨K, hK, free, held⟩ := R.tb.gap (by rw [xag]; omega) (k.hash w)
 have big : K < 100000 := by
  have h8 := R.tb.mask.le
  have : 10 * SetTable.turns t.mask ≤ 82060 := by unfold SetTable.turns; omega
  omega
 unfold setSearch
 refine findW R hx hu hK free held yes (fun hn => no K hn free held) 100000 0 none rfl (Nat.zero_le _) (by omega) fun i p hp hk => ?_
 have hi : (hsN w L)[i]? = some (k.hash w) := by rw [← hk]; exact hsN_get hp
 have hil : i < t.place.toList.length := by
  have h1 : i < L.length := (List.getElem?_eq_some_iff.mp hp).1
  have h2 := R.tb.len
  rw [xag] at h2
  rw [Array.length_toList]
  omega
 have hj := List.getElem?_eq_getElem hil
 obtain ⟨c, hc, e⟩ := R.tb.ahead free hi hj
 exact ⟨c, ⟨Nat.zero_le _, hc⟩, by rw [hj, e]⟩
theorem layW {o : Obj} (ho : s.heap.get? a = some o) (hex : o.ExactSet) (hd : o.data = .set es ep t) (hrows : es.toList = rowsN w L) (T0 : TabW t (hsN w L)) (hfl : es.size ≤ t.mask)
  (nd : (L.map (·.2)).Nodup) (tup : ∀ p ∈ L, IsN s.heap p.2 p.1) (ld : w.params.followText "set-order" = true ∨ t.led = true) (few : L.length < 2000) {wanted M : Nat}
  (hw : SetTable.sizeAbove wanted - 1 = M) (hM : MaskW M) (hw2 : SetTable.sizeAbove wanted ≤ 8192) (hn : L.length * 5 < M * 3) {Q : Unit → Shared → Prop}
  (hQ : ∀ h' L' es' ep' t', Heap.SameBut a s.heap h' → SetW w h' a L' es' ep' t' → L'.Perm L → Q () { s with heap := h' }) : wpAny (model P w) A (setRelay a wanted) Q E s := by
 have hsl := rowsN_size hrows
 obtain ⟨t', order, e, hp, T, em, el⟩ := anew_ok t (hs := es.map (·.1)) (wanted := wanted) hw hM (by rw [Array.size_map, hsl]; omega)
 rw [Array.size_map, hsl] at hp
 obtain ⟨L2, r1, r2, r3⟩ := ordN L es order hrows hp
 rw [← r3] at T
 have hs2 : (order.filterMap (es[·]?)).size = es.size := by rw [rowsN_size r1, r2.length_eq, hsl]
 rw [setRelay_eq]
 refine wpAny_bind (wpAny_setState_of ho hd (fitsW T0 hsl (by omega)) ?_)
 dsimp only
 refine wp_if_neg (by rw [sizeLine_eq]; omega) ?_
 try refine wpAny_bind (wpAny_pure ?_)
 rw [e]
 dsimp only
 refine wpAny_bind ?_
 refine wp_if_neg (by rw [hs2]; simp) ?_
 try refine wpAny_bind (wpAny_pure ?_)
 refine wpAny_pure ?_
 dsimp only
 refine wpAny_storeSet_of ho hd ?_ (by rw [hs2, hsl, sizeLine_eq]; omega)
 have sb : Heap.SameBut a s.heap (s.heap.update a (Obj.putSet (order.filterMap (es[·]?)) t')) := Heap.SameBut.update ..
 refine hQ _ L2 (order.filterMap (es[·]?)) (ep + 1) t' sb ?_ r2
 refine ⟨⟨_, store_at ho hd, ⟨hex.1, hex.2.1, hex.2.2⟩, rfl⟩, r1, T, ?_, fun p hpm => (tup p (r2.mem_iff.mp hpm)).same ho hd sb, by rw [el]; exact ld, ?_, by rw [r2.length_eq]; exact few⟩
 ·exact (r2.map (·.2)).nodup_iff.mpr nd
 ·rw [r2.length_eq, em]
  exact hn
theorem tabW_plain {hs : List Int} (T : TabW t hs) (b : Bool) : TabW (if b = true then t else { t with plain := false }) hs := by
 cases b with
 | true => exact T
 | false => exact ⟨T.up, T.clean, T.len, T.mask, T.inn, T.met⟩
theorem addW (R : SetW w s.heap a L es ep t) {x : Addr} {k : NestedKey} (hx : IsN s.heap k x) (hu : A.units + 8 < cLine) (hfew : k ∉ L.map (·.2) → L.length + 1 < 2000) {Q : Bool → Shared → Prop}
  (hQ : ∀ b h' L' es' ep' t', Heap.SameBut a s.heap h' → SetW w h' a L' es' ep' t' → (k ∈ L.map (·.2) → L' = L) → (k ∉ L.map (·.2) → L'.Perm ((x, k) :: L)) → Q b { s with heap := h' }) :
  wpAny (model P w) A (setAddHashed a (.ref x) (k.hash w)) Q E s := by
 obtain ⟨o, ho, hex, hd⟩ := R.ob
 have hsl := rowsN_size R.rw
 have hroom := R.rm
 unfold setAddHashed
 refine wpAny_holding ?_
 rw [show (100000 : Nat) = 99999 + 1 from rfl, setAddHashedIn_succ]
 refine wpAny_bind (wpAny_setState_of ho hd R.fits ?_)
 dsimp only
 refine wp_if_neg (by simp [byScan, Value.scannable]) ?_
 try refine wpAny_bind (wpAny_pure ?_)
 refine wpAny_bind (seekW R hx hu (fun hm => ?_) fun K hm hK hb => ?_)
 ·dsimp only
  exact wpAny_pure (hQ false s.heap L es ep t (Heap.SameBut.refl a s.heap) R (fun _ => rfl) fun z => absurd hm z)
 ·dsimp only
  have hfew := hfew hm
  refine wpAny_bind (wpAny_setState_of ho hd R.fits ?_)
  dsimp only
  obtain ⟨q2, q3, q9⟩ := R.tb.put hK hb
  have q1 : (t.put (way t.mask (k.hash w) K)).2 = SetTable.below t.place (way t.mask (k.hash w) K) := rfl
  have q4 : (t.put (way t.mask (k.hash w) K)).1.mask = t.mask := rfl
  have q5 : (t.put (way t.mask (k.hash w) K)).1.led = t.led := rfl
  generalize hpt : t.put (way t.mask (k.hash w) K) = pt at q1 q3 q4 q5 q9 ⊢
  obtain ⟨t1, p⟩ := pt
  dsimp only at q1 q3 q4 q5 q9 ⊢
  subst q1
  have hin : (SetTable.insertAt es (SetTable.below t.place (way t.mask (k.hash w) K)) (k.hash w, Value.ref x)).toList = rowsN w (L.take (SetTable.below t.place (way t.mask (k.hash w) K)) ++ (x, k) :: L.drop (SetTable.below t.place (way t.mask (k.hash w) K))) := by
   unfold rowsN
   rw [SetTable.toList_insertAt, R.rw, List.map_append, List.map_cons, List.map_take, List.map_drop]
   rfl
  have hhs : hsN w (L.take (SetTable.below t.place (way t.mask (k.hash w) K)) ++ (x, k) :: L.drop (SetTable.below t.place (way t.mask (k.hash w) K))) = (hsN w L).take (SetTable.below t.place (way t.mask (k.hash w) K)) ++ k.hash w :: (hsN w L).drop (SetTable.below t.place (way t.mask (k.hash w) K)) := by
   unfold hsN
   rw [List.map_append, List.map_cons, List.map_take, List.map_drop]
  rw [← hhs] at q3
  generalize SetTable.below t.place (way t.mask (k.hash w) K) = p at q2 q3 hin ⊢
  have pm := put_permN L p (x, k)
  have hlen : (L.take p ++ (x, k) :: L.drop p).length = L.length + 1 := pm.length_eq
  have nd1 : ((L.take p ++ (x, k) :: L.drop p).map (·.2)).Nodup := by
   refine (pm.map (·.2)).nodup_iff.mpr ?_
   rw [List.map_cons]
   exact List.nodup_cons.mpr ⟨hm, R.nd⟩
  have hes : (SetTable.insertAt es p (k.hash w, Value.ref x)).size = L.length + 1 := by rw [rowsN_size hin, hlen]
  generalize SetTable.insertAt es p (k.hash w, Value.ref x) = es1 at hin hes ⊢
  generalize L.take p ++ (x, k) :: L.drop p = L1 at pm hlen q3 nd1 hin
  have main : ∀ t2 : SetTable, TabW t2 (hsN w L1) → t2.mask = t.mask → t2.led = t.led → t2.fill = L.length + 1 → wpAny (model P w) A (do
    storeSet a es1 t2
    if (!false && t2.tooFull) = true then do
      setRelay a (SetTable.grown (es.size + 1))
      pure true
     else pure true) Q E s := fun t2 T2 m2 l2 f2 => by
   refine wpAny_bind (wpAny_storeSet_of ho hd ?_ (by rw [hes, sizeLine_eq]; omega))
   have sb : Heap.SameBut a s.heap (s.heap.update a (Obj.putSet es1 t2)) := Heap.SameBut.update ..
   have ho1 := store_at (es' := es1) (t' := t2) ho hd
   generalize s.heap.update a (Obj.putSet es1 t2) = h1 at sb ho1 ⊢
   have tup1 : ∀ p ∈ L1, IsN h1 p.2 p.1 := fun p hp => by
    rcases List.mem_cons.mp (pm.mem_iff.mp hp) with e | hp
    ·rw [e]; exact hx.same ho hd sb
    ·exact (R.is p hp).same ho hd sb
   have ld1 : w.params.followText "set-order" = true ∨ t2.led = true := by rw [l2]; exact R.led
   by_cases hf : t2.tooFull = true
   ·refine wp_if_pos (by simp [hf]) (wpAny_bind ?_)
    have hfull : (L.length + 1) * 5 ≥ t2.mask * 3 := by
     have h := hf
     unfold SetTable.tooFull at h
     rw [decide_eq_true_eq, f2] at h
     exact h
    rw [hsl]
    have two : (t.mask = 7 ∧ L.length = 4) ∨ (t.mask = 31 ∧ L.length = 18) ∨ (t.mask = 127 ∧ L.length = 76) ∨ (t.mask = 511 ∧ L.length = 306) ∨ (t.mask = 2047 ∧ L.length = 1228) := by
     rw [m2] at hfull
     have := R.tb.mask
     unfold MaskW at this
     omega
    have go : ∀ M, SetTable.sizeAbove (SetTable.grown (L.length + 1)) - 1 = M → MaskW M → SetTable.sizeAbove (SetTable.grown (L.length + 1)) ≤ 8192 → (L.length + 1) * 5 < M * 3 →
      wpAny (model P w) A (setRelay a (SetTable.grown (L.length + 1))) (fun _ s' => wpAny (model P w) A (pure true) Q E s') E { s with heap := h1 } := fun M b1 b2 b3 b4 => by
     refine layW (s := { s with heap := h1 }) ho1 ⟨hex.1, hex.2.1, hex.2.2⟩ rfl hin T2 (by rw [hes, m2]; omega) nd1 tup1 ld1 (by rw [hlen]; exact hfew) b1 b2 b3 (by rw [hlen]; exact b4) ?_
     intro h2 L2 es2 ep2 t3 sb2 R2 pm2
     exact wpAny_pure (hQ true h2 L2 es2 ep2 t3 (sb.trans sb2) R2 (fun z => absurd z hm) fun _ => pm2.trans pm)
    rcases two with ⟨_, e2⟩ | ⟨_, e2⟩ | ⟨_, e2⟩ | ⟨_, e2⟩ | ⟨_, e2⟩
    ·exact go 31 (by rw [e2, size_20]) (.inr (.inl rfl)) (by rw [e2, size_20]; decide) (by omega)
    ·exact go 127 (by rw [e2, size_76]) (.inr (.inr (.inl rfl))) (by rw [e2, size_76]; decide) (by omega)
    ·exact go 511 (by rw [e2, size_w3]) (.inr (.inr (.inr (.inl rfl)))) (by rw [e2, size_w3]; decide) (by omega)
    ·exact go 2047 (by rw [e2, size_w4]) (.inr (.inr (.inr (.inr (.inl rfl))))) (by rw [e2, size_w4]; decide) (by omega)
    ·exact go 8191 (by rw [e2, size_w5]) (.inr (.inr (.inr (.inr (.inr rfl))))) (by rw [e2, size_w5]; decide) (by omega)
   ·refine wp_if_neg (by simp [hf]) ?_
    refine wpAny_pure (hQ true h1 L1 es1 (ep + 1) t2 sb ⟨⟨_, ho1, ⟨hex.1, hex.2.1, hex.2.2⟩, rfl⟩, hin, T2, nd1, tup1, ld1, ?_, by rw [hlen]; exact hfew⟩ (fun z => absurd z hm) fun _ => pm)
    have h := hf
    unfold SetTable.tooFull at h
    rw [decide_eq_true_eq, f2] at h
    rw [hlen]
    omega
  have hfill : t1.fill = L.length + 1 := by rw [q9, xag]
  by_cases hp1 : t1.plain = true
  ·first
    | (refine wpAny_bind ?_; refine wp_if_pos hp1 ?_; refine zat _ _ _ _ hx.1 _ _ _ fun b => ?_)
    | refine wp_if_pos hp1 (wpAny_bind (zat _ _ _ _ hx.1 _ _ _ fun b => ?_))
   cases b with
   | true => exact main t1 q3 q4 q5 hfill
   | false => exact main { t1 with plain := false } (tabW_plain q3 false) q4 q5 hfill
  ·first
    | (refine wpAny_bind ?_; refine wp_if_neg hp1 ?_; refine wpAny_pure ?_)
    | (refine wp_if_neg hp1 ?_; try refine wpAny_bind (wpAny_pure ?_))
   exact main t1 q3 q4 q5 hfill
end
end PL.TW
namespace PL.TW
open PySem PySem.Calls PyProof.Rows PySem.Spec L2 PL.SX PL.TN
section
variable {P : Program} {w : World} {A : Around} {E : Value → Shared → Prop} {s : Shared}
theorem SetW.at {h h' : Heap} {a : Addr} {L : LK} {es : Array (Int × Value)} {ep : Nat} {t : SetTable} (R : SetW w h a L es ep t) (up : ∀ o, h.get? a = some o → h'.get? a = some o) (is : ∀ p ∈ L, IsN h' p.2 p.1) : SetW w h' a L es ep t := by
 obtain ⟨o, e, r⟩ := R.ob
 exact ⟨⟨o, up o e, r⟩, R.rw, R.tb, R.nd, is, R.led, R.rm, R.fw⟩
theorem setW_empty {h : Heap} {a : Addr} (g : h.get? a = some (x5 w)) : SetW w h a [] #[] 0 (.fresh 0 0 (!w.params.followText "set-order")) := by
 refine ⟨⟨_, g, ⟨rfl, rfl, rfl⟩, rfl⟩, rfl, ⟨List.Pairwise.nil, rfl, rfl, .inl rfl, (fun x m => by cases m), (fun i z j e => by simp [hsN] at e)⟩, List.nodup_nil, (fun p m => by cases m), ?_, by show 0 * 5 < 7 * 3; decide, by show 0 < 2000; decide⟩
 show _ ∨ (!w.params.followText "set-order") = true
 cases w.params.followText "set-order" <;> simp
def FewW (ks : LK) : Prop := ∀ L : LK, (L.map (·.2)).Nodup → (∀ p ∈ L, p ∈ ks) → L.length < 2000
theorem updW {I : Addr} {fp wr : List Addr} {G : Array GenState → Array GenState → Prop} {n : Nat} {Pv : Nat → Value → Prop} {St : Nat → Shared → Prop} {R : Result → Shared → Prop}
  (W : WalksS P w A.in1 I fp wr G n Pv St) (S : Addr) (nf : S ∉ fp) (ks : LK) (hn : n = ks.length) (few : FewW ks) (val : ∀ i v, Pv i v → ∃ p, ks[i]? = some p ∧ v = .ref p.1)
  (h0 : Heap) (is0 : ∀ p ∈ ks, IsN h0 p.2 p.1) (S0 : h0.get? S = none) (w0 : ∀ b ∈ wr, h0.get? b = none) (hu : A.units + 12 < cLine) :
  ∀ (k i : Nat) (s : Shared), n - i = k → i ≤ n → St i s → (∀ b o, h0.get? b = some o → s.heap.get? b = some o) → (∃ L es ep t, SetW w s.heap S L es ep t ∧ GotN ks i L) →
   (∀ s' L es ep t, Moved (S :: wr) G s s' → SetW w s'.heap S L es ep t → GotN ks n L → (∀ b o, h0.get? b = some o → s'.heap.get? b = some o) → R (.ok (.ret .none)) s') →
   codeAny (model P w) A (.builtin "set.update.loop" ⟨[.ref S, .ref I], []⟩) R s := by
 have nS : S ∉ wr := fun q => nf (W.sub _ q)
 have sb0 : ∀ b ∈ wr, b ∈ S :: wr := fun b q => List.mem_cons_of_mem _ q
 have up1 : ∀ {s s' : Shared}, Moved wr G s s' → (∀ b o, h0.get? b = some o → s.heap.get? b = some o) → ∀ b o, h0.get? b = some o → s'.heap.get? b = some o := fun hm kp b o e =>
  hm.heap b o (fun q => by rw [w0 b q] at e; cases e) (kp b o e)
 intro k
 induction k with
 | zero =>
  intro i s e0 hi hst kp ⟨L, es, ep, t, hS, g⟩ hR
  obtain rfl : i = n := by omega
  refine codeAny_builtin F.entry_set_update_loop ?_
  rw [Around.under_plainId F.plain_set_update_loop _]
  show wpAny _ A.in1 (pyNext (.ref I) >>= _) _ _ s
  refine wpAny_bind (W.done s _ _ hst fun s' hm => ?_)
  show wpAny _ A.in1 (ret Value.none) _ _ s'
  have kp' := up1 hm kp
  exact wpAny_pure (hR s' L es ep t (hm.mono sb0) (hS.at (fun o e => hm.heap S o nS e) fun p q => (is0 p (List.mem_of_mem_take (g.sub p q))).keep kp') g kp')
 | succ k ih =>
  intro i s e0 hi hst kp ⟨L, es, ep, t, hS, g⟩ hR
  have hlt : i < n := by omega
  refine codeAny_builtin F.entry_set_update_loop ?_
  rw [Around.under_plainId F.plain_set_update_loop _]
  show wpAny _ A.in1 (pyNext (.ref I) >>= _) _ _ s
  refine wpAny_bind (W.item i s _ _ hlt hst fun v s' hP hst' hm => ?_)
  obtain ⟨p, hp, rfl⟩ := val i v hP
  have kp' := up1 hm kp
  have hS' : SetW w s'.heap S L es ep t := hS.at (fun o e => hm.heap S o nS e) fun q m => (is0 q (List.mem_of_mem_take (g.sub q m))).keep kp'
  have hx : IsN s'.heap p.2 p.1 := (is0 p (List.mem_of_getElem? hp)).keep kp'
  show wpAny _ A.in1 (holding [Value.ref p.1] (setAdd S (.ref p.1)) >>= _) _ _ s'
  refine wpAny_bind (wpAny_holding ?_)
  unfold setAdd
  have room : A.in1.units + 8 < cLine := by rw [Around.in1_units]; omega
  refine wpAny_holding (wpAny_bind ((nestedKind P w).pyHash room hx ?_))
  refine addW (s := { s' with toks := s'.toks + p.2.draws }) hS' hx room (fun hno => ?_) fun b h' L' es' ep' t' hsb hS2 c1 c2 => ?_
  ·refine few (p :: L) ?_ fun q m => ?_
   ·rw [List.map_cons]; exact List.nodup_cons.mpr ⟨hno, hS.nd⟩
   ·rcases List.mem_cons.mp m with z | z
    ·rw [z]; exact List.mem_of_getElem? hp
    ·exact List.mem_of_mem_take (g.sub q z)
  have g' : GotN ks (i + 1) L' := by
   by_cases c : p.2 ∈ L.map (·.2)
   ·rw [c1 c]; exact g.old hp c
   ·exact g.new hp (c2 c)
  have kp2 : ∀ b o, h0.get? b = some o → h'.get? b = some o := fun b o e => (hsb.2 b (fun z => by rw [z, S0] at e; cases e)).trans (kp' b o e)
  refine wpAny_pure ⟨plainId_quiet F.plain_set_update_loop _, ih (i + 1) _ (by omega) hlt (W.frame _ s' _ _ hst' (Nat.le_add_right _ _) fun b q o e => ?_) kp2 ⟨L', es', ep', t', hS2, g'⟩ fun s'' L2 es2 ep2 t2 hm'' hS'' g'' kp'' => ?_⟩
  ·rw [hsb.2 b (fun h : b = S => nf (by rw [← h]; exact q))]; exact e
  ·refine hR s'' L2 es2 ep2 t2 (Moved.trans W.gtrans ((hm.mono sb0).then_heap (Nat.le_add_right _ _) fun b o q e => ?_) hm'') hS'' g'' kp''
   rw [hsb.2 b (fun h : b = S => q (by rw [h]; exact List.mem_cons_self))]; exact e
set_option maxHeartbeats 6400000 in
theorem set_keysW {l : Addr} {items : Array Value} (ks : LK) {Q : Value → Shared → Prop} (hh : A.handled = none) (hl : s.heap.IsList l items) (hit : items.toList = ks.map fun p => Value.ref p.1)
  (hk : ∀ p ∈ ks, IsN s.heap p.2 p.1) (few : FewW ks) (hu : A.units + 16 < cLine)
  (h : ∀ (h' : Heap) (tk : Nat) L es ep t, SetW w h' s.heap.objs.size L es ep t → GotN ks ks.length L → (∀ b o, s.heap.get? b = some o → h'.get? b = some o) → Q (.ref s.heap.objs.size) { s with heap := h', toks := tk }) :
  wpAny (model P w) A (call (.type "set") [.ref l]) Q E s := by
 have hz : items.size = ks.length := by
  have q := congrArg List.length hit
  rwa [Array.length_toList, List.length_map] at q
 obtain ⟨c, tl, hmro⟩ := F.called_set.mro
 have hmade := F.called_set.made
 have hsub := F.called_set.sub
 refine wpAny_call (codeAny_of_tree ?_)
 show wpAny _ _ (callAny (.type "set") _) _ _ _
 refine wpAny_pure ⟨Code.quiet_builtin _ (by decide +kernel), codeAny_builtin F.entry_type_call ?_⟩
 rw [Around.under_plain (weight_type_call_type "set" [.ref l] []) rfl]
 have h1 := F.called_set.notType
 have h2 := F.called_set.canCreate
 have hct := F.typeCall_set_1 (.ref l)
 repeat (any_goals (first | assumption | wp_step))
 refine codeAny_mono (code_set_led1 (.ref l) (E := E) (Q₁ := fun obj s₁ => obj = .ref s.heap.objs.size ∧ s₁ = { s with heap := s.heap.push (x5 w) }) ⟨rfl, rfl⟩) fun r s₁ hr => ?_
 cases r with
 | error e => exact hr
 | ok fl =>
  cases fl with
  | ret obj =>
   obtain ⟨rfl, rfl⟩ := hr
   have hS : (s.heap.push (x5 w)).get? s.heap.objs.size = some (x5 w) := Heap.get?_push_size _ rfl
   have hT : Shared.TypeIs { s with heap := s.heap.push (x5 w) } (.ref s.heap.objs.size) "set" := ⟨_, hS, rfl⟩
   have hli := F.called_set.init.lookup
   have hbi := F.called_set.init.bind (.ref s.heap.objs.size)
   repeat (any_goals (first | assumption | wp_step))
   refine codeAny_mono (codeAny_call_builtin (R := wants (fun r s₂ => r = .none ∧ ∃ h' tk L es ep t, s₂ = { s with heap := h', toks := tk } ∧ SetW w h' s.heap.objs.size L es ep t ∧ GotN ks ks.length L ∧
     (∀ b o, s.heap.get? b = some o → h'.get? b = some o)) E) F.called_set.init.plain F.entry_set_init (check_set_init_1 hT ?_)) fun r₂ s₂ hr₂ => ?_
   ·obtain ⟨ol, hol, hcl, nl, hdl⟩ := hl
    obtain ⟨ocls, odict, odata, oslots⟩ := ol
    simp only at hcl hdl
    subst hcl hdl
    have hol' : (s.heap.push (x5 w)).get? l = some { cls := .type "list", dict := odict, data := .seq items nl, slots := oslots } := Heap.get?_push_of_some _ hol
    have k1 := F.sub_list_set
    have k2 := F.sub_list_frozenset
    have k3 : (Value.type "list" == Value.type "dict") = false := by decide
    have hl1 : (s.heap.push (x5 w)).IsList l items := ⟨_, hol', rfl, nl, rfl⟩
    unfold Builtin.«set.__init__» noKeywords Builtin.Frozenset.updateFrom
    generalize hPI : pyIter = PI
    wp_walk
    subst hPI
    refine wpAny_pyIter_list hl1 (wpAny_bind (wpAny_runValue ?_))
    have hlS : l < s.heap.objs.size := Heap.lt_size hol
    have hh3 : A.in1.in1.in1.handled = none := by simp [hh]
    have sz1 : (s.heap.push (x5 w)).objs.size = s.heap.objs.size + 1 := Heap.size_push ..
    have hneI : l ≠ (s.heap.push (x5 w)).objs.size := by
     rw [sz1]; exact Nat.ne_of_lt (Nat.lt_succ_of_lt hlS)
    have hSf : s.heap.objs.size ∉ [(s.heap.push (x5 w)).objs.size, l] := by
     rw [sz1]
     intro z
     rcases List.mem_cons.mp z with z | z
     ·exact absurd z (Nat.ne_of_lt (Nat.lt_succ_self _))
     ·exact absurd (List.mem_singleton.mp z) (Nat.ne_of_gt hlS)
    have hval : ∀ (i : Nat) (v : Value), items[i]? = some v → ∃ p, ks[i]? = some p ∧ v = .ref p.1 := fun i v hv => by
     have q : items.toList[i]? = some v := by rw [Array.getElem?_toList]; exact hv
     rw [hit, List.getElem?_map] at q
     obtain ⟨p, e1, e2⟩ := Option.map_eq_some_iff.mp q
     exact ⟨p, e1, e2.symm⟩
    have gone : ∀ b, s.heap.objs.size ≤ b → s.heap.get? b = none := fun b hb => by
     cases q : s.heap.get? b with
     | none => rfl
     | some o => exact absurd (Nat.lt_of_lt_of_le (Heap.lt_size q) hb) (Nat.lt_irrefl _)
    refine updW ((Walks.list hh3 _ l hneI items).toS) s.heap.objs.size hSf ks hz few hval s.heap hk (gone _ (Nat.le_refl _)) (fun b hb => gone b (by rw [List.mem_singleton.mp hb, sz1]; omega)) (by simp only [Around.in1_units]; omega) (items.size - 0) 0 _ (by omega) (Nat.zero_le _) ⟨⟨_, Heap.get?_push_size _ rfl, rfl, rfl⟩, (hl1.push _)⟩
     (fun b o e => Heap.get?_push_of_some _ (Heap.get?_push_of_some _ e)) ?hS0 ?hR
    case hS0 =>
     exact ⟨[], #[], 0, _, setW_empty (Heap.get?_push_of_some _ hS), (fun p q => by cases q), (fun p q => by rw [List.take_zero] at q; cases q)⟩
    case hR =>
     intro s' L es ep t hm hS' g' kp
     obtain ⟨h', g2, d', tk', os'⟩ := s'
     obtain rfl : g2 = s.gens := hm.gens
     obtain rfl : d' = s.drawn := hm.drawn
     obtain rfl : os' = s.os := hm.os
     show wpAny _ _ _ _ _ _
     refine wpAny_pure ?_
     show wpAny _ _ (ret Value.none) _ _ _
     rw [hz] at g'
     exact wpAny_pure ⟨rfl, h', tk', L, es, ep, t, rfl, hS', g', kp⟩
   ·cases r₂ with
    | error e => exact hr₂
    | ok fl₂ =>
     cases fl₂ with
     | ret r =>
      obtain ⟨rfl, h', tk, L, es, ep, t, rfl, hS', g', hk'⟩ := hr₂
      repeat (any_goals (first | assumption | wp_step))
      exact h _ _ _ _ _ _ hS' g' hk'
     | _ => exact hr₂.elim
  | _ => exact hr.elim
end
end PL.TW
namespace PL
open PySem PySem.Spec PyProof.Rows L2 LW
def anyTup : PyData → Bool
 | .tuple _ => true
 | _ => false
structure GoodW (ds : List D) : Prop where
 sh : ∀ d ∈ ds, shp d = true
 ky : ∀ d ∈ ds, TN.keyable (py d) = true
 dp : ∀ d ∈ ds, (TN.keyP (py d)).depth ≤ 8
 tt : ∀ d ∈ ds, anyTup (py d) = true
 tp : (∀ d ∈ ds, consTup (py d) = true) ∨ (nubC ds).length ≤ 1
 al : ∀ d ∈ ds, ∀ e ∈ ds, PySem.W.alike (py d) (py e) = true
 ij : ∀ d ∈ ds, ∀ e ∈ ds, TN.keyP (py d) = TN.keyP (py e) → d = e
 ev : ∀ d ∈ ds, ∀ e ∈ ds, PyData.eqv (py d) (py e) = true → d = e
 fw : (nubC ds).length < 2000
theorem GoodW.anti {ds : List D} (g : GoodW ds) {a b : D} (ha : a ∈ ds) (hb : b ∈ ds) (h1 : dle a b = true) (h2 : dle b a = true) : a = b := by
 rw [qaj, Bool.not_eq_true'] at h1 h2
 exact g.ev a ha b hb (jam (g.al a ha b hb) (PyProof.Rows.lex_total _ _ h2 h1))
theorem GoodW.sort {ds es : List D} (g : GoodW ds) (nd : es.Nodup) (m : ∀ d, d ∈ es ↔ d ∈ ds) : es.mergeSort dle = ya6 ds := by
 have hp : es.Perm (nubC ds) := (List.perm_ext_iff_of_nodup nd (waf ds)).mpr fun k => (m k).trans mem_nubC.symm
 have hx : ∀ d ∈ es.mergeSort dle, d ∈ ds := fun d q => (m d).mp ((List.mergeSort_perm _ _).mem_iff.mp q)
 have hy : ∀ d ∈ (nubC ds).mergeSort dle, d ∈ ds := fun d q => mem_nubC.mp ((List.mergeSort_perm _ _).mem_iff.mp q)
 refine List.Perm.eq_of_pairwise (le := fun a b => dle a b = true) (fun a b m1 m2 => g.anti (hx a m1) (hy b m2)) ?_ ?_ ((List.mergeSort_perm _ _).trans (hp.trans (List.mergeSort_perm _ _).symm))
 ·exact List.pairwise_mergeSort (le := dle) (fun _ _ _ => va0) w7 es
 ·exact List.pairwise_mergeSort (le := dle) (fun _ _ _ => va0) w7 (nubC ds)
section
variable {P : Program} {w : World} {A : Around} {E : Value → Shared → Prop} {s : Shared} {a : Addr} {L : TN.LK} {es : Array (Int × Value)} {ep : Nat} {t : SetTable}
theorem kbl {Q : Value → Shared → Prop} (R : TW.SetW w s.heap a L es ep t) (hh : A.handled = none) (hu : A.units + 67 < cLine) {ds : List D} (g : GoodW ds) {Rv : Value → D → Prop}
  (rd : ∀ v d, Rv v d → d ∈ ds → ∃ as, Reads s.heap v (py d) as) (hL : ∀ p ∈ L, ∃ d ∈ ds, Rv (.ref p.1) d ∧ TN.keyP (py d) = p.2) (cov : ∀ d ∈ ds, TN.keyP (py d) ∈ L.map (·.2))
  (hQ : ∀ s' p (out : Array Value) (c : Nat), (∀ b o, s.heap.get? b = some o → s'.heap.get? b = some o) → s'.gens = s.gens → s'.os = s.os → s.heap.objs.size ≤ p →
   s'.heap.get? p = some (seqObj "list" out c) → EIs Rv out.toList (ya6 ds) → Q (.ref p) s') :
  wpAny (model P w) A (call (.builtin "sorted") [.ref a]) Q E s := by
 obtain ⟨o, ho, hex, hd⟩ := R.ob
 have hsz := TN.rowsN_size R.rw
 have hfw := R.fw
 have sb : scanBound = 4096 := rfl
 refine Calls.call_function_entry kind_sorted plain_sorted entry_sorted (args_sorted1 _) ?_
 unfold Builtin.«sorted»
 refine wpAny_bind (m := checkCount "sorted" 1 1 _) (wpAny_pure ?_)
 refine wpAny_bind (collect_set (A := A.in1) hh ⟨o, ho, hex.1, hd⟩ R.fits (by omega) R.tb.up R.led fun s1 vs k1 hz g1 o1 pm => ?_)
 have hes : es.toList.map (·.2) = L.map fun q => Value.ref q.1 := by
  rw [R.rw]
  unfold TN.rowsN
  rw [List.map_map]; rfl
 rw [hes] at pm
 have hvl : vs.length = L.length := by rw [pm.length_eq, List.length_map]
 have hperm : ∃ L1 : TN.LK, L1.Perm L ∧ vs = L1.map fun q => Value.ref q.1 := by
  have key : ∀ (M : TN.LK) (us : List Value), us.Perm (M.map fun q => Value.ref q.1) → ∃ L1 : TN.LK, L1.Perm M ∧ us = L1.map fun q => Value.ref q.1 := by
   intro M us
   induction us generalizing M with
   | nil => intro q; exact ⟨[], by have := q.length_eq; rw [List.length_map] at this; rw [List.length_eq_zero_iff.mp this.symm], rfl⟩
   | cons u us ih =>
    intro q
    obtain ⟨p, hp, e⟩ := List.mem_map.mp (q.mem_iff.mp List.mem_cons_self)
    obtain ⟨M1, M2, rfl⟩ := List.append_of_mem hp
    have q2 : us.Perm ((M1 ++ M2).map fun q => Value.ref q.1) := by
     refine (List.perm_cons u).mp (q.trans ?_)
     rw [List.map_append, List.map_cons, List.map_append, ← e]
     exact List.perm_middle
    obtain ⟨L1, h1, h2⟩ := ih _ q2
    exact ⟨p :: L1, (h1.cons p).trans List.perm_middle.symm, by rw [List.map_cons, ← h2, e]⟩
  exact key L vs pm
 obtain ⟨L1, pm1, ev⟩ := hperm
 obtain ⟨bs, hb⟩ := yat (R := fun (p : Addr × NestedKey) d => d ∈ ds ∧ Rv (.ref p.1) d ∧ TN.keyP (py d) = p.2) (vs := L1) fun p m => hL p (pm1.mem_iff.mp m)
 have hkeys : L1.map (·.2) = bs.map fun d => TN.keyP (py d) := each_eq (fun p d z => z.2.2.symm) hb
 have nd : (bs.map fun d => TN.keyP (py d)).Nodup := by rw [← hkeys]; exact (pm1.map (·.2)).nodup_iff.mpr R.nd
 have nd2 : bs.Nodup := List.Pairwise.of_map (fun d => TN.keyP (py d)) (fun x y ne e => ne (by rw [e])) nd
 have hsub : ∀ d ∈ bs, d ∈ ds := fun d m => by
  obtain ⟨p, _, z⟩ := zah hb d m
  exact z.1
 have hmem : ∀ d, d ∈ bs ↔ d ∈ ds := fun d => ⟨hsub d, fun m => by
  have := (pm1.map (·.2)).mem_iff.mpr (cov d m)
  rw [hkeys] at this
  obtain ⟨d', h1, h2⟩ := List.mem_map.mp this
  rw [← g.ij d' (hsub d' h1) d m h2]
  exact h1⟩
 have hE : EIs (fun v d => d ∈ ds ∧ Rv v d) vs bs := by
  rw [ev]
  have : ∀ {l : TN.LK} {b : List D}, EIs (fun (p : Addr × NestedKey) d => d ∈ ds ∧ Rv (.ref p.1) d ∧ TN.keyP (py d) = p.2) l b → EIs (fun v d => d ∈ ds ∧ Rv v d) (l.map fun q => Value.ref q.1) b := by
   intro l b h
   induction h with
   | nil => exact .nil
   | cons h _ ih => exact .cons ⟨h.1, h.2.1⟩ ih
  exact this hb
 have hlen : bs.length = L.length := by rw [← hb.length, pm1.length_eq]
 refine wpAny_bind (wpAny_newList ?_ (by rw [hvl, sizeLine_eq]; omega))
 have hoL : (s1.heap.push (seqObj "list" vs.toArray 0)).get? s1.heap.objs.size = some (seqObj "list" vs.toArray 0) := Heap.get?_push_size _ rfl
 have hal : PySem.W.AllAlike (bs.map py) := fun x hx y hy => by
  obtain ⟨d, h1, rfl⟩ := List.mem_map.mp hx
  obtain ⟨e, h2, rfl⟩ := List.mem_map.mp hy
  exact g.al d (hsub d h1) e (hsub e h2)
 have er : EIs (fun v b => ∃ as, Reads (PySem.W.sortingHeap (s1.heap.push (seqObj "list" vs.toArray 0)) s1.heap.objs.size vs) v (py b) as) vs bs := hE.mono fun v d ⟨m, r⟩ => by
  obtain ⟨as, z⟩ := rd v d r m
  refine ⟨as, PyProof.Rows.Reads.keeps (fun b u e => ?_) z⟩
  have e1 := k1 b u e
  exact PySem.W.sortingHeap_old (Nat.ne_of_lt (Heap.lt_size e1)) (Heap.get?_push_of_some _ e1)
 have hdep : ∀ b ∈ bs, A.in1.units + 1 + (py b).depth < cLine := fun b m => by
  have := zai (zay (g.sh b (hsub b m))).2
  simp only [Around.in1_units]
  omega
 have hdep2 : ∀ b ∈ bs, A.in1.in1.units + (py b).depth < cLine := fun b m => by have := hdep b m; simp only [Around.in1_units] at this ⊢; omega
 have hsrt : PySem.W.SortsAt P w A.in1.in1 { s1 with heap := PySem.W.sortingHeap (s1.heap.push (seqObj "list" vs.toArray 0)) s1.heap.objs.size vs } (PySem.W.dataKind (PySem.W.sortingHeap (s1.heap.push (seqObj "list" vs.toArray 0)) s1.heap.objs.size vs) (bs.map py)) vs := by
  have eM := PySem.W.each_map (R := fun v d => ∃ as, Reads (PySem.W.sortingHeap (s1.heap.push (seqObj "list" vs.toArray 0)) s1.heap.objs.size vs) v d as) py er
  rcases g.tp with tp | tp
  ·refine PySem.W.SortsAt.data (s := { s1 with heap := PySem.W.sortingHeap (s1.heap.push (seqObj "list" vs.toArray 0)) s1.heap.objs.size vs }) eM hal (.inl fun x hx => ?_) (PySem.W.bound_map hdep2)
   obtain ⟨d, h1, rfl⟩ := List.mem_map.mp hx
   have := tp d (hsub d h1)
   cases q : py d with
   | tuple l => cases l with
    | nil => rw [q] at this; cases this
    | cons x r => exact ⟨x, r, rfl⟩
   | _ => rw [q] at this; cases this
  ·have hl1 : bs.length ≤ 1 := Nat.le_trans (@SX.nodup_len _ (Classical.typeDecidableEq D) _ _ nd2 fun d m => mem_nubC.mpr (hsub d m)) tp
   refine sorts_few (s := { s1 with heap := PySem.W.sortingHeap (s1.heap.push (seqObj "list" vs.toArray 0)) s1.heap.objs.size vs }) eM hal ⟨by rw [List.length_map]; exact hl1, fun x hx => ?_⟩ (PySem.W.bound_map hdep2)
   obtain ⟨d, h1, rfl⟩ := List.mem_map.mp hx
   have := g.tt d (hsub d h1)
   intro e
   rw [e] at this; cases this
 refine wpAny_bind (wpAny_holding (wpAny_call_entry slot_list_sort ⟨_, hoL, rfl⟩ entry_list_sort (PySem.W.list_sort_vals (κ := PySem.W.dataKind (PySem.W.sortingHeap (s1.heap.push (seqObj "list" vs.toArray 0)) s1.heap.objs.size vs) (bs.map py)) hoL
  hsrt
  (by rw [hvl, sizeLine_eq]; omega) ⟨.none, rfl, ?_⟩) (args_list_sort _)))
 have eo := PySem.W.sortVals_data (R := fun v d => d ∈ ds ∧ Rv v d) false hE er hal
 have eo2 : EIs (fun v d => d ∈ ds ∧ Rv v d) _ (bs.mergeSort dle) := eo
 rw [g.sort nd2 hmem] at eo2
 generalize PySem.W.sortVals (PySem.W.dataKind (PySem.W.sortingHeap (s1.heap.push (seqObj "list" vs.toArray 0)) s1.heap.objs.size vs) (bs.map py)) false vs vs = out at eo2 ⊢
 obtain ⟨c, hc⟩ := sortedHeap_at (vs := vs) (out := out.toArray) hoL
 refine wpAny_pure ⟨_, rfl, ?_⟩
 refine hQ _ s1.heap.objs.size out.toArray c (fun b u e => ?_) g1 o1 hz hc (by simpa using eo2.mono fun v d z => z.2)
 have q := k1 b u e
 have hlt := Heap.lt_size q
 show (sortedHeap (s1.heap.push (seqObj "list" vs.toArray 0)) s1.heap.objs.size vs out.toArray).get? b = some u
 rw [sortedHeap_old (Nat.ne_of_lt hlt) (by rw [size_push']; exact Nat.lt_succ_of_lt hlt)]
 exact Heap.get?_push_of_some _ q
end
end PL
namespace PL
open PySem PySem.Spec PyProof.Rows L2
def tSortW (K : PySem.W.Frag) (ta : TE) : TE := fun σ H Q => ta σ H fun x H1 => ∃ (l : Addr) (xs : List V) (bs : List D) (R : V → D → Prop), x = .ref l ∧ SqL K H1 l xs ∧ EIs R xs bs ∧ (∀ x d, R x d → d ∈ bs → Dp K H1 x (py d)) ∧ GoodW bs ∧
 ∀ ys p, EIs R ys (ya6 bs) → H1 p = none → Q (.ref p) (upd H1 p (.lst ys))
theorem few_lkW {R : Addr → D → Prop} {ks : TN.LK} {bs : List D} (g : GoodW bs) (h : EIs (fun (p : Addr × NestedKey) d => R p.1 d ∧ p.2 = TN.keyP (py d)) ks bs) : TW.FewW ks := fun L nd sub => by
 have e : L.length ≤ ((nubC bs).map fun d => TN.keyP (py d)).length := by
  rw [← List.length_map (f := fun p : Addr × NestedKey => p.2) (as := L)]
  refine SX.nodup_len nd fun k m => ?_
  obtain ⟨p, hp, rfl⟩ := List.mem_map.mp m
  obtain ⟨d, hd, _, e⟩ := h.left p (sub p hp)
  exact List.mem_map.mpr ⟨d, mem_nubC.mpr hd, e.symm⟩
 rw [List.length_map] at e
 have := g.fw
 omega
theorem pe_sortW {X : Cx} {a : Expr} {ta : TE} {p p2 q pos : Pos} (hu : X.A.units + 67 < cLine) (hc : X.calm = true) (hg : Gl X "sorted") (hm : X.mg "sorted" = none) (hg2 : Gl X "set") (hm2 : X.mg "set" = none) (ha : PE X a ta) (na : starEach [a] X.env = (false, eval a X.env) :: starEach [] X.env) :
  PE X (.Call (.Name "sorted" p) [.Call (.Name "set" p2) [a] [] q] [] pos) (tSortW X.K ta) := by
 refine ⟨fun pins s σ H Q I h => ?_⟩
 refine Call_ (ld_blt I hg hm boot_sorted (PyProof.Rows.callWith_builtin1 (PyProof.Rows.args_cons ?_ rfl) rfl rfl))
 refine Call_ (ld_blt I hg2 hm2 boot_set ?_)
 refine PyProof.Rows.callWith_type1 (PyProof.Rows.args_cons (thn (ha.run pins s σ H _ I h) fun v s1 ⟨x, H1, I1, r1, l, xs, bs, R, e1, hq, hb, hd, g, q1⟩ => PyProof.Rows.args_nil ?_) na) na rfl
 subst e1
 cases r1
 obtain ⟨its, r, pl, hz⟩ := I1.list hq
 have e0 := PySem.W.each_mem (each_comp r hb)
 have e1 : EIs (fun v d => ∃ a, v = Value.ref a ∧ ∃ x, RelV x (Value.ref a) ∧ R x d ∧ d ∈ bs) its bs := e0.mono fun v d ⟨⟨x, h1, h2⟩, m⟩ => by
  have hD := hd x d h2 m
  have ht := g.tt d m
  cases q : py d with
  | tuple ds =>
   rw [q] at hD
   cases hD with
   | tup _ _ => exact ⟨_, h1, .ref _, rfl, h2, m⟩
  | _ => rw [q] at ht; cases ht
 obtain ⟨ks, k1, k2⟩ := refs_lk e1
 have isN : ∀ {s : Shared}, Inv X pins σ H1 s → ∀ p ∈ ks, TN.IsN s.heap p.2 p.1 := fun J p hp => by
  obtain ⟨d, hd1, ⟨x, h1, h2, h3⟩, e⟩ := k2.left p hp
  rw [e]
  exact ⟨TN.dp_key J (py d) x _ (g.ky d h3) (hd x d h2 h3) h1, g.dp d h3⟩
 refine TW.set_keysW (P := X.prog) (w := X.w) ks (I1.ok.hd hc) pl.isList (by simpa using k1) (isN I1) (few_lkW (R := fun a d => ∃ x, RelV x (Value.ref a) ∧ R x d ∧ d ∈ bs) g k2) (by omega) fun h' tk L es ep t hS hG hk => PyProof.Rows.args_nil ?_
 have I2 : Inv X pins σ H1 { s1 with heap := h', toks := tk } := I1.kept fun b o e => hk b o e
 have hS2 : TW.SetW X.w ({ s1 with heap := h', toks := tk } : Shared).heap s1.heap.objs.size L es ep t := hS
 generalize ({ s1 with heap := h', toks := tk } : Shared) = s2 at I2 hS2 ⊢
 have hsub : ∀ p ∈ L, p ∈ ks := fun p m => List.mem_of_mem_take (hG.sub p m)
 refine kbl (P := X.prog) (A := X.A) hS2 (I2.ok.hd hc) (by omega) g (Rv := fun v d => ∃ x, RelV x v ∧ R x d) (fun v d ⟨x, h1, h2⟩ m => Dp.reads I2 (py d) x v (hd x d h2 m) h1) (fun p m => ?_) (fun d m => ?_) fun s' p out c k g' o hp hgt hst => ?_
 ·obtain ⟨d, hd1, ⟨x, h1, h2, h3⟩, e⟩ := k2.left p (hsub p m)
  exact ⟨d, h3, ⟨x, h1, h2⟩, e.symm⟩
 ·obtain ⟨p, hp, _, e⟩ := zah k2 d m
  rw [← e]
  exact hG.all p (by rw [List.take_length]; exact hp)
 obtain ⟨ys, y1, y2⟩ := each_back hst
 have hlen : ys.length ≤ sizeLine := by
  have h1 := y2.length
  rw [sortN_len] at h1
  have := g.fw
  rw [sizeLine_eq]
  omega
 have hn : H1 p = none := I2.hok.fresh hp
 have J : Inv X pins σ (upd H1 p (.lst ys)) { s2 with heap := s'.heap, gens := s'.gens, drawn := s'.drawn, toks := s'.toks } :=
  I2.call (ch := []) (Un.laid k hp hn) (I2.hok.laid k hp ⟨hlen, out.toList, c, y1, hgt⟩) (by rw [g']; exact I2.bare) (fun _ z => nomatch z)
 have e : s' = { s2 with heap := s'.heap, gens := s'.gens, drawn := s'.drawn, toks := s'.toks } := by
  cases s'
  cases s2
  cases o
  rfl
 rw [e]
 exact ⟨.ref p, _, J, rfl, q1 ys p y2 hn⟩
open Classical in
noncomputable def war : D → Option Rv
 | .lst ds => if GoodW ds then some (.new (.lst (ya6 ds))) else none
 | _ => none
theorem ybf {ds : List D} (g : GoodW ds) : war (.lst ds) = some (.new (.lst (ya6 ds))) := if_pos g
theorem sd_sortW {K : PySem.W.Frag} {W : WX} {ta : TE} {fa : PL.P Rv} (ha : Sd K W (VRel K) ta fa) : Sd K W (VRel K) (tSortW K ta) (fUn war fa) := by
 refine sd_un (r := fun x H1 Q => ∃ (l : Addr) (xs : List V) (bs : List D) (R : V → D → Prop), x = .ref l ∧ SqL K H1 l xs ∧ EIs R xs bs ∧ (∀ x d, R x d → d ∈ bs → Dp K H1 x (py d)) ∧ GoodW bs ∧
  ∀ ys p, EIs R ys (ya6 bs) → H1 p = none → Q (.ref p) (upd H1 p (.lst ys))) ?_ ha
 intro C H e dx x rv Q h hx g
 cases dx with
 | lst ds =>
  obtain ⟨a, vs, rfl, h1, h2⟩ := hx
  have h3 : GoodW ds := Classical.byContradiction fun c => by
   rw [show war (.lst ds) = none from if_neg c] at h
   cases h
  rw [ybf h3] at h
  cases h
  exact ⟨a, vs, ds, fun x d => Is K C d x, rfl, SqL.of h1, iss_each h2, fun x d r m => xar e d x _ (zay (h3.sh d m)).1 r, h3, fun ys p k hp => g.lst e (each_iss k) hp⟩
 | _ => cases h
section
variable {ι : Type} {X : ι → Cx} {P : Program} {w : World} {K : PySem.W.Frag} {mg : Str → Option Value} {base : Heap} {k : Nat} {W : WX} {N : List Str} {sc : Scope} {a : Expr} {fa : PL.P Rv} {p p2 q pos : Pos}
theorem be_sortW (B : CtxOk X P w K mg base k W N sc) (hm : mg "sorted" = none) (hm2 : mg "set" = none) (ha : BE X K W a fa) (hg : sc.names.lookup ("sorted" : Str) = some .globalImplicit := by rfl) (hg2 : sc.names.lookup ("set" : Str) = some .globalImplicit := by rfl) (na : ∀ i, starEach [a] (X i).env = (false, eval a (X i).env) :: starEach [] (X i).env := by intro _; rfl) :
  BE X K W (.Call (.Name "sorted" p) [.Call (.Name "set" p2) [a] [] q] [] pos) (fUn war fa) := by
 obtain ⟨t, pa, sa⟩ := ha
 exact ⟨_, fun i => by have := @pe_sortW (X i) a t p p2 q pos (by have := B.u64 i; omega) (B.calm i) (B.gl hg i) (by rw [B.pm i]; exact hm) (B.gl hg2 i) (by rw [B.pm i]; exact hm2) (pa i) (na i); rw [B.pK i] at this; exact this, sd_sortW sa⟩
end
end PL
namespace LW
open PySem L2 PL
def topS (i : Nat) : Stmt := PySem.Challenge.pw_wishwords_k18_laid_by_number.main.body.getD i (.Pass ⟨0, 0, 0, 0⟩)
def clsS (i j : Nat) : Stmt := (C8.clsBody (topS i)).getD j (.Pass ⟨0, 0, 0, 0⟩)
abbrev c_LETTERS : V := .str "abcdefghijklmnopqrstuvwxyz"
abbrev c_MOST_OTHERS : V := .int 4
abbrev c_MOST_WISHES : V := .int 5
abbrev c_OFTENS : List Str := ["one", "maybe", "some", "any"]
structure Ads where
 P : Program
 w : World
 K : W.Frag
 c_Kind : Addr
 c_AnyWord : Addr
 c_Wish : Addr
 c_Place : Addr
 c_Table : Addr
 cT : Addr
 pT : Addr
 nd : [c_Kind, c_AnyWord, c_Wish, c_Place, c_Table].Nodup
 kit_AnyWord_Kind : W.kitOne K (.ref c_AnyWord) (.ref c_Kind) = some true
 kit_Place_Kind : W.kitOne K (.ref c_Place) (.ref c_Kind) = some false
 kit_Table_Kind : W.kitOne K (.ref c_Table) (.ref c_Kind) = some false
 kit_NoneType_Kind : W.kitOne K (.type "NoneType") (.ref c_Kind) = some false
 kit_bool_Kind : W.kitOne K (.type "bool") (.ref c_Kind) = some false
 kit_int_Kind : W.kitOne K (.type "int") (.ref c_Kind) = some false
 kit_str_Kind : W.kitOne K (.type "str") (.ref c_Kind) = some false
 kit_tuple_Kind : W.kitOne K (.type "tuple") (.ref c_Kind) = some false
 kit_list_Kind : W.kitOne K (.type "list") (.ref c_Kind) = some false
 kit_AnyWord_Wish : W.kitOne K (.ref c_AnyWord) (.ref c_Wish) = some false
 kit_Place_Wish : W.kitOne K (.ref c_Place) (.ref c_Wish) = some false
 kit_Table_Wish : W.kitOne K (.ref c_Table) (.ref c_Wish) = some false
 kit_NoneType_Wish : W.kitOne K (.type "NoneType") (.ref c_Wish) = some false
 kit_bool_Wish : W.kitOne K (.type "bool") (.ref c_Wish) = some false
 kit_int_Wish : W.kitOne K (.type "int") (.ref c_Wish) = some false
 kit_str_Wish : W.kitOne K (.type "str") (.ref c_Wish) = some false
 kit_tuple_Wish : W.kitOne K (.type "tuple") (.ref c_Wish) = some false
 kit_list_Wish : W.kitOne K (.type "list") (.ref c_Wish) = some false
 kit_AnyWord_Place : W.kitOne K (.ref c_AnyWord) (.ref c_Place) = some false
 kit_Place_Place : W.kitOne K (.ref c_Place) (.ref c_Place) = some true
 kit_Table_Place : W.kitOne K (.ref c_Table) (.ref c_Place) = some false
 kit_NoneType_Place : W.kitOne K (.type "NoneType") (.ref c_Place) = some false
 kit_bool_Place : W.kitOne K (.type "bool") (.ref c_Place) = some false
 kit_int_Place : W.kitOne K (.type "int") (.ref c_Place) = some false
 kit_str_Place : W.kitOne K (.type "str") (.ref c_Place) = some false
 kit_tuple_Place : W.kitOne K (.type "tuple") (.ref c_Place) = some false
 kit_list_Place : W.kitOne K (.type "list") (.ref c_Place) = some false
 kit_AnyWord_bool : W.kitOne K (.ref c_AnyWord) (.type "bool") = some false
 kit_AnyWord_str : W.kitOne K (.ref c_AnyWord) (.type "str") = some false
 kit_AnyWord_tuple : W.kitOne K (.ref c_AnyWord) (.type "tuple") = some false
 kit_Place_bool : W.kitOne K (.ref c_Place) (.type "bool") = some false
 kit_Place_str : W.kitOne K (.ref c_Place) (.type "str") = some false
 kit_Place_tuple : W.kitOne K (.ref c_Place) (.type "tuple") = some false
 kit_Table_bool : W.kitOne K (.ref c_Table) (.type "bool") = some false
 kit_Table_str : W.kitOne K (.ref c_Table) (.type "str") = some false
 kit_Table_tuple : W.kitOne K (.ref c_Table) (.type "tuple") = some false
def Ads.cs (A : Ads) : List Addr := [A.c_AnyWord, A.c_Place, A.c_Table]
def Ads.xs (A : Ads) : List Addr := []
def ybc (A : Ads) : List Addr := [A.c_Table]
def zm (A : Ads) : List Addr := [A.c_Place]
def zw (A : Ads) : List Addr := []
def cs_many (A : Ads) : List Addr := []
def cs_may (A : Ads) : List Addr := []
def cs_must (A : Ads) : List Addr := []
def ki (A : Ads) : List Addr := [A.c_Place]
def kap (A : Ads) : List Addr := [A.c_Table]
def vi (A : Ads) : List Addr := [A.c_Place]
def jf (A : Ads) : List Addr := [A.c_Table]
def jae (A : Ads) : List Addr := [A.c_Table]
abbrev kas (A : Ads) : D := .obj A.c_AnyWord []
abbrev ka8 (A : Ads) (x_name x_kind x_often : D) : D := .obj A.c_Place [("name", x_name), ("kind", x_kind), ("often", x_often)]
abbrev o_Table (A : Ads) (x_wishes x_places x_bars x_needs : D) : D := .obj A.c_Table [("wishes", x_wishes), ("places", x_places), ("bars", x_bars), ("needs", x_needs)]
noncomputable def jaw (A : Ads) : PL.P Fl :=
 (sRet (fOp inD (fUn (fldD (vi A) "often") (fVar 0)) (fTup (jb (fC (.s (.str "some"))) (jb (fC (.s (.str "any"))) vNil)))))
noncomputable def zr (A : Ads) : PL.P Rv := runF [0] 1 (jaw A)
noncomputable def ka1 (A : Ads) : PL.P Fl :=
 (sRet (fOp inD (fUn (fldD (vi A) "often") (fVar 0)) (fTup (jb (fC (.s (.str "maybe"))) (jb (fC (.s (.str "any"))) vNil)))))
noncomputable def yp (A : Ads) : PL.P Rv := runF [0] 1 (ka1 A)
noncomputable def kx (A : Ads) : PL.P Fl :=
 (sRet (fC (.s (.bl true))))
noncomputable def yh (A : Ads) : PL.P Rv := runF [0, 1] 2 (kx A)
noncomputable def zf (A : Ads) : List (Addr × PL.P Rv) := [(A.c_AnyWord, yh A)]
noncomputable def xaj (A : Ads) : PL.P Fl :=
 (sSeq (yaa 3 (fLst vNil))
 (sSeq (sIf (fAnd (yd (fOp geD (fVar 1) (fC (.s (.int 0))))) (fAnd (yd (zc 1 (zr A) (uD (fOp ixD (fUn (fldD (jf A) "places") (fVar 0)) (fVar 1)) uNil))) (yd (fMeth "holds" 2 (zf A) (fUn (fldD (zm A) "kind") (fOp ixD (fUn (fldD (jf A) "places") (fVar 0)) (fVar 1))) (uD (fVar 2) uNil)))))
 (jak (x7 3 (fVar 1)))
 wm)
 (sSeq (sFor (fRng2 (zd (fOp addD (fVar 1) (fC (.s (.int 1)))) (zd (fCB lenD (zd (fUn (fldD (jf A) "places") (fVar 0)) fNil)) fNil))) (aN 4)
 (sSeq (sIf (yd (fMeth "holds" 2 (zf A) (fUn (fldD (zm A) "kind") (fOp ixD (fUn (fldD (jf A) "places") (fVar 0)) (fVar 4))) (uD (fVar 2) uNil)))
 (jak (x7 3 (fVar 4)))
 wm)
 (sIf (fNot (yd (zc 1 (yp A) (uD (fOp ixD (fUn (fldD (jf A) "places") (fVar 0)) (fVar 4)) uNil))))
 (sRet (fVar 3))
 wm)))
 (sRet (fVar 3)))))
noncomputable def jg (A : Ads) : PL.P Rv := runF [0, 1, 2] 5 (xaj A)
noncomputable def qaw (A : Ads) : PL.P Fl :=
 (sRet (fCB allD (zd (ko [2] (qr (fSl (fUn (fldD (jf A) "places") (fVar 0)) (zAt (fOp addD (fVar 1) (fC (.s (.int 1))))) zNo)) (aN 2) fYes (zc 1 (yp A) (uD (fVar 2) uNil))) fNil)))
noncomputable def ym (A : Ads) : PL.P Rv := runF [0, 1] 3 (qaw A)
noncomputable def wbj (A : Ads) : PL.P Fl :=
 (sRet (fIf (yd (fOp neD (fVar 0) (fTup vNil))) (fOp ixD (fVar 0) (fUn negD (fC (.s (.int 1))))) (fUn negD (fC (.s (.int 1))))))
noncomputable def qq (A : Ads) : PL.P Rv := runF [0] 1 (wbj A)
noncomputable def b_lays (A : Ads) : PL.P Fl :=
 (sSeq (sSet 2 (fLst (jb (fTup vNil) vNil)))
 (sSeq (sFor (qr (fVar 1)) (aN 3)
 (sSeq (yaa 4 (fLst vNil))
 (sSeq (sFor (qr (fVar 2)) (aN 5)
 (jak (qah 4 (ko [6] (qr (zc 3 (jg A) (uD (fVar 0) (uD (zc 1 (qq A) (uD (fVar 5) uNil)) (uD (fVar 3) uNil))))) (aN 6) fYes (fOp addD (fVar 5) (fTup (jb (fVar 6) vNil)))))))
 (sSet 2 (fVar 4)))))
 (sRet (ko [5] (qr (fVar 2)) (aN 5) (yd (zc 2 (ym A) (uD (fVar 0) (uD (zc 1 (qq A) (uD (fVar 5) uNil)) uNil)))) (fVar 5)))))
noncomputable def F_lays (A : Ads) : PL.P Rv := runF [0, 1] 7 (b_lays A)
noncomputable def zaw (A : Ads) : PL.P Fl :=
 (sSeq (yaa 2 (fDisp (pCons (fKy (fUn negD (fC (.s (.int 1))))) (fC (.s (.int 1))) pNil)))
 (sSeq (sFor (qr (fVar 1)) (aN 3)
 (sSeq (yaa 4 fDNewK)
 (sSeq (sFor (ja0 (fVar 2)) (aT 2 (jai (aN 5) (jai (aN 6) aNil)))
 (sFor (qr (zc 3 (jg A) (uD (fVar 0) (uD (fVar 5) (uD (fVar 3) uNil))))) (aN 7)
 (xay 4 (fKy (fVar 7)) (fOp addD (za0 (fVar 4) (fKy (fVar 7)) (fC (.s (.int 0)))) (fVar 6)))))
 (sMove 2 4))))
 (sRet (fCB sumD (zd (ko [5, 6] (ja0 (fVar 2)) (aT 2 (jai (aN 5) (jai (aN 6) aNil))) (yd (zc 2 (ym A) (uD (fVar 0) (uD (fVar 5) uNil)))) (fVar 6)) fNil)))))
noncomputable def xr (A : Ads) : PL.P Rv := runF [0, 1] 8 (zaw A)
noncomputable def vaj (A : Ads) : PL.P Fl :=
 (sSeq (jas (ki A) 0 "name" (fVar 1))
 (sSeq (jas (zm A) 0 "kind" (fVar 2))
 (jas (vi A) 0 "often" (fVar 3))))
noncomputable def yx (A : Ads) : PL.P Rv := runF [0, 1, 2, 3] 4 (vaj A)
noncomputable def qaf (A : Ads) : PL.P Fl :=
 (sRet (v7 (fCB (isiD A.K A.cs) (zd (fVar 0) (zd (fC (.s (.ty "str"))) fNil))) (v7 (vat leD leD (fVar 1) (fCB lenD (zd (fVar 0) fNil)) (fVar 2)) (fOp eqD (fM1 zbf (fVar 0) (fC (.s c_LETTERS))) (fC (.s (.str "")))))))
noncomputable def vh (A : Ads) : PL.P Rv := runF [0, 1, 2] 3 (qaf A)
noncomputable def qa2 (A : Ads) : PL.P Fl :=
 (sRet (v7 (zc 3 (vh A) (uD (fUn (fldD (ki A) "name") (fVar 0)) (uD (fC (.s (.int 2))) (uD (fC (.s (.int 8))) uNil)))) (fOp xbh (fUn (fldD (ki A) "name") (fVar 0)) (fVar 1))))
noncomputable def jq (A : Ads) : PL.P Rv := runF [0, 1] 2 (qa2 A)
noncomputable def b_is_wish (A : Ads) : PL.P Fl :=
 (sSeq (sIf (fOr (fNot (yd (fCB (isiD A.K A.cs) (zd (fVar 0) (zd (fC (.s (.ref A.c_Wish))) fNil))))) (fNot (yd (zc 2 (jq A) (uD (fVar 0) (uD (ko [2] (qr (fVar 1)) (aN 2) fYes (fUn (fldD (ki A) "name") (fVar 2))) uNil))))))
 (sRet (fC (.s (.bl false))))
 wm)
 (sSeq (sIf (yd (fOp kaz (fUn (fldD (zw A) "letter") (fVar 0)) (fC (.s .non))))
 (sIf (fOr (fNot (yd (zc 3 (vh A) (uD (fUn (fldD (zw A) "letter") (fVar 0)) (uD (fC (.s (.int 1))) (uD (fC (.s (.int 1))) uNil)))))) (yd (fOp inD (fUn (fldD (zw A) "letter") (fVar 0)) (ko [2] (qr (fVar 1)) (aN 2) fYes (fUn (fldD (zw A) "letter") (fVar 2))))))
 (sRet (fC (.s (.bl false))))
 wm)
 wm)
 (sSeq (sIf (fNot (yd (fCB allD (zd (ko [3] (qr (fTup (jb (fUn (fldD (cs_may A) "may") (fVar 0)) (jb (fUn (fldD (cs_many A) "many") (fVar 0)) (jb (fUn (fldD (cs_must A) "must") (fVar 0)) vNil))))) (aN 3) fYes (fCB (isiD A.K A.cs) (zd (fVar 3) (zd (fC (.s (.ty "bool"))) fNil)))) fNil))))
 (sRet (fC (.s (.bl false))))
 wm)
 (sRet (fOrV (fCB (isiD A.K A.cs) (zd (fUn (fldD (zm A) "kind") (fVar 0)) (zd (fC (.s (.ref A.c_Kind))) fNil))) (v7 (fOp isD (fUn (fldD (zm A) "kind") (fVar 0)) (fC (.s .non))) (fNotV (fUn (fldD (cs_may A) "may") (fVar 0)))))))))
noncomputable def waw (A : Ads) : PL.P Rv := runF [0, 1] 4 (b_is_wish A)
noncomputable def wa1 (A : Ads) : PL.P Fl :=
 (sSeq (sIf (fOr (fNot (yd (fCB (isiD A.K A.cs) (zd (fVar 0) (zd (fC (.s (.ref A.c_Place))) fNil))))) (fNot (yd (zc 2 (jq A) (uD (fVar 0) (uD (fVar 1) uNil))))))
 (sRet (fC (.s (.bl false))))
 wm)
 (sRet (v7 (fCB (isiD A.K A.cs) (zd (fUn (fldD (zm A) "kind") (fVar 0)) (zd (fC (.s (.ref A.c_Kind))) fNil))) (v7 (fCB (isiD A.K A.cs) (zd (fUn (fldD (vi A) "often") (fVar 0)) (zd (fC (.s (.ty "str"))) fNil))) (fOp inD (fUn (fldD (vi A) "often") (fVar 0)) (fC (.tup (c_OFTENS.map fun y => .s (.str y)))))))))
noncomputable def wz (A : Ads) : PL.P Rv := runF [0, 1] 2 (wa1 A)
noncomputable def b_is_pair (A : Ads) : PL.P Fl :=
 (sSeq (sIf (fOr (fNot (yd (fCB (isiD A.K A.cs) (zd (fVar 0) (zd (fC (.s (.ty "tuple"))) fNil))))) (yd (fOp neD (fCB lenD (zd (fVar 0) fNil)) (fC (.s (.int 2))))))
 (sRet (fC (.s (.bl false))))
 wm)
 (sRet (v7 (fOp inD (fOp ixD (fVar 0) (fC (.s (.int 0)))) (fVar 1)) (v7 (fOp inD (fOp ixD (fVar 0) (fC (.s (.int 1)))) (fVar 1)) (fOp neD (fOp ixD (fVar 0) (fC (.s (.int 0)))) (fOp ixD (fVar 0) (fC (.s (.int 1)))))))))
noncomputable def qax (A : Ads) : PL.P Rv := runF [0, 1] 2 (b_is_pair A)
noncomputable def j8 (A : Ads) (act : PL.P (List PL.Arg) → PL.P Rv) : PL.P Fl :=
 (sSeq (sIf (fNot (yd (fCB (isiD A.K A.cs) (zd (fVar 1) (zd (fC (.s (.ty "tuple"))) fNil)))))
 PL.P.fail
 wm)
 (sFor (kbi (jb (fVar 1) vNil)) (aT 2 (jai (aN 4) (jai (aN 5) aNil)))
 (sIf (fOr (yd (fOp eqD (fVar 4) (fVar 2))) (fNot (yd (act (uD (fVar 5) (uD (fSl (fVar 1) zNo (zAt (fVar 4))) uNil))))))
 PL.P.fail
 wm)))
noncomputable def zg (A : Ads) (act : PL.P (List PL.Arg) → PL.P Rv) : PL.P Rv := runF [0, 1, 2, 3] 6 (j8 A act)
noncomputable def qm (A : Ads) : List D → Option (Option Exn) := npOk fun d ahead => kax (waw A) [.dat d, .dat (.tup ahead)]
noncomputable def yo (A : Ads) : PL.P Rv := runF [] 4 (sRet (zc 2 (wz A) (uD (fVar 0) (uD (fOp addD (fVar 2) (ko [3] (qr (fVar 1)) (aN 3) fYes (fUn (fldD (ki A) "name") (fVar 3)))) uNil))))
noncomputable def wd (A : Ads) (nm : D) : List D → Option (Option Exn) := npOk fun d ahead => kax (yo A) [.dat d, .dat (.tup ahead), .dat nm]
noncomputable def y6 (A : Ads) : PL.P Rv := runF [] 3 (sRet (v7 (zc 2 (qax A) (uD (fVar 0) (uD (fVar 2) uNil))) (v7 (fOp qag (fVar 0) (fVar 1)) (fOp qag (fRevT (fVar 0)) (fVar 1)))))
noncomputable def qf (A : Ads) (nm : D) : List D → Option (Option Exn) := npOk fun d ahead => kax (y6 A) [.dat d, .dat (.tup ahead), .dat nm]
noncomputable def x6 (A : Ads) : PL.P Rv := runF [] 3 (sRet (v7 (zc 2 (qax A) (uD (fVar 0) (uD (fVar 2) uNil))) (fOp qag (fVar 0) (fVar 1))))
noncomputable def we (A : Ads) (nm : D) : List D → Option (Option Exn) := npOk fun d ahead => kax (x6 A) [.dat d, .dat (.tup ahead), .dat nm]
noncomputable def kaj (A : Ads) : PL.P Fl :=
 (sSeq (jak (fPart (qm A) (jb (fC (.s (.str "wishes"))) (jb (fVar 1) (jb (fC (.s c_MOST_WISHES)) vNil)))))
 (sSeq (sSet 5 (ko [6] (qr (fVar 1)) (aN 6) fYes (fUn (fldD (ki A) "name") (fVar 6))))
 (sSeq (jak (qa0 5 (wd A) (jb (fC (.s (.str "places"))) (jb (fVar 2) (jb (fC (.s c_MOST_OTHERS)) vNil)))))
 (sSeq (jak (qa0 5 (qf A) (jb (fC (.s (.str "bars"))) (jb (fVar 3) (jb (fC (.s c_MOST_OTHERS)) vNil)))))
 (sSeq (jak (qa0 5 (we A) (jb (fC (.s (.str "needs"))) (jb (fVar 4) (jb (fC (.s c_MOST_OTHERS)) vNil)))))
 (sSeq (jas (jae A) 0 "wishes" (fVar 1))
 (sSeq (jas (jf A) 0 "places" (fVar 2))
 (sSeq (jas (ybc A) 0 "bars" (fVar 3))
 (jas (kap A) 0 "needs" (fVar 4))))))))))
noncomputable def jo (A : Ads) : PL.P Rv := runF [0, 1, 2, 3, 4] 7 (kaj A)
noncomputable def qbk (A : Ads) : PL.P Fl :=
 (sSeq (sSet 2 (fOp modD (fOp zak (fOp addD (fOp addD (fVar 0) (fOp zak (fC (.s (.int 7919))) (fVar 1))) (fC (.s (.int 11)))) (fC (.s (.int 48271)))) (fC (.s (.int 2147483647)))))
 (sRet (fOp modD (fOp addD (fOp zak (fVar 2) (fVar 2)) (fOp zak (fC (.s (.int 40692))) (fVar 2))) (fC (.s (.int 2147483399))))))
noncomputable def vx (A : Ads) : PL.P Rv := runF [0, 1] 3 (qbk A)
noncomputable def xaw (A : Ads) : PL.P Fl :=
 (sSeq (sSet 2 (fC (.s (.int 0))))
 (sSeq (sIf (yd (fOp ltXD (fVar 1) (fCB lenD (zd (fVar 0) fNil))))
 (sSet 2 (fOp ixD (fVar 0) (fVar 1)))
 wm)
 (sRet (zc 2 (vx A) (uD (fVar 2) (uD (fOp addD (fC (.s (.int 300))) (fVar 1)) uNil))))))
noncomputable def kr (A : Ads) : PL.P Rv := runF [0, 1] 3 (xaw A)
noncomputable def b_l_next (A : Ads) : PL.P Fl :=
 (sSeq (sIncL 0 1 1)
 (sRet (fOp modD (fOp xbi (zc 2 (vx A) (uD (fOp ixD (fVar 0) (fC (.s (.int 0)))) (uD (fOp ixD (fVar 0) (fC (.s (.int 1)))) uNil))) (fC (.s (.int 7)))) (fVar 1))))
noncomputable def qc (A : Ads) : PL.P Rv := runF [0, 1] 2 (b_l_next A)
noncomputable def va1 (A : Ads) : PL.P Fl :=
 (sSeq (sSet 2 (fC (.s (.str "abcdefghijklmnopqrstuvwxyz"))))
 (sSeq (sSet 3 (fOp addD (fC (.s (.int 2))) (zc 2 (qc A) (uM 0 (uD (fC (.s (.int 7))) uNil)))))
 (sSeq (sSet 4 (zc 2 (qc A) (uM 0 (uD (fVar 3) uNil))))
 (sSeq (yaa 5 (ko [8] (qbc (zd (fVar 3) fNil)) (aN 8) fYes (fOp ixD (fVar 2) (zc 2 (qc A) (uM 0 (uD (fC (.s (.int 26))) uNil))))))
 (sSeq (sSet 6 (zc 2 (qc A) (uM 0 (uD (fC (.s (.int 26))) uNil))))
 (sSeq (yaa 7 (fLst vNil))
 (sSeq (sFor (qbc (zd (fVar 1) fNil)) (aN 8)
 (sSeq (sSetX 5 (fVar 4) (fOp ixD (fVar 2) (fOp modD (fOp addD (fVar 6) (fOp zak (fC (.s (.int 5))) (fVar 8))) (fC (.s (.int 26))))))
 (jak (x7 7 (fM1 joinD (fC (.s (.str ""))) (fVar 5))))))
 (sRet (fVar 7)))))))))
noncomputable def yz (A : Ads) : PL.P Rv := runF [0, 1] 9 (va1 A)
noncomputable def b_l_pool (A : Ads) : PL.P Fl :=
 (sSeq (sSet 1 (fC (.s (.str "abcdefghijklmnopqrstuvwxyz"))))
 (sSeq (sSet 2 (fOp ixD (fVar 1) (zc 2 (qc A) (uM 0 (uD (fC (.s (.int 26))) uNil)))))
 (sSeq (sSet 3 (fOp ixD (fVar 1) (zc 2 (qc A) (uM 0 (uD (fC (.s (.int 26))) uNil)))))
 (sSeq (sSet 4 (fOp ixD (fLst (jb (zc 2 (qc A) (uM 0 (uD (fC (.s (.int 13))) uNil))) (jb (zc 2 (qc A) (uM 0 (uD (fC (.s (.int 10000))) uNil))) vNil))) (zc 2 (qc A) (uM 0 (uD (fC (.s (.int 2))) uNil)))))
 (sSeq (sSet 5 (fLst (jb (fVar 2) (jb (fOp addD (fVar 2) (fVar 3)) (jb (fOp addD (fVar 2) (fVar 2)) (jb (fCB strD (zd (fVar 4) fNil)) (jb (fC (.s (.str "0"))) (jb (fCB strD (zd (fOp addD (fVar 4) (fC (.s (.int 1)))) fNil)) (jb (fOp addD (fVar 2) (fCB strD (zd (fVar 4) fNil))) (jb (fOp addD (fC (.s (.str "-"))) (fVar 2)) vNil))))))))))
 (sRet (fOp addD (fVar 5) (fLst (jb (fOp addD (fOp addD (fC (.s (.str "--"))) (fVar 2)) (fVar 3)) (jb (fC (.s (.str "="))) (jb (fOp addD (fC (.s (.str "0"))) (fCB strD (zd (fVar 4) fNil))) (jb (fOp addD (fOp addD (fVar 3) (fVar 2)) (fVar 2)) vNil))))))))))))
noncomputable def yaq (A : Ads) : PL.P Rv := runF [0] 6 (b_l_pool A)
noncomputable def ya1 (A : Ads) : PL.P Fl :=
 (sSeq (sSet 2 (fLst (jb (fC (.s (.int 1))) vNil)))
 (sSeq (sFor (qbc (zd (fVar 0) fNil)) (aN 3)
 (sSet 2 (ko [4, 5] (fZip (jb (fOp addD (fLst (jb (fC (.s (.int 0))) vNil)) (fVar 2)) (jb (fOp addD (fVar 2) (fLst (jb (fC (.s (.int 0))) vNil))) vNil))) (aT 2 (jai (aN 4) (jai (aN 5) aNil))) fYes (fOp addD (fVar 4) (fVar 5)))))
 (sRet (fIf (yd (vat leD leD (fC (.s (.int 0))) (fVar 1) (fVar 0))) (fOp ixD (fVar 2) (fVar 1)) (fC (.s (.int 0)))))))
noncomputable def jl (A : Ads) : PL.P Rv := runF [0, 1] 6 (ya1 A)
noncomputable def b_l_due (A : Ads) : PL.P Fl :=
 (sSeq (sIf (yd (fOp eqD (fVar 1) (fC (.s (.int 0)))))
 (sRet (fCB intD (zd (fOp eqD (fVar 2) (fC (.s (.int 0)))) fNil)))
 wm)
 (sSeq (sIf (yd (fOp eqD (fVar 0) (fC (.s (.str "any")))))
 (sRet (zc 2 (jl A) (uD (fOp subD (fOp addD (fVar 2) (fVar 1)) (fC (.s (.int 1)))) (uD (fOp subD (fVar 1) (fC (.s (.int 1)))) uNil))))
 wm)
 (sSeq (sIf (yd (fOp eqD (fVar 0) (fC (.s (.str "some")))))
 (sRet (fIf (yd (fOp gtD (fVar 2) (fC (.s (.int 0))))) (zc 2 (jl A) (uD (fOp subD (fVar 2) (fC (.s (.int 1)))) (uD (fOp subD (fVar 1) (fC (.s (.int 1)))) uNil))) (fC (.s (.int 0)))))
 wm)
 (sSeq (sIf (yd (fOp eqD (fVar 0) (fC (.s (.str "maybe")))))
 (sRet (zc 2 (jl A) (uD (fVar 1) (uD (fVar 2) uNil))))
 wm)
 (sRet (fCB intD (zd (fOp eqD (fVar 2) (fVar 1)) fNil)))))))
noncomputable def xbe (A : Ads) : PL.P Rv := runF [0, 1, 2] 3 (b_l_due A)
noncomputable def b_law (A : Ads) : PL.P Fl :=
 (sSeq (sFor (qbc (zd (fCB maxD (zd (fC (.s (.int 1))) (zd (fCB lenD (zd (fVar 0) fNil)) fNil))) fNil)) (aN 1)
 (sSeq (yaa 2 (fLst (jb (zc 2 (kr A) (uD (fVar 0) (uD (fVar 1) uNil))) (jb (fC (.s (.int 0))) vNil))))
 (sSeq (sSet 3 (zc 1 (yaq A) (uM 2 uNil)))
 (sSeq (sSet 4 (fOp ixD (fLst (jb (fC (.s (.str "any"))) (jb (fC (.s (.str "some"))) (jb (fC (.s (.str "maybe"))) (jb (fC (.s (.str "one"))) vNil))))) (zc 2 (qc A) (uM 2 (uD (fC (.s (.int 4))) uNil)))))
 (sSeq (sSet 5 (zc 2 (qc A) (uM 2 (uD (fC (.s (.int 5))) uNil))))
 (sSeq (sSet 6 (ko [12] (qr (fSl (zc 2 (yz A) (uM 2 (uD (fC (.s (.int 4))) uNil))) zNo (zAt (fVar 5)))) (aN 12) fYes (fMake 3 A.c_Place (yx A) (jb (fVar 12) (jb (fBare A.c_AnyWord) (jb (fVar 4) vNil))))))
 (sSeq (sSet 7 (fMake 4 A.c_Table (jo A) (jb (fTup vNil) (jb (fCB qay (zd (fVar 6) fNil)) (jb (fTup vNil) (jb (fTup vNil) vNil))))))
 (sSeq (sSet 8 (fOp ixD (fLst (jb (zc 2 (qc A) (uM 2 (uD (fC (.s (.int 6))) uNil))) (jb (zc 2 (qc A) (uM 2 (uD (fC (.s (.int 13))) uNil))) (jb (zc 2 (qc A) (uM 2 (uD (fC (.s (.int 31))) uNil))) vNil)))) (zc 2 (qc A) (uM 2 (uD (fC (.s (.int 3))) uNil)))))
 (sSeq (sSet 9 (ko [13] (qbc (zd (fVar 8) fNil)) (aN 13) fYes (fOp ixD (fVar 3) (zc 2 (qc A) (uM 2 (uD (fC (.s (.int 12))) uNil))))))
 (sSeq (sSet 10 (zc 3 (xbe A) (uD (fVar 4) (uD (fVar 5) (uD (fVar 8) uNil)))))
 (sSeq (sIf (yd (fOp neD (zc 2 (xr A) (uD (fVar 7) (uD (fVar 9) uNil))) (fVar 10)))
 (sRet (fC (.s (.bl false))))
 wm)
 (sIf (yd (fOp ltXD (fVar 8) (fC (.s (.int 21)))))
 (sSeq (sSet 11 (zc 2 (F_lays A) (uD (fVar 7) (uD (fVar 9) uNil))))
 (sIf (fOr (yd (fOp neD (fCB lenD (zd (fVar 11) fNil)) (fVar 10))) (yd (fOp neD (fUn war (fVar 11)) (fVar 11))))
 (sRet (fC (.s (.bl false))))
 wm))
 wm))))))))))))
 (sRet (fC (.s (.bl true)))))
noncomputable def F_law (A : Ads) : PL.P Rv := runF [0] 14 (b_law A)
structure Txt (A : Ads) (mg : Str → Option Value) (base : Heap) : Prop where
 f_may_again : ∃ f fd, Fun A.K "may_again" "may_again" (topS 1) f fd ∧ mg "may_again" = some (.ref f) ∧ Binds A.K fd ["place"] []
 f_may_lack : ∃ f fd, Fun A.K "may_lack" "may_lack" (topS 2) f fd ∧ mg "may_lack" = some (.ref f) ∧ Binds A.K fd ["place"] []
 f_AnyWord_holds : ∃ f fd, Fun A.K "holds" "AnyWord.holds" (clsS 17 0) f fd ∧ Meth A.K A.c_AnyWord "holds" f ∧ Binds A.K fd ["self", "word"] []
 f_places_for : ∃ f fd, Fun A.K "places_for" "places_for" (topS 3) f fd ∧ mg "places_for" = some (.ref f) ∧ Binds A.K fd ["table", "last", "word"] []
 f_may_close : ∃ f fd, Fun A.K "may_close" "may_close" (topS 4) f fd ∧ mg "may_close" = some (.ref f) ∧ Binds A.K fd ["table", "last"] []
 f_last_of : ∃ f fd, Fun A.K "last_of" "last_of" (topS 5) f fd ∧ mg "last_of" = some (.ref f) ∧ Binds A.K fd ["way"] []
 f_lays : ∃ f fd, Fun A.K "lays" "lays" (topS 6) f fd ∧ mg "lays" = some (.ref f) ∧ Binds A.K fd ["table", "words"] []
 f_lays_many : ∃ f fd, Fun A.K "lays_many" "lays_many" (topS 7) f fd ∧ mg "lays_many" = some (.ref f) ∧ Binds A.K fd ["table", "words"] []
 f_Place_init : ∃ f fd, Fun A.K "__init__" "Place.__init__" (clsS 24 0) f fd ∧ Mk A.K A.c_Place f ∧ Binds A.K fd ["self", "name", "kind", "often"] []
 f_are_letters : ∃ f fd, Fun A.K "are_letters" "are_letters" (topS 14) f fd ∧ mg "are_letters" = some (.ref f) ∧ Binds A.K fd ["thing", "least", "most"] []
 f_is_named : ∃ f fd, Fun A.K "is_named" "is_named" (topS 25) f fd ∧ mg "is_named" = some (.ref f) ∧ Binds A.K fd ["thing", "names"] []
 f_is_wish : ∃ f fd, Fun A.K "is_wish" "is_wish" (topS 26) f fd ∧ mg "is_wish" = some (.ref f) ∧ Binds A.K fd ["thing", "ahead"] []
 f_is_place : ∃ f fd, Fun A.K "is_place" "is_place" (topS 27) f fd ∧ mg "is_place" = some (.ref f) ∧ Binds A.K fd ["thing", "names"] []
 f_is_pair : ∃ f fd, Fun A.K "is_pair" "is_pair" (topS 28) f fd ∧ mg "is_pair" = some (.ref f) ∧ Binds A.K fd ["thing", "names"] []
 f_need_part : ∃ f fd, Fun A.K "need_part" "need_part" (topS 29) f fd ∧ mg "need_part" = some (.ref f) ∧ Binds A.K fd ["part", "things", "most", "is_right"] []
 f_Table_init : ∃ f fd, Fun A.K "__init__" "Table.__init__" (clsS 30 0) f fd ∧ FunC A.K "__init__" "Table.__init__" (clsS 30 0) f fd A.cT ∧ Mk A.K A.c_Table f ∧ Binds A.K fd ["self", "wishes", "places", "bars", "needs"] []
 f_l_mixed : ∃ f fd, Fun A.K "_law_mixed" "_law_mixed" (topS 32) f fd ∧ mg "_law_mixed" = some (.ref f) ∧ Binds A.K fd ["_law_cell", "_law_k"] []
 f_l_cell_at : ∃ f fd, Fun A.K "_law_cell_at" "_law_cell_at" (topS 33) f fd ∧ mg "_law_cell_at" = some (.ref f) ∧ Binds A.K fd ["_law_script", "_law_k"] []
 f_l_next : ∃ f fd, Fun A.K "_law_next" "_law_next" (topS 34) f fd ∧ mg "_law_next" = some (.ref f) ∧ Binds A.K fd ["_law_draw", "_law_size"] []
 f_l_titles : ∃ f fd, Fun A.K "_law_titles" "_law_titles" (topS 35) f fd ∧ mg "_law_titles" = some (.ref f) ∧ Binds A.K fd ["_law_draw", "_law_many"] []
 f_l_pool : ∃ f fd, Fun A.K "_law_pool" "_law_pool" (topS 36) f fd ∧ mg "_law_pool" = some (.ref f) ∧ Binds A.K fd ["_law_draw"] []
 f_l_chosen : ∃ f fd, Fun A.K "_law_chosen" "_law_chosen" (topS 37) f fd ∧ mg "_law_chosen" = some (.ref f) ∧ Binds A.K fd ["_law_many", "_law_some"] []
 f_l_due : ∃ f fd, Fun A.K "_law_due" "_law_due" (topS 38) f fd ∧ mg "_law_due" = some (.ref f) ∧ Binds A.K fd ["_law_often", "_law_places", "_law_words"] []
 f_law : ∃ f fd, Fun A.K "law" "law" (topS 39) f fd ∧ mg "law" = some (.ref f) ∧ Binds A.K fd ["_law_script"] []
 k_Kind : mg "Kind" = some (.ref A.c_Kind)
 k_AnyWord : mg "AnyWord" = some (.ref A.c_AnyWord)
 k_Wish : mg "Wish" = some (.ref A.c_Wish)
 k_Place : mg "Place" = some (.ref A.c_Place)
 k_Table : mg "Table" = some (.ref A.c_Table)
 cl_AnyWord : Cls A.K A.c_AnyWord
 b_AnyWord : Bare A.K A.c_AnyWord
 cl_Place : Cls A.K A.c_Place
 cl_Table : Cls A.K A.c_Table
 na_bars : ∀ c, (ybc A).contains c = true → Cls A.K c ∧ NoAttr A.K c "bars"
 na_kind : ∀ c, (zm A).contains c = true → Cls A.K c ∧ NoAttr A.K c "kind"
 na_letter : ∀ c, (zw A).contains c = true → Cls A.K c ∧ NoAttr A.K c "letter"
 na_many : ∀ c, (cs_many A).contains c = true → Cls A.K c ∧ NoAttr A.K c "many"
 na_may : ∀ c, (cs_may A).contains c = true → Cls A.K c ∧ NoAttr A.K c "may"
 na_must : ∀ c, (cs_must A).contains c = true → Cls A.K c ∧ NoAttr A.K c "must"
 na_name : ∀ c, (ki A).contains c = true → Cls A.K c ∧ NoAttr A.K c "name"
 na_needs : ∀ c, (kap A).contains c = true → Cls A.K c ∧ NoAttr A.K c "needs"
 na_often : ∀ c, (vi A).contains c = true → Cls A.K c ∧ NoAttr A.K c "often"
 na_places : ∀ c, (jf A).contains c = true → Cls A.K c ∧ NoAttr A.K c "places"
 na_wishes : ∀ c, (jae A).contains c = true → Cls A.K c ∧ NoAttr A.K c "wishes"
 z_all : mg "all" = none
 z_bool : mg "bool" = none
 z_enumerate : mg "enumerate" = none
 z_int : mg "int" = none
 z_isinstance : mg "isinstance" = none
 z_len : mg "len" = none
 z_max : mg "max" = none
 z_range : mg "range" = none
 z_set : mg "set" = none
 z_sorted : mg "sorted" = none
 z_str : mg "str" = none
 z_sum : mg "sum" = none
 z_tuple : mg "tuple" = none
 z_zip : mg "zip" = none
 c_LETTERS : ∃ u, mg "LETTERS" = some u ∧ RelV c_LETTERS u
 c_MOST_OTHERS : ∃ u, mg "MOST_OTHERS" = some u ∧ RelV c_MOST_OTHERS u
 c_MOST_WISHES : ∃ u, mg "MOST_WISHES" = some u ∧ RelV c_MOST_WISHES u
 c_OFTENS : ∃ (v : V) (u : Value), mg "OFTENS" = some u ∧ RelV v u ∧ ∀ C, Is A.K C (.tup (c_OFTENS.map fun y => .s (.str y))) v
 tb : LamX.TabB base mg A.cT A.pT
 tabP : TabP A.K A.pT
 xcs : ∀ c, A.xs.contains c = true → ExcC A.K c
 isi : ∀ c, A.cs.contains c = true → IsiCls A.K c
section
variable {A : Ads} {mg : Str → Option Value} {base : Heap}
theorem jbg : FnScope ["place"] ["place"] (defScope (topS 1)) := ⟨rfl, rfl, rfl, by decide +kernel, rfl, by decide +kernel, by decide +kernel⟩
theorem jbo (T : Txt A mg base) (k : Nat) : xn A.P A.w A.K mg base (k + 1) "may_again" 1 (zr A) := by
 obtain ⟨f, fd, h1, h2, h3⟩ := T.f_may_again
 exact xh (k := k + 0) (fx := [0]) h1 h2 h3 jbg rfl (by decide) fun _ _ _ _ _ _ B =>
 (xa (vc (qo (c_in B) (qe B T.na_often (qa B 0)) (yae (ya vf (ya vf ve))))))
theorem wbl : FnScope ["place"] ["place"] (defScope (topS 2)) := ⟨rfl, rfl, rfl, by decide +kernel, rfl, by decide +kernel, by decide +kernel⟩
theorem qa1 (T : Txt A mg base) (k : Nat) : xn A.P A.w A.K mg base (k + 1) "may_lack" 1 (yp A) := by
 obtain ⟨f, fd, h1, h2, h3⟩ := T.f_may_lack
 exact xh (k := k + 0) (fx := [0]) h1 h2 h3 wbl rfl (by decide) fun _ _ _ _ _ _ B =>
 (xa (vc (qo (c_in B) (qe B T.na_often (qa B 0)) (yae (ya vf (ya vf ve))))))
theorem qak : FnScope ["self", "word"] ["self", "word"] (defScope (clsS 17 0)) := ⟨rfl, rfl, rfl, by decide +kernel, rfl, by decide +kernel, by decide +kernel⟩
theorem zau (T : Txt A mg base) (k : Nat) : va2 A.P A.w A.K mg base (k + 1) "holds" 2 (A.c_AnyWord, yh A) := by
 obtain ⟨f, fd, h1, h2, h3⟩ := T.f_AnyWord_holds
 exact meth_ok (k := k + 0) (fx := [0, 1]) T.cl_AnyWord h2 h1 h3 qak rfl (by decide) fun _ _ _ _ _ _ B =>
 (xa (vc vbd))
theorem qt (T : Txt A mg base) (k : Nat) : ∀ b ∈ zf A, va2 A.P A.w A.K mg base (k + 1) "holds" 2 b := (List.forall_mem_cons.mpr ⟨zau T (k + 0), (fun _ h => nomatch h)⟩)
theorem qa7 : FnScope ["table", "last", "word", "found", "number"] ["table", "last", "word"] (defScope (topS 3)) := ⟨rfl, rfl, rfl, by decide +kernel, rfl, by decide +kernel, by decide +kernel⟩
theorem jaj (T : Txt A mg base) (k : Nat) : xn A.P A.w A.K mg base (k + 2) "places_for" 3 (jg A) := by
 obtain ⟨f, fd, h1, h2, h3⟩ := T.f_places_for
 exact xh (k := k + 1) (fx := [0, 1, 2]) h1 h2 h3 qa7 rfl (by decide) fun _ _ _ _ _ _ B =>
 (za (yah B 3 (xp ve))
 (za (jr (bt_w (bw_and (yk (c_ge B) (qa B 1) va) (bw_and (vm (wa B (jbo T (k + 0)) (aa_d (vo B (qe B T.na_places (qa B 0)) (qa B 1)) xb))) (bw_and1 (vm (be_meth B (qt T (k + 0)) (qe B T.na_kind (vo B (qe B T.na_places (qa B 0)) (qa B 1))) (aa_d (qa B 2) xb)))))))
 (xa (zx (vav B 3 (qa B 1))))
 ye)
 (za (z6 B (bi_rng2 B T.z_range (qb (ke B (qa B 1) va) (qb (zj B (b_len B T.z_len) (qb (qe B T.na_places (qa B 0)) wc)) wc))) (xc B 4)
 (za (jr (vm (be_meth B (qt T (k + 0)) (qe B T.na_kind (vo B (qe B T.na_places (qa B 0)) (qa B 4))) (aa_d (qa B 2) xb)))
 (xa (zx (vav B 3 (qa B 4))))
 ye)
 (xa (jr (j6 (vm (wa B (qa1 T (k + 0)) (aa_d (vo B (qe B T.na_places (qa B 0)) (qa B 4)) xb))))
 (xa (vc (qa B 3)))
 ye))))
 (xa (vc (qa B 3))))))
theorem qbg : FnScope ["table", "last", "place"] ["table", "last"] (defScope (topS 4)) := ⟨rfl, rfl, rfl, by decide +kernel, rfl, by decide +kernel, by decide +kernel⟩
theorem jau (T : Txt A mg base) (k : Nat) : xn A.P A.w A.K mg base (k + 2) "may_close" 2 (ym A) := by
 obtain ⟨f, fd, h1, h2, h3⟩ := T.f_may_close
 exact xh (k := k + 1) (fx := [0, 1]) h1 h2 h3 qbg rfl (by decide) fun _ _ _ _ _ _ B =>
 (xa (vc (zj B (b_all B T.z_all) (qb (kbd B [("place", 2)] (bi_X B (be_sl B (qe B T.na_places (qa B 0)) (ybo (ke B (qa B 1) va)) wbo)) (xc (B.blk _) 2) km (wa (B.blk _) (qa1 T (k + 0)) (aa_d (qa (B.blk _) 2) xb))) wc))))
theorem sc_last_of : FnScope ["way"] ["way"] (defScope (topS 5)) := ⟨rfl, rfl, rfl, by decide +kernel, rfl, by decide +kernel, by decide +kernel⟩
theorem vbi (T : Txt A mg base) (k : Nat) : xn A.P A.w A.K mg base (k + 1) "last_of" 1 (qq A) := by
 obtain ⟨f, fd, h1, h2, h3⟩ := T.f_last_of
 exact xh (k := k + 0) (fx := [0]) h1 h2 h3 sc_last_of rfl (by decide) fun _ _ _ _ _ _ B =>
 (xa (vc (be_if (yk (c_ne B) (qa B 0) (yae ve)) (vo B (qa B 0) (be_neg va)) (be_neg va))))
theorem sc_lays : FnScope ["table", "words", "ways", "word", "longer", "way", "number"] ["table", "words"] (defScope (topS 6)) := ⟨rfl, rfl, rfl, by decide +kernel, rfl, by decide +kernel, by decide +kernel⟩
theorem d_lays (T : Txt A mg base) (k : Nat) : xn A.P A.w A.K mg base (k + 3) "lays" 2 (F_lays A) := by
 obtain ⟨f, fd, h1, h2, h3⟩ := T.f_lays
 exact xh (k := k + 2) (fx := [0, 1]) h1 h2 h3 sc_lays rfl (by decide) fun _ _ _ _ _ _ B =>
 (za (yf B 2 (xp (ya (yae ve) ve)))
 (za (z6 B (bi_X B (qa B 1)) (xc B 3)
 (za (yah B 4 (xp ve))
 (za (z6 B (bi_X B (qa B 2)) (xc B 5)
 (xa (zx (be_extend B 4 (kbd B [("number", 6)] (bi_X B (wa B (jaj T (k + 0)) (aa_d (qa B 0) (aa_d (wa B (vbi T (k + 1)) (aa_d (qa B 5) xb)) (aa_d (qa B 3) xb))))) (xc (B.blk _) 6) km (ke (B.blk _) (qa (B.blk _) 5) (yae (ya (qa (B.blk _) 6) ve))))))))
 (xa (yf B 2 (qa B 4))))))
 (xa (vc (kbd B [("way", 5)] (bi_X B (qa B 2)) (xc (B.blk _) 5) (bts_one (vm (wa (B.blk _) (jau T (k + 0)) (aa_d (qa (B.blk _) 0) (aa_d (wa (B.blk _) (vbi T (k + 1)) (aa_d (qa (B.blk _) 5) xb)) xb))))) (qa (B.blk _) 5))))))
theorem zbg : FnScope ["table", "words", "counts", "word", "longer", "last", "many", "number"] ["table", "words"] (defScope (topS 7)) := ⟨rfl, rfl, rfl, by decide +kernel, rfl, by decide +kernel, by decide +kernel⟩
theorem zbo (T : Txt A mg base) (k : Nat) : xn A.P A.w A.K mg base (k + 3) "lays_many" 2 (xr A) := by
 obtain ⟨f, fd, h1, h2, h3⟩ := T.f_lays_many
 exact xh (k := k + 2) (fx := [0, 1]) h1 h2 h3 zbg rfl (by decide) fun _ _ _ _ _ _ B =>
 (za (yah B 2 (be_disp (bp_cons (bk_val (be_neg va)) va bp_nil)))
 (za (z6 B (bi_X B (qa B 1)) (xc B 3)
 (za (yah B 4 be_dnewK)
 (za (z6 B (bi_items (qa B 2)) (bg_tup B 2 (yn (xc B 5) (yn (xc B 6) zbd)))
 (xa (z6 B (bi_X B (wa B (jaj T (k + 0)) (aa_d (qa B 0) (aa_d (qa B 5) (aa_d (qa B 3) xb))))) (xc B 7)
 (xa (bs_dput B 4 (bk_val (qa B 7)) (ke B (be_dget2 B (qa B 4) (bk_val (qa B 7)) va) (qa B 6)))))))
 (xa (bs_move B 2 4)))))
 (xa (vc (zj B (b_sum B T.z_sum) (qb (kbd B [("last", 5), ("many", 6)] (bi_items (qa B 2)) (bg_tup (B.blk _) 2 (yn (xc (B.blk _) 5) (yn (xc (B.blk _) 6) zbd))) (bts_one (vm (wa (B.blk _) (jau T (k + 0)) (aa_d (qa (B.blk _) 0) (aa_d (qa (B.blk _) 5) xb))))) (qa (B.blk _) 6)) wc))))))
theorem za7 : FnScope ["self", "name", "kind", "often"] ["self", "name", "kind", "often"] (defScope (clsS 24 0)) := ⟨rfl, rfl, rfl, by decide +kernel, rfl, by decide +kernel, by decide +kernel⟩
theorem jbj (T : Txt A mg base) (k : Nat) : ybk A.P A.w A.K mg base (k + 1) "Place" 3 A.c_Place (yx A) := by
 obtain ⟨f, fd, h1, h2, h3⟩ := T.f_Place_init
 exact make_ok (k := k + 0) (fx := [0, 1, 2, 3]) h1 h2 T.k_Place h3 za7 rfl (by decide) fun _ _ _ _ _ _ B =>
 (za (q8 B 0 T.na_name (qa B 1))
 (za (q8 B 0 T.na_kind (qa B 2))
 (xa (q8 B 0 T.na_often (qa B 3)))))
theorem zax : FnScope ["thing", "least", "most"] ["thing", "least", "most"] (defScope (topS 14)) := ⟨rfl, rfl, rfl, by decide +kernel, rfl, by decide +kernel, by decide +kernel⟩
theorem qae (T : Txt A mg base) (k : Nat) : xn A.P A.w A.K mg base (k + 1) "are_letters" 3 (vh A) := by
 obtain ⟨f, fd, h1, h2, h3⟩ := T.f_are_letters
 exact xh (k := k + 0) (fx := [0, 1, 2]) h1 h2 h3 zax rfl (by decide) fun _ _ _ _ _ _ B =>
 (xa (vc (xx (zj B (ybd T.isi B T.z_isinstance) (qb (qa B 0) (qb (kav B T.z_str (by decide +kernel)) wc))) (xx (be_chain (c_le B) (c_le B) (qa B 1) (zj B (b_len B T.z_len) (qb (qa B 0) wc)) (qa B 2)) (zaj (qo (c_eq B) (be_m1 (m_strip B) (qa B 0) (wae B T.c_LETTERS)) vf))))))
theorem xbm : FnScope ["thing", "names"] ["thing", "names"] (defScope (topS 25)) := ⟨rfl, rfl, rfl, by decide +kernel, rfl, by decide +kernel, by decide +kernel⟩
theorem ja1 (T : Txt A mg base) (k : Nat) : xn A.P A.w A.K mg base (k + 2) "is_named" 2 (jq A) := by
 obtain ⟨f, fd, h1, h2, h3⟩ := T.f_is_named
 exact xh (k := k + 1) (fx := [0, 1]) h1 h2 h3 xbm rfl (by decide) fun _ _ _ _ _ _ B =>
 (xa (vc (xx (wa B (qae T (k + 0)) (aa_d (qe B T.na_name (qa B 0)) (aa_d va (aa_d va xb)))) (zaj (qo (c_notIn B) (qe B T.na_name (qa B 0)) (qa B 1))))))
theorem sc_is_wish : FnScope ["thing", "ahead", "wish", "truth"] ["thing", "ahead"] (defScope (topS 26)) := ⟨rfl, rfl, rfl, by decide +kernel, rfl, by decide +kernel, by decide +kernel⟩
theorem d_is_wish (T : Txt A mg base) (k : Nat) : xn A.P A.w A.K mg base (k + 3) "is_wish" 2 (waw A) := by
 obtain ⟨f, fd, h1, h2, h3⟩ := T.f_is_wish
 exact xh (k := k + 2) (fx := [0, 1]) h1 h2 h3 sc_is_wish rfl (by decide) fun _ _ _ _ _ _ B =>
 (za (jr (bt_w (bw_or (j6 (vm (zj B (ybd T.isi B T.z_isinstance) (qb (qa B 0) (qb (be_cls B T.k_Wish) wc))))) (za1 (j6 (vm (wa B (ja1 T (k + 0)) (aa_d (qa B 0) (aa_d (kbd B [("wish", 2)] (bi_X B (qa B 1)) (xc (B.blk _) 2) km (qe (B.blk _) T.na_name (qa (B.blk _) 2))) xb))))))))
 (xa (vc vbd))
 ye)
 (za (jr (yk (c_isNot B) (qe B T.na_letter (qa B 0)) be_non)
 (xa (jr (bt_w (bw_or (j6 (vm (wa B (qae T (k + 1)) (aa_d (qe B T.na_letter (qa B 0)) (aa_d va (aa_d va xb)))))) (za1 (yk (c_in B) (qe B T.na_letter (qa B 0)) (kbd B [("wish", 2)] (bi_X B (qa B 1)) (xc (B.blk _) 2) km (qe (B.blk _) T.na_letter (qa (B.blk _) 2)))))))
 (xa (vc vbd))
 ye))
 ye)
 (za (jr (j6 (vm (zj B (b_all B T.z_all) (qb (kbd B [("truth", 3)] (bi_X B (yae (ya (qe B T.na_may (qa B 0)) (ya (qe B T.na_many (qa B 0)) (ya (qe B T.na_must (qa B 0)) ve))))) (xc (B.blk _) 3) km (zj (B.blk _) (ybd T.isi (B.blk _) T.z_isinstance) (qb (qa (B.blk _) 3) (qb (kav (B.blk _) T.z_bool (by decide +kernel)) wc)))) wc))))
 (xa (vc vbd))
 ye)
 (xa (vc (be_or (zj B (ybd T.isi B T.z_isinstance) (qb (qe B T.na_kind (qa B 0)) (qb (be_cls B T.k_Kind) wc))) (zaj (xx (qo (c_is B) (qe B T.na_kind (qa B 0)) be_non) (zaj (be_not (qe B T.na_may (qa B 0))))))))))))
theorem zbm : FnScope ["thing", "names"] ["thing", "names"] (defScope (topS 27)) := ⟨rfl, rfl, rfl, by decide +kernel, rfl, by decide +kernel, by decide +kernel⟩
theorem d_is_place (T : Txt A mg base) (k : Nat) : xn A.P A.w A.K mg base (k + 3) "is_place" 2 (wz A) := by
 obtain ⟨f, fd, h1, h2, h3⟩ := T.f_is_place
 exact xh (k := k + 2) (fx := [0, 1]) h1 h2 h3 zbm rfl (by decide) fun _ _ _ _ _ _ B =>
 (za (jr (bt_w (bw_or (j6 (vm (zj B (ybd T.isi B T.z_isinstance) (qb (qa B 0) (qb (be_cls B T.k_Place) wc))))) (za1 (j6 (vm (wa B (ja1 T (k + 0)) (aa_d (qa B 0) (aa_d (qa B 1) xb))))))))
 (xa (vc vbd))
 ye)
 (xa (vc (xx (zj B (ybd T.isi B T.z_isinstance) (qb (qe B T.na_kind (qa B 0)) (qb (be_cls B T.k_Kind) wc))) (xx (zj B (ybd T.isi B T.z_isinstance) (qb (qe B T.na_often (qa B 0)) (qb (kav B T.z_str (by decide +kernel)) wc))) (zaj (qo (c_in B) (qe B T.na_often (qa B 0)) (be_globD B T.c_OFTENS))))))))
theorem sc_is_pair : FnScope ["thing", "names"] ["thing", "names"] (defScope (topS 28)) := ⟨rfl, rfl, rfl, by decide +kernel, rfl, by decide +kernel, by decide +kernel⟩
theorem wbi (T : Txt A mg base) (k : Nat) : xn A.P A.w A.K mg base (k + 1) "is_pair" 2 (qax A) := by
 obtain ⟨f, fd, h1, h2, h3⟩ := T.f_is_pair
 exact xh (k := k + 0) (fx := [0, 1]) h1 h2 h3 sc_is_pair rfl (by decide) fun _ _ _ _ _ _ B =>
 (za (jr (bt_w (bw_or (j6 (vm (zj B (ybd T.isi B T.z_isinstance) (qb (qa B 0) (qb (kav B T.z_tuple (by decide +kernel)) wc))))) (za1 (yk (c_ne B) (zj B (b_len B T.z_len) (qb (qa B 0) wc)) va))))
 (xa (vc vbd))
 ye)
 (xa (vc (xx (qo (c_in B) (vo B (qa B 0) va) (qa B 1)) (xx (qo (c_in B) (vo B (qa B 0) va) (qa B 1)) (zaj (qo (c_ne B) (vo B (qa B 0) va) (vo B (qa B 0) va))))))))
theorem wbf : FnScope ["part", "things", "most", "is_right", "number", "thing"] ["part", "things", "most", "is_right"] (defScope (topS 29)) := ⟨rfl, rfl, rfl, by decide +kernel, rfl, by decide +kernel, by decide +kernel⟩
theorem need_T (T : Txt A mg base) (k : Nat) : NeedT A.P A.w A.K mg base (k + 0) "need_part" (topS 29) ["part", "things", "most", "is_right", "number", "thing"] ["part", "things", "most", "is_right"] [0, 1, 2, 3] (j8 A) := by
 obtain ⟨f, fd, h1, h2, h3⟩ := T.f_need_part
 exact ⟨⟨f, fd, h1, h2, h3⟩, wbf, fun _ _ _ _ _ _ _ B act hact =>
 (za (jr (j6 (vm (zj B (ybd T.isi B T.z_isinstance) (qb (qa B 1) (qb (kav B T.z_tuple (by decide +kernel)) wc)))))
 (xa bs_never)
 ye)
 (xa (z6 B (bi_enumX B T.z_enumerate (ya (qa B 1) ve)) (bg_tup B 2 (yn (xc B 4) (yn (xc B 5) zbd)))
 (xa (jr (bt_w (bw_or (yk (c_eq B) (qa B 4) (qa B 2)) (za1 (j6 (vm (hact _ _ _ _ _ (by rfl) (by rfl) (aa_d (qa B 5) (aa_d (be_sl B (qa B 1) wbo (ybo (qa B 4))) xb))))))))
 (xa bs_never)
 ye)))))⟩
local macro_rules | `(tactic| walk_at "w") => `(tactic| (try simp only [PL.wp_seq, PL.wp_set, PL.za3, PL.zbb, PL.wp_op, PL.wp_un, PL.wp_var, PL.wp_c, PL.kaq, PL.vaq, PL.qam, PL.wal, PL.kal, PL.vr, PL.yal, PL.kam, PL.xam, PL.vam, PL.yap, PL.vap, PL.ya5, PL.va5, PL.wa5, PL.qaq, PL.wap, PL.qan, PL.ja8, PL.za8, PL.jan, PL.ja3, PL.vak, PL.wa3, PL.wp_brk, PL.qa5, PL.jar, PL.zap, PL.wad, PL.zz, PL.jz, PL.kz, PL.jad, PL.qad, PL.xab, PL.yab, PL.kab, List.set_cons_zero, List.set_cons_succ, List.length_cons, List.length_nil, PL.addD, PL.subD, PL.zak, PL.mulD, PL.modD, PL.xbi, PL.wp_run, List.cons_append, List.nil_append, List.replicate, List.getElem?_cons_zero, List.getElem?_cons_succ, PL.za4, PL.qac, PL.vz, PL.yam, PL.wba, PL.qbb, PL.isB_bl, PL.xbb, PL.wp_call, PL.v8, PL.qa3, PL.wp_ud, PL.wp_um, PL.xaa, PL.vaa, PL.kaa, PL.xae, PL.vae, PL.kae, PL.jaq, PL.xaq, PL.zaq, PL.wp_cb, PL.wp_nil, PL.ja5, PL.qab, PL.z9, PL.wa2, PL.kak, PL.wp_tup, PL.wp_lst, PL.waq, PL.wp_and, PL.wp_or, PL.wp_not, PL.ka5, PL.za6, PL.wp_ifE, PL.xal, PL.wp_m1, PL.wp_zno, PL.wp_zat, PL.wp_sl, PL.wp_sif, PL.y8, PL.x8, PL.wp_par, PL.wp_ext, PL.ja4, PL.zy, PL.qy, PL.v9, PL.jy, PL.va3, PL.ka3, PL.vn, PL.wam, PL.y9, PL.yao, PL.kbb, PL.wp_zip, PL.zab, PL.jab, PL.wbe, PL.qbp, PL.vbk, PL.zaf, PL.yaw, PL.ql, PL.xy, PL.qaa, PL.w9, PL.zao, PL.xao, PL.qba, PL.jao, PL.jbc, PL.wa8, PL.lt_int, PL.lt_str, PL.le_int, PL.gt_int, PL.ge_int, PL.va9, PL.za9, PL.wan, PL.yan, PL.ya9, PL.ja6, PL.qa6, PL.sl_lst, PL.sl_tup, PL.sl_ro, PL.sl_str, PL.neg_int, PL.is_bl, PL.yac, PL.is_none, PL.vq, PL.kan, PL.none_int, PL.none_str, PL.ya8, PL.van, PL.xan, PL.wbd, PL.qbe, PL.zaa, PL.yy, PL.jap, Nat.reduceAdd, Nat.reduceSub, Nat.zero_add, Bool.not_true, Bool.not_false, Bool.false_eq_true, if_true, if_false, PL.za5, PL.j7, PL.vg, decide_eq_true_eq, PL.vba, PL.ixw_ro, PL.xba, PL.kba, PL.atI_0, PL.atI_1, PL.wp_ky, PL.qap, PL.wao, PL.zac, PL.dv_bor, PL.dv_dic, PL.kbc, PL.xbc, PL.dvQ_dk, PL.dvQ_dt, PL.vbc, PL.dGet_k, PL.dGet_t, PL.jal, PL.qal, PL.vy, PL.wa4, PL.zal, PL.vao, PL.kao,  PL.ybg, PL.vbg, PL.va4, PL.j9, PL.w8, PL.qu, PL.ya7, PL.wak, PL.qa4, PL.qbi, PL.ya3, PL.yak, PL.ya4, List.take_succ_cons, List.take_zero, Option.map_some, Option.map_none, PL.kq, PL.jh, PL.x4]))
local macro_rules | `(tactic| walk_at "fin") => `(tactic| first | trivial | rfl | decide | (simp; done) | omega)
theorem kbj {F : PL.P Rv} {cs : List Cell} {b : Bool} (h : kax F cs = some b) : ∃ cs', F cs = some (.ok (rvB b) cs') := by
 unfold kax at h
 split at h
 ·rename_i b' cs' q
  cases h
  exact ⟨cs', q⟩
 ·cases h
theorem need_go {A : Ads} {part : Str} {things : List D} {most : Int} {fv : D} {act : PL.P (List PL.Arg) → PL.P Rv} (hm : ∀ i, i < things.length → (i : Int) ≠ most)
  (ha : ∀ (i : Nat) (d : D), things[i]? = some d → wp (act (uD (fVar 5) (uD (fSl (fVar 1) zNo (zAt (fVar 4))) uNil))) (fun v r => v = rvB true ∧ r = [.dat (.s (.str part)), .dat (.tup things), .dat (.s (.int most)), .dat fv, .dat (.s (.int i)), .dat d]) EF
   [.dat (.s (.str part)), .dat (.tup things), .dat (.s (.int most)), .dat fv, .dat (.s (.int i)), .dat d]) :
  wp (zg A act) (fun r cs => r = .dat (.s .non) ∧ cs = [.dat (.s (.str part)), .dat (.tup things), .dat (.s (.int most)), .dat fv]) EF [.dat (.s (.str part)), .dat (.tup things), .dat (.s (.int most)), .dat fv] := by
 unfold zg j8
 walk_at "w"
 simp only [PL.ka4, PL.wac]
 walk_at "w"
 simp only [PL.wac]
 refine zo (fun i r => ∃ c4 c5, r = [.dat (.s (.str part)), .dat (.tup things), .dat (.s (.int most)), .dat fv, c4, c5]) ⟨_, _, rfl⟩ (fun i d r hd hI => ?_) (fun r hI => ?_)
 ·obtain ⟨c4, c5, rfl⟩ := hI
  obtain ⟨x, hx, rfl⟩ := enum_get hd
  rw [Nat.zero_add]
  have hi := (List.getElem?_eq_some_iff.mp hx).1
  have h0 := hm i hi
  have h1 := ha i x hx
  walk_at "w"
  refine ⟨trivial, by decide, by decide, ?_⟩
  rw [show ((i : Int) == most) = false from beq_eq_false_iff_ne.mpr h0]
  walk_at "w"
  refine wp_mono h1 (fun v r hv => ?_) fun e r z => z.elim
  obtain ⟨rfl, rfl⟩ := hv
  walk_at "w"
  exact ⟨_, _, rfl⟩
 ·obtain ⟨c4, c5, rfl⟩ := hI
  walk_at "w"
  trivial
theorem qaz {G : D → List D → Option Bool} {ds : List D} {r : Option Exn} (h : npOk G ds = some r) : r = none ∧ ∃ (p : Str) (things : List D) (most : Int), ds = [.s (.str p), .tup things, .s (.int most)] ∧ npGo G most things things.length = some true := by
 unfold npOk at h
 split at h
 ·rename_i p things most
  split at h
  ·rename_i q
   cases h
   exact ⟨rfl, _, _, _, rfl, q⟩
  ·cases h
 ·cases h
theorem need_K {A : Ads} {F : PL.P Rv} {g : Addr} {ds : List D} {r : Option Exn} (h : npOk (fun d ahead => kax F [.dat d, .dat (.tup ahead)]) ds = some r) : ds.length = 3 ∧ zg A (jah g 2 F 3) ((ds ++ [D.s (.ref g)]).map .dat) = some (va8 ((ds ++ [D.s (.ref g)]).map .dat) r) := by
 obtain ⟨rfl, p, things, most, rfl, hg⟩ := qaz h
 have hs := zbh hg
 refine ⟨rfl, ?_⟩
 have := need_go (A := A) (part := p) (things := things) (most := most) (fv := .s (.ref g)) (act := jah g 2 F 3) (fun i hi => (hs i _ hi (List.getElem?_eq_getElem hi)).1) fun i d hd => by
  obtain ⟨_, hb⟩ := hs i d (List.getElem?_eq_some_iff.mp hd).1 hd
  obtain ⟨cs, hF⟩ := kbj hb
  rw [PL.wp_actK]
  walk_at "w"
  rw [xau (Nat.le_of_lt (List.getElem?_eq_some_iff.mp hd).1)]
  exact ⟨trivial, by simp, wp_eq hF ⟨rfl, by match cs with
   | [] => rfl
   | [_] => rfl
   | _ :: _ :: _ => rfl⟩⟩
 obtain ⟨a, r, h1, rfl, rfl⟩ := yax this
 exact h1
theorem need_L {A : Ads} {F : PL.P Rv} {nm : D} {f : Addr} {φ : Heap → Prop} {z : V} {ds : List D} {r : Option Exn} (h : npOk (fun d ahead => kax F [.dat d, .dat (.tup ahead), .dat nm]) ds = some r) : ds.length = 3 ∧ zg A (fAct f φ [z] 2 1 F 3) ((ds ++ [D.lam f φ [z] [nm]]).map .dat) = some (va8 ((ds ++ [D.lam f φ [z] [nm]]).map .dat) r) := by
 obtain ⟨rfl, p, things, most, rfl, hg⟩ := qaz h
 have hs := zbh hg
 refine ⟨rfl, ?_⟩
 have := need_go (A := A) (part := p) (things := things) (most := most) (fv := .lam f φ [z] [nm]) (act := fAct f φ [z] 2 1 F 3) (fun i hi => (hs i _ hi (List.getElem?_eq_getElem hi)).1) fun i d hd => by
  obtain ⟨_, hb⟩ := hs i d (List.getElem?_eq_some_iff.mp hd).1 hd
  obtain ⟨cs, hF⟩ := kbj hb
  rw [PL.wp_act (ks := [nm]) (m := 1) rfl rfl]
  simp only [List.map_cons, List.map_nil]
  walk_at "w"
  rw [xau (Nat.le_of_lt (List.getElem?_eq_some_iff.mp hd).1)]
  refine ⟨trivial, by simp, wp_eq hF ⟨rfl, ?_⟩⟩
  match cs with
  | [] => rfl
  | [_] => rfl
  | [_, _] => rfl
  | _ :: _ :: _ :: _ => rfl
 obtain ⟨a, r, h1, rfl, rfl⟩ := yax this
 exact h1
theorem ja7 : FnScope ["self", "wishes", "places", "bars", "needs", "names", "wish"] ["self", "wishes", "places", "bars", "needs"] (defScope (clsS 30 0)) := ⟨rfl, rfl, rfl, by decide +kernel, rfl, by decide +kernel, by decide +kernel⟩
theorem jbi {g : Addr} {ds : List D} {r : Option Exn} (h : qm A ds = some r) : ds.length = 3 ∧ zg A (jah g 2 (waw A) 3) ((ds ++ [D.s (.ref g)]).map .dat) = some (va8 ((ds ++ [D.s (.ref g)]).map .dat) r) := need_K h
theorem yag {f : Addr} {φ : Heap → Prop} {z : V} {d : D} {ds : List D} {r : Option Exn} (h : wd A d ds = some r) : ds.length = 3 ∧ zg A (fAct f φ [z] 2 1 (yo A) 3) ((ds ++ [D.lam f φ [z] [d]]).map .dat) = some (va8 ((ds ++ [D.lam f φ [z] [d]]).map .dat) r) := need_L h
theorem vag {f : Addr} {φ : Heap → Prop} {z : V} {d : D} {ds : List D} {r : Option Exn} (h : qf A d ds = some r) : ds.length = 3 ∧ zg A (fAct f φ [z] 2 1 (y6 A) 3) ((ds ++ [D.lam f φ [z] [d]]).map .dat) = some (va8 ((ds ++ [D.lam f φ [z] [d]]).map .dat) r) := need_L h
theorem kag {f : Addr} {φ : Heap → Prop} {z : V} {d : D} {ds : List D} {r : Option Exn} (h : we A d ds = some r) : ds.length = 3 ∧ zg A (fAct f φ [z] 2 1 (x6 A) 3) ((ds ++ [D.lam f φ [z] [d]]).map .dat) = some (va8 ((ds ++ [D.lam f φ [z] [d]]).map .dat) r) := need_L h
theorem qbj (T : Txt A mg base) (k : Nat) : ybk A.P A.w A.K mg base (k + 6) "Table" 4 A.c_Table (jo A) := by
 obtain ⟨f, fd, h1, h0, h2, h3⟩ := T.f_Table_init
 exact make_okC (k := k + 5) (fx := [0, 1, 2, 3, 4]) h0 h2 T.k_Table h3 ja7 rfl (by decide) fun _ _ _ _ _ B =>
 (za (zx (be_needK B (need_T T (k + 4)) rfl (by decide) rfl (.inl rfl) (d_is_wish T (k + 1)) (qm A) (fun g ds r h => jbi h) vf (qa B 1) (wae B T.c_MOST_WISHES)))
 (za (yf B 5 (kbd B [("wish", 6)] (bi_X B (qa B 1)) (xc (B.blk _) 6) km (qe (B.blk _) T.na_name (qa (B.blk _) 6))))
 (za (zx (xbd B (kl := k + 3) (Nl := ["thing", "ahead", "names", "place"]) (psl := ["thing", "ahead"]) (y0 := "names") (j := 5) rfl zba (fun _ => rfl) T.tb T.tabP (need_T T (k + 4)) rfl (by decide) rfl (.inl rfl) rfl (by decide) (NdefX.nscope_by (by decide +kernel)) rfl (by decide) (by decide +kernel) (by decide +kernel) rfl (fun _ _ _ _ _ us hl => match us, hl with | [_, _], _ => rfl) rfl (fun _ _ _ _ _ _ _ _ B =>
 (wa B (d_is_place T (k + 0)) (aa_d (qa B 0) (aa_d (ke B (qa B 2) (kbd B [("place", 3)] (bi_X B (qa B 1)) (xc (B.blk _) 3) km (qe (B.blk _) T.na_name (qa (B.blk _) 3)))) xb)))) (wd A) (fun f φ z d ds r h => yag h) vf (qa B 2) (wae B T.c_MOST_OTHERS) rfl rfl rfl rfl rfl))
 (za (zx (xbd B (kl := k + 3) (Nl := ["thing", "ahead", "names"]) (psl := ["thing", "ahead"]) (y0 := "names") (j := 5) rfl zba (fun _ => rfl) T.tb T.tabP (need_T T (k + 4)) rfl (by decide) rfl (.inl rfl) rfl (by decide) (NdefX.nscope_by (by decide +kernel)) rfl (by decide) (by decide +kernel) (by decide +kernel) rfl (fun _ _ _ _ _ us hl => match us, hl with | [_, _], _ => rfl) rfl (fun _ _ _ _ _ _ _ _ B =>
 (xx (wa B (wbi T (k + 2)) (aa_d (qa B 0) (aa_d (qa B 2) xb))) (xx (qo (jbd B) (qa B 0) (qa B 1)) (zaj (qo (jbd B) (be_revT B (qa B 0)) (qa B 1)))))) (qf A) (fun f φ z d ds r h => vag h) vf (qa B 3) (wae B T.c_MOST_OTHERS) rfl rfl rfl rfl rfl))
 (za (zx (xbd B (kl := k + 3) (Nl := ["thing", "ahead", "names"]) (psl := ["thing", "ahead"]) (y0 := "names") (j := 5) rfl zba (fun _ => rfl) T.tb T.tabP (need_T T (k + 4)) rfl (by decide) rfl (.inl rfl) rfl (by decide) (NdefX.nscope_by (by decide +kernel)) rfl (by decide) (by decide +kernel) (by decide +kernel) rfl (fun _ _ _ _ _ us hl => match us, hl with | [_, _], _ => rfl) rfl (fun _ _ _ _ _ _ _ _ B =>
 (xx (wa B (wbi T (k + 2)) (aa_d (qa B 0) (aa_d (qa B 2) xb))) (zaj (qo (jbd B) (qa B 0) (qa B 1))))) (we A) (fun f φ z d ds r h => kag h) vf (qa B 4) (wae B T.c_MOST_OTHERS) rfl rfl rfl rfl rfl))
 (za (q8 B 0 T.na_wishes (qa B 1))
 (za (q8 B 0 T.na_places (qa B 2))
 (za (q8 B 0 T.na_bars (qa B 3))
 (xa (q8 B 0 T.na_needs (qa B 4)))))))))))
theorem sc_l_mixed : FnScope ["_law_cell", "_law_k", "_law_mix"] ["_law_cell", "_law_k"] (defScope (topS 32)) := ⟨rfl, rfl, rfl, by decide +kernel, rfl, by decide +kernel, by decide +kernel⟩
theorem ybi (T : Txt A mg base) (k : Nat) : xn A.P A.w A.K mg base (k + 1) "_law_mixed" 2 (vx A) := by
 obtain ⟨f, fd, h1, h2, h3⟩ := T.f_l_mixed
 exact xh (k := k + 0) (fx := [0, 1]) h1 h2 h3 sc_l_mixed rfl (by decide) fun _ _ _ _ _ _ B =>
 (za (yf B 2 (be_mod B (ybj B (ke B (ke B (qa B 0) (ybj B va (qa B 1))) va) va) va))
 (xa (vc (be_mod B (ke B (ybj B (qa B 2) (qa B 2)) (ybj B va (qa B 2))) va))))
theorem xbg : FnScope ["_law_script", "_law_k", "_law_cell"] ["_law_script", "_law_k"] (defScope (topS 33)) := ⟨rfl, rfl, rfl, by decide +kernel, rfl, by decide +kernel, by decide +kernel⟩
theorem xbo (T : Txt A mg base) (k : Nat) : xn A.P A.w A.K mg base (k + 2) "_law_cell_at" 2 (kr A) := by
 obtain ⟨f, fd, h1, h2, h3⟩ := T.f_l_cell_at
 exact xh (k := k + 1) (fx := [0, 1]) h1 h2 h3 xbg rfl (by decide) fun _ _ _ _ _ _ B =>
 (za (yf B 2 va)
 (za (jr (yk (c_lt B) (qa B 1) (zj B (b_len B T.z_len) (qb (qa B 0) wc)))
 (xa (yf B 2 (vo B (qa B 0) (qa B 1))))
 ye)
 (xa (vc (wa B (ybi T (k + 0)) (aa_d (qa B 2) (aa_d (ke B va (qa B 1)) xb)))))))
theorem sc_l_next : FnScope ["_law_draw", "_law_size"] ["_law_draw", "_law_size"] (defScope (topS 34)) := ⟨rfl, rfl, rfl, by decide +kernel, rfl, by decide +kernel, by decide +kernel⟩
theorem ze (T : Txt A mg base) (k : Nat) : xn A.P A.w A.K mg base (k + 2) "_law_next" 2 (qc A) := by
 obtain ⟨f, fd, h1, h2, h3⟩ := T.f_l_next
 exact xh (k := k + 1) (fx := [0, 1]) h1 h2 h3 sc_l_next rfl (by decide) fun _ _ _ _ _ _ B =>
 (za (bs_incL B 0 1 1)
 (xa (vc (be_mod B (be_fdiv B (wa B (ybi T (k + 0)) (aa_d (vo B (qa B 0) va) (aa_d (vo B (qa B 0) va) xb))) va) (qa B 1)))))
theorem qbm : FnScope ["_law_draw", "_law_many", "_law_some", "_law_size", "_law_place", "_law_base", "_law_shift", "_law_names", "_law_k"] ["_law_draw", "_law_many"] (defScope (topS 35)) := ⟨rfl, rfl, rfl, by decide +kernel, rfl, by decide +kernel, by decide +kernel⟩
theorem d_l_titles (T : Txt A mg base) (k : Nat) : xn A.P A.w A.K mg base (k + 3) "_law_titles" 2 (yz A) := by
 obtain ⟨f, fd, h1, h2, h3⟩ := T.f_l_titles
 exact xh (k := k + 2) (fx := [0, 1]) h1 h2 h3 qbm rfl (by decide) fun _ _ _ _ _ _ B =>
 (za (yf B 2 vf)
 (za (yf B 3 (ke B va (wa B (ze T (k + 0)) (aa_m B 0 (aa_d va xb)))))
 (za (yf B 4 (wa B (ze T (k + 0)) (aa_m B 0 (aa_d (qa B 3) xb))))
 (za (bs_lcM B 5 [("_law_k", 8)] (xav B T.z_range (qb (qa B 3) wc)) (xc (B.blk _) 8) km (vo (B.blk _) (qa (B.blk _) 2) (wa (B.blk _) (ze T (k + 0)) (aa_m (B.blk _) 0 (aa_d va xb)))))
 (za (yf B 6 (wa B (ze T (k + 0)) (aa_m B 0 (aa_d va xb))))
 (za (yah B 7 (xp ve))
 (za (z6 B (xav B T.z_range (qb (qa B 1) wc)) (xc B 8)
 (za (bs_setX B 5 (qa B 4) (vo B (qa B 2) (be_mod B (ke B (qa B 6) (ybj B va (qa B 8))) va)))
 (xa (zx (vav B 7 (be_m1 (m_join B) vf (qa B 5)))))))
 (xa (vc (qa B 7))))))))))
theorem sc_l_pool : FnScope ["_law_draw", "_law_some", "_law_one", "_law_other", "_law_number", "_law_words"] ["_law_draw"] (defScope (topS 36)) := ⟨rfl, rfl, rfl, by decide +kernel, rfl, by decide +kernel, by decide +kernel⟩
theorem d_l_pool (T : Txt A mg base) (k : Nat) : xn A.P A.w A.K mg base (k + 3) "_law_pool" 1 (yaq A) := by
 obtain ⟨f, fd, h1, h2, h3⟩ := T.f_l_pool
 exact xh (k := k + 2) (fx := [0]) h1 h2 h3 sc_l_pool rfl (by decide) fun _ _ _ _ _ _ B =>
 (za (yf B 1 vf)
 (za (yf B 2 (vo B (qa B 1) (wa B (ze T (k + 0)) (aa_m B 0 (aa_d va xb)))))
 (za (yf B 3 (vo B (qa B 1) (wa B (ze T (k + 0)) (aa_m B 0 (aa_d va xb)))))
 (za (yf B 4 (vo B (xp (ya (wa B (ze T (k + 0)) (aa_m B 0 (aa_d va xb))) (ya (wa B (ze T (k + 0)) (aa_m B 0 (aa_d va xb))) ve))) (wa B (ze T (k + 0)) (aa_m B 0 (aa_d va xb)))))
 (za (yf B 5 (xp (ya (qa B 2) (ya (ke B (qa B 2) (qa B 3)) (ya (ke B (qa B 2) (qa B 2)) (ya (zj B (b_str B T.z_str) (qb (qa B 4) wc)) (ya vf (ya (zj B (b_str B T.z_str) (qb (ke B (qa B 4) va) wc)) (ya (ke B (qa B 2) (zj B (b_str B T.z_str) (qb (qa B 4) wc))) (ya (ke B vf (qa B 2)) ve))))))))))
 (xa (vc (ke B (qa B 5) (xp (ya (ke B (ke B vf (qa B 2)) (qa B 3)) (ya vf (ya (ke B vf (zj B (b_str B T.z_str) (qb (qa B 4) wc))) (ya (ke B (ke B (qa B 3) (qa B 2)) (qa B 2)) ve)))))))))))))
theorem jbm : FnScope ["_law_many", "_law_some", "_law_row", "_law_k", "_law_one", "_law_other"] ["_law_many", "_law_some"] (defScope (topS 37)) := ⟨rfl, rfl, rfl, by decide +kernel, rfl, by decide +kernel, by decide +kernel⟩
theorem xah (T : Txt A mg base) (k : Nat) : xn A.P A.w A.K mg base (k + 1) "_law_chosen" 2 (jl A) := by
 obtain ⟨f, fd, h1, h2, h3⟩ := T.f_l_chosen
 exact xh (k := k + 0) (fx := [0, 1]) h1 h2 h3 jbm rfl (by decide) fun _ _ _ _ _ _ B =>
 (za (yf B 2 (xp (ya va ve)))
 (za (z6 B (xav B T.z_range (qb (qa B 0) wc)) (xc B 3)
 (xa (bs_lc B 2 [("_law_one", 4), ("_law_other", 5)] (bi_zip B T.z_zip (ya (ke B (xp (ya va ve)) (qa B 2)) (ya (ke B (qa B 2) (xp (ya va ve))) ve))) (bg_tup (B.blk _) 2 (yn (xc (B.blk _) 4) (yn (xc (B.blk _) 5) zbd))) km (ke (B.blk _) (qa (B.blk _) 4) (qa (B.blk _) 5)))))
 (xa (vc (be_if (bt_chain (c_le B) (c_le B) va (qa B 1) (qa B 0)) (vo B (qa B 2) (qa B 1)) va)))))
theorem sc_l_due : FnScope ["_law_often", "_law_places", "_law_words"] ["_law_often", "_law_places", "_law_words"] (defScope (topS 38)) := ⟨rfl, rfl, rfl, by decide +kernel, rfl, by decide +kernel, by decide +kernel⟩
theorem d_l_due (T : Txt A mg base) (k : Nat) : xn A.P A.w A.K mg base (k + 2) "_law_due" 3 (xbe A) := by
 obtain ⟨f, fd, h1, h2, h3⟩ := T.f_l_due
 exact xh (k := k + 1) (fx := [0, 1, 2]) h1 h2 h3 sc_l_due rfl (by decide) fun _ _ _ _ _ _ B =>
 (za (jr (yk (c_eq B) (qa B 1) va)
 (xa (vc (zj B (b_int B T.z_int) (qb (qo (c_eq B) (qa B 2) va) wc))))
 ye)
 (za (jr (yk (c_eq B) (qa B 0) vf)
 (xa (vc (wa B (xah T (k + 0)) (aa_d (be_sub B (ke B (qa B 2) (qa B 1)) va) (aa_d (be_sub B (qa B 1) va) xb)))))
 ye)
 (za (jr (yk (c_eq B) (qa B 0) vf)
 (xa (vc (be_if (yk (c_gt B) (qa B 2) va) (wa B (xah T (k + 0)) (aa_d (be_sub B (qa B 2) va) (aa_d (be_sub B (qa B 1) va) xb))) va)))
 ye)
 (za (jr (yk (c_eq B) (qa B 0) vf)
 (xa (vc (wa B (xah T (k + 0)) (aa_d (qa B 1) (aa_d (qa B 2) xb)))))
 ye)
 (xa (vc (zj B (b_int B T.z_int) (qb (qo (c_eq B) (qa B 2) (qa B 1)) wc))))))))
theorem sc_law : FnScope ["_law_script", "_law_k", "_law_draw", "_law_pool_here", "_law_often", "_law_many", "_law_places", "_law_table", "_law_size", "_law_words", "_law_due_here", "_law_ways", "_law_name", "_law_turn"] ["_law_script"] (defScope (topS 39)) := ⟨rfl, rfl, rfl, by decide +kernel, rfl, by decide +kernel, by decide +kernel⟩
theorem fn_law (T : Txt A mg base) (k : Nat) {f : Addr} {fd : FuncData} (h1 : Fun A.K "law" "law" (topS 39) f fd) : FnOk A.P A.w A.K mg base (L2.CX A.P A.w) (k + 8) f fd ["_law_script"] (spF A.K 1 (F_law A)) :=
 def_fn (k := k + 7) (fx := [0]) h1 sc_law rfl (by decide) fun _ _ _ _ _ _ B =>
 (za (z6 B (xav B T.z_range (qb (zj B (b_max B T.z_max) (qb va (qb (zj B (b_len B T.z_len) (qb (qa B 0) wc)) wc))) wc)) (xc B 1)
 (za (yah B 2 (xp (ya (wa B (xbo T (k + 5)) (aa_d (qa B 0) (aa_d (qa B 1) xb))) (ya va ve))))
 (za (yf B 3 (wa B (d_l_pool T (k + 4)) (aa_m B 2 xb)))
 (za (yf B 4 (vo B (xp (ya vf (ya vf (ya vf (ya vf ve))))) (wa B (ze T (k + 5)) (aa_m B 2 (aa_d va xb)))))
 (za (yf B 5 (wa B (ze T (k + 5)) (aa_m B 2 (aa_d va xb))))
 (za (bs_lc B 6 [("_law_name", 12)] (bi_X B (be_sl B (wa B (d_l_titles T (k + 4)) (aa_m B 2 (aa_d va xb))) wbo (ybo (qa B 5)))) (xc (B.blk _) 12) km (be_make (B.blk _) (jbj T (k + 5)) (ya (qa (B.blk _) 12) (ya (be_bare (B.blk _) T.b_AnyWord T.k_AnyWord) (ya (qa (B.blk _) 4) ve)))))
 (za (yf B 7 (be_make B (qbj T (k + 0)) (ya (yae ve) (ya (zj B (b_tuple B T.z_tuple) (qb (qa B 6) wc)) (ya (yae ve) (ya (yae ve) ve))))))
 (za (yf B 8 (vo B (xp (ya (wa B (ze T (k + 5)) (aa_m B 2 (aa_d va xb))) (ya (wa B (ze T (k + 5)) (aa_m B 2 (aa_d va xb))) (ya (wa B (ze T (k + 5)) (aa_m B 2 (aa_d va xb))) ve)))) (wa B (ze T (k + 5)) (aa_m B 2 (aa_d va xb)))))
 (za (bs_lc B 9 [("_law_turn", 13)] (xav B T.z_range (qb (qa B 8) wc)) (xc (B.blk _) 13) km (vo (B.blk _) (qa (B.blk _) 3) (wa (B.blk _) (ze T (k + 5)) (aa_m (B.blk _) 2 (aa_d va xb)))))
 (za (yf B 10 (wa B (d_l_due T (k + 5)) (aa_d (qa B 4) (aa_d (qa B 5) (aa_d (qa B 8) xb)))))
 (za (jr (yk (c_ne B) (wa B (zbo T (k + 4)) (aa_d (qa B 7) (aa_d (qa B 9) xb))) (qa B 10))
 (xa (vc vbd))
 ye)
 (xa (jr (yk (c_lt B) (qa B 8) va)
 (za (yf B 11 (wa B (d_lays T (k + 4)) (aa_d (qa B 7) (aa_d (qa B 9) xb))))
 (xa (jr (bt_w (bw_or (yk (c_ne B) (zj B (b_len B T.z_len) (qb (qa B 11) wc)) (qa B 10)) (za1 (yk (c_ne B) (be_sortW B T.z_sorted T.z_set (qa B 11)) (qa B 11)))))
 (xa (vc vbd))
 ye)))
 ye)))))))))))))
 (xa (vc vbd)))
end
section
variable {A : Ads} {Q : Rv → Prop} {QR : Rv → En → Prop} {E : Exn → En → Prop} {r : En} {ga : PL.P (List PL.Arg)} {fs : List (Str × D)} {d : D}
theorem v5 : (ybc A).contains A.c_Table = true := by simp [ybc]
theorem xad {x_name : D} {x_kind : D} {x_often : D} : wpO (fldD (zm A) "kind" (ka8 A x_name x_kind x_often)) Q ↔ Q (.dat x_kind) := ybb (by simp [zm]) rfl
theorem w5 : (zm A).contains A.c_Place = true := by simp [zm]
theorem zad {x_name : D} {x_kind : D} {x_often : D} : wpO (fldD (ki A) "name" (ka8 A x_name x_kind x_often)) Q ↔ Q (.dat x_name) := ybb (by simp [ki]) rfl
theorem y5 : (ki A).contains A.c_Place = true := by simp [ki]
theorem xw : (kap A).contains A.c_Table = true := by simp [kap]
theorem w4 {x_name : D} {x_kind : D} {x_often : D} : wpO (fldD (vi A) "often" (ka8 A x_name x_kind x_often)) Q ↔ Q (.dat x_often) := ybb (by simp [vi]) rfl
theorem vw : (vi A).contains A.c_Place = true := by simp [vi]
theorem jv {x_wishes : D} {x_places : D} {x_bars : D} {x_needs : D} : wpO (fldD (jf A) "places" (o_Table A x_wishes x_places x_bars x_needs)) Q ↔ Q (.dat x_places) := ybb (by simp [jf]) rfl
theorem zt : (jf A).contains A.c_Table = true := by simp [jf]
theorem jt : (jae A).contains A.c_Table = true := by simp [jae]
theorem kbo : A.cs.contains A.c_AnyWord = true := by simp [Ads.cs]
theorem con_Place : A.cs.contains A.c_Place = true := by simp [Ads.cs]
theorem vj : isiD A.K A.cs [.obj A.c_AnyWord fs, .s (.ref A.c_Kind)] = some (rvB true) := isi_obj kbo A.kit_AnyWord_Kind
theorem wu : isiD A.K A.cs [.obj A.c_Place fs, .s (.ref A.c_Place)] = some (rvB true) := isi_obj con_Place A.kit_Place_Place
theorem mq_holds_AnyWord_AnyWord  : methQ "holds" 2 (zf A) ga QR E (kas A ) r ↔ wp ga (fun as r2 => wp (jx 2 (yh A) (.inl (kas A ) :: as)) QR E r2) E r := methQ_obj rfl altF_hit
end
theorem yad : (("bars" : Str) = "needs") = False := eq_false (by decide +kernel)
theorem vad : (("kind" : Str) = "often") = False := eq_false (by decide +kernel)
theorem yai : (("name" : Str) = "kind") = False := eq_false (by decide +kernel)
theorem kad : (("name" : Str) = "often") = False := eq_false (by decide +kernel)
theorem z5 : (("places" : Str) = "bars") = False := eq_false (by decide +kernel)
theorem vv : (("places" : Str) = "needs") = False := eq_false (by decide +kernel)
theorem j5 : (("wishes" : Str) = "bars") = False := eq_false (by decide +kernel)
theorem xv : (("wishes" : Str) = "needs") = False := eq_false (by decide +kernel)
theorem yr : (("wishes" : Str) = "places") = False := eq_false (by decide +kernel)
end LW
namespace LW
open PySem PySem.Spec PyProof.Rows L2 PL
abbrev LawTrue : Prop := ∀ {A : Ads} {ns : List Int} (hn : ns.length ≤ 63), wp (F_law A) (fun r _ => r = rvB true) EF [.dat (.ro (ns.map fun i => D.s (.int i)))]
theorem all_mk (law_true : LawTrue) {l : W.OpenLaw} {w : World} {K : W.Frag} {h : Heap} {mg : Str → Option Value} {fa cKind cAnyWord cWish cPlace cTable f0 f1 f2 f3 f4 f5 f6 f7 f8 f9 f10 f11 f12 f13 f14 f15 cT pT f16 f17 f18 f19 f20 f21 f22 f23 tOFTENS : Addr} (X : K.In h) (G : h.Ns mainGlobals mg) (hfa : mg "law" = some (.ref fa)) {uLETTERS uMOST_OTHERS uMOST_WISHES : Value}
  (gkKind : W.nsIn K mainGlobals "Kind" = some (some (.ref cKind)))
  (gkAnyWord : W.nsIn K mainGlobals "AnyWord" = some (some (.ref cAnyWord)))
  (gkWish : W.nsIn K mainGlobals "Wish" = some (some (.ref cWish)))
  (gkPlace : W.nsIn K mainGlobals "Place" = some (some (.ref cPlace)))
  (gkTable : W.nsIn K mainGlobals "Table" = some (some (.ref cTable)))
  (nd : [cKind, cAnyWord, cWish, cPlace, cTable].Nodup)
  (kit_AnyWord_Kind : W.kitOne K (.ref cAnyWord) (.ref cKind) = some true)
  (kit_Place_Kind : W.kitOne K (.ref cPlace) (.ref cKind) = some false)
  (kit_Table_Kind : W.kitOne K (.ref cTable) (.ref cKind) = some false)
  (kit_NoneType_Kind : W.kitOne K (.type "NoneType") (.ref cKind) = some false)
  (kit_bool_Kind : W.kitOne K (.type "bool") (.ref cKind) = some false)
  (kit_int_Kind : W.kitOne K (.type "int") (.ref cKind) = some false)
  (kit_str_Kind : W.kitOne K (.type "str") (.ref cKind) = some false)
  (kit_tuple_Kind : W.kitOne K (.type "tuple") (.ref cKind) = some false)
  (kit_list_Kind : W.kitOne K (.type "list") (.ref cKind) = some false)
  (kit_AnyWord_Wish : W.kitOne K (.ref cAnyWord) (.ref cWish) = some false)
  (kit_Place_Wish : W.kitOne K (.ref cPlace) (.ref cWish) = some false)
  (kit_Table_Wish : W.kitOne K (.ref cTable) (.ref cWish) = some false)
  (kit_NoneType_Wish : W.kitOne K (.type "NoneType") (.ref cWish) = some false)
  (kit_bool_Wish : W.kitOne K (.type "bool") (.ref cWish) = some false)
  (kit_int_Wish : W.kitOne K (.type "int") (.ref cWish) = some false)
  (kit_str_Wish : W.kitOne K (.type "str") (.ref cWish) = some false)
  (kit_tuple_Wish : W.kitOne K (.type "tuple") (.ref cWish) = some false)
  (kit_list_Wish : W.kitOne K (.type "list") (.ref cWish) = some false)
  (kit_AnyWord_Place : W.kitOne K (.ref cAnyWord) (.ref cPlace) = some false)
  (kit_Place_Place : W.kitOne K (.ref cPlace) (.ref cPlace) = some true)
  (kit_Table_Place : W.kitOne K (.ref cTable) (.ref cPlace) = some false)
  (kit_NoneType_Place : W.kitOne K (.type "NoneType") (.ref cPlace) = some false)
  (kit_bool_Place : W.kitOne K (.type "bool") (.ref cPlace) = some false)
  (kit_int_Place : W.kitOne K (.type "int") (.ref cPlace) = some false)
  (kit_str_Place : W.kitOne K (.type "str") (.ref cPlace) = some false)
  (kit_tuple_Place : W.kitOne K (.type "tuple") (.ref cPlace) = some false)
  (kit_list_Place : W.kitOne K (.type "list") (.ref cPlace) = some false)
  (kit_AnyWord_bool : W.kitOne K (.ref cAnyWord) (.type "bool") = some false)
  (kit_AnyWord_str : W.kitOne K (.ref cAnyWord) (.type "str") = some false)
  (kit_AnyWord_tuple : W.kitOne K (.ref cAnyWord) (.type "tuple") = some false)
  (kit_Place_bool : W.kitOne K (.ref cPlace) (.type "bool") = some false)
  (kit_Place_str : W.kitOne K (.ref cPlace) (.type "str") = some false)
  (kit_Place_tuple : W.kitOne K (.ref cPlace) (.type "tuple") = some false)
  (kit_Table_bool : W.kitOne K (.ref cTable) (.type "bool") = some false)
  (kit_Table_str : W.kitOne K (.ref cTable) (.type "str") = some false)
  (kit_Table_tuple : W.kitOne K (.ref cTable) (.type "tuple") = some false)
  (clAnyWord : Cls K cAnyWord)
  (icAnyWord : (W.findIn K (.ref cAnyWord) "__class__" = some (some (.builtin "object.__class__")) ∧ W.mroIn K cAnyWord (.type "object") = some true))
  (baAnyWord : Bare K cAnyWord)
  (clPlace : Cls K cPlace)
  (icPlace : (W.findIn K (.ref cPlace) "__class__" = some (some (.builtin "object.__class__")) ∧ W.mroIn K cPlace (.type "object") = some true))
  (naPlace_name : NoAttr K cPlace "name")
  (naPlace_kind : NoAttr K cPlace "kind")
  (naPlace_often : NoAttr K cPlace "often")
  (clTable : Cls K cTable)
  (icTable : (W.findIn K (.ref cTable) "__class__" = some (some (.builtin "object.__class__")) ∧ W.mroIn K cTable (.type "object") = some true))
  (naTable_wishes : NoAttr K cTable "wishes")
  (naTable_places : NoAttr K cTable "places")
  (naTable_bars : NoAttr K cTable "bars")
  (naTable_needs : NoAttr K cTable "needs")
  (hn : (W.specialIn K (.builtin "object.__class__") "__get__" = some (some (.builtin "getset_descriptor.__get__")) ∧ W.takesIn K (.builtin "object.__class__") = some true))
  (a0 : DefAt K "may_again" (topS 1) f0)
  (a1 : DefAt K "may_lack" (topS 2) f1)
  (a2 : MethAt K cAnyWord "holds" "AnyWord.holds" (clsS 17 0) f2)
  (a3 : DefAt K "places_for" (topS 3) f3)
  (a4 : DefAt K "may_close" (topS 4) f4)
  (a5 : DefAt K "last_of" (topS 5) f5)
  (a6 : DefAt K "lays" (topS 6) f6)
  (a7 : DefAt K "lays_many" (topS 7) f7)
  (a8 : MethAt K cPlace "__init__" "Place.__init__" (clsS 24 0) f8)
  (mk8 : (W.makesIn K cPlace = true ∧ W.keepIn K (.ref cPlace) = true))
  (a9 : DefAt K "are_letters" (topS 14) f9)
  (a10 : DefAt K "is_named" (topS 25) f10)
  (a11 : DefAt K "is_wish" (topS 26) f11)
  (a12 : DefAt K "is_place" (topS 27) f12)
  (a13 : DefAt K "is_pair" (topS 28) f13)
  (a14 : DefAt K "need_part" (topS 29) f14)
  (a15 : MethAtC K cTable "__init__" "Table.__init__" (clsS 30 0) f15 cT)
  (mk15 : (W.makesIn K cTable = true ∧ W.keepIn K (.ref cTable) = true))
  (a16 : DefAt K "_law_mixed" (topS 32) f16)
  (a17 : DefAt K "_law_cell_at" (topS 33) f17)
  (a18 : DefAt K "_law_next" (topS 34) f18)
  (a19 : DefAt K "_law_titles" (topS 35) f19)
  (a20 : DefAt K "_law_pool" (topS 36) f20)
  (a21 : DefAt K "_law_chosen" (topS 37) f21)
  (a22 : DefAt K "_law_due" (topS 38) f22)
  (a23 : DefAt K "law" (topS 39) f23)
  (hT : h.get? pT = some { cls := .none, data := .fields #[] })
  (hcd : W.codeHdIn K cT pT = true)
  (nT : K.lookup pT = none)
  (zall : W.nsIn K mainGlobals "all" = some none)
  (zbool : W.nsIn K mainGlobals "bool" = some none)
  (zenumerate : W.nsIn K mainGlobals "enumerate" = some none)
  (zint : W.nsIn K mainGlobals "int" = some none)
  (zisinstance : W.nsIn K mainGlobals "isinstance" = some none)
  (zlen : W.nsIn K mainGlobals "len" = some none)
  (zmax : W.nsIn K mainGlobals "max" = some none)
  (zrange : W.nsIn K mainGlobals "range" = some none)
  (zset : W.nsIn K mainGlobals "set" = some none)
  (zsorted : W.nsIn K mainGlobals "sorted" = some none)
  (zstr : W.nsIn K mainGlobals "str" = some none)
  (zsum : W.nsIn K mainGlobals "sum" = some none)
  (ztuple : W.nsIn K mainGlobals "tuple" = some none)
  (zzip : W.nsIn K mainGlobals "zip" = some none)
  (qOFTENS : W.nsIn K mainGlobals "OFTENS" = some (some (.ref tOFTENS)))
  (vOFTENS : ∃ (o : Obj) (its : Array Value) (n : Nat), K.lookup tOFTENS = some o ∧ o.cls = .type "tuple" ∧ o.data = .seq its n ∧ its.size ≤ sizeLine ∧ L2.Vals (c_OFTENS.map L2.V.str) its.toList)
  (qLETTERS : W.nsIn K mainGlobals "LETTERS" = some (some uLETTERS))
  (rLETTERS : L2.RelV c_LETTERS uLETTERS)
  (qMOST_OTHERS : W.nsIn K mainGlobals "MOST_OTHERS" = some (some uMOST_OTHERS))
  (rMOST_OTHERS : L2.RelV c_MOST_OTHERS uMOST_OTHERS)
  (qMOST_WISHES : W.nsIn K mainGlobals "MOST_WISHES" = some (some uMOST_WISHES))
  (rMOST_WISHES : L2.RelV c_MOST_WISHES uMOST_WISHES) :
  LamX.LawAtS l w K (L2.CX l.prog w) 8 63 "_law_script" mg fa h := by
 have e := hfa.symm.trans (W.mg_of X G a23.at_)
 cases e
 have hPT : TabP K pT := a15.tabP gkTable hcd
 have T : ∀ base : Heap, LamX.TabB base mg cT pT → Txt ⟨l.prog, w, K, cKind, cAnyWord, cWish, cPlace, cTable, cT, pT, nd, kit_AnyWord_Kind, kit_Place_Kind, kit_Table_Kind, kit_NoneType_Kind, kit_bool_Kind, kit_int_Kind, kit_str_Kind, kit_tuple_Kind, kit_list_Kind, kit_AnyWord_Wish, kit_Place_Wish, kit_Table_Wish, kit_NoneType_Wish, kit_bool_Wish, kit_int_Wish, kit_str_Wish, kit_tuple_Wish, kit_list_Wish, kit_AnyWord_Place, kit_Place_Place, kit_Table_Place, kit_NoneType_Place, kit_bool_Place, kit_int_Place, kit_str_Place, kit_tuple_Place, kit_list_Place, kit_AnyWord_bool, kit_AnyWord_str, kit_AnyWord_tuple, kit_Place_bool, kit_Place_str, kit_Place_tuple, kit_Table_bool, kit_Table_str, kit_Table_tuple⟩ mg base := fun base hTB => {
  f_may_again := ⟨_, _, a0.fn, W.mg_of X G a0.at_, a0.fn.binds (ps := ["place"]) fun _ _ _ _ _ _ us hl => match us, hl with | [_], _ => rfl⟩
  f_may_lack := ⟨_, _, a1.fn, W.mg_of X G a1.at_, a1.fn.binds (ps := ["place"]) fun _ _ _ _ _ _ us hl => match us, hl with | [_], _ => rfl⟩
  f_AnyWord_holds := ⟨_, _, a2.fn, a2.meth, a2.fn.binds (ps := ["self", "word"]) fun _ _ _ _ _ _ us hl => match us, hl with | [_, _], _ => rfl⟩
  f_places_for := ⟨_, _, a3.fn, W.mg_of X G a3.at_, a3.fn.binds (ps := ["table", "last", "word"]) fun _ _ _ _ _ _ us hl => match us, hl with | [_, _, _], _ => rfl⟩
  f_may_close := ⟨_, _, a4.fn, W.mg_of X G a4.at_, a4.fn.binds (ps := ["table", "last"]) fun _ _ _ _ _ _ us hl => match us, hl with | [_, _], _ => rfl⟩
  f_last_of := ⟨_, _, a5.fn, W.mg_of X G a5.at_, a5.fn.binds (ps := ["way"]) fun _ _ _ _ _ _ us hl => match us, hl with | [_], _ => rfl⟩
  f_lays := ⟨_, _, a6.fn, W.mg_of X G a6.at_, a6.fn.binds (ps := ["table", "words"]) fun _ _ _ _ _ _ us hl => match us, hl with | [_, _], _ => rfl⟩
  f_lays_many := ⟨_, _, a7.fn, W.mg_of X G a7.at_, a7.fn.binds (ps := ["table", "words"]) fun _ _ _ _ _ _ us hl => match us, hl with | [_, _], _ => rfl⟩
  f_Place_init := ⟨_, _, a8.fn, a8.mkOk mk8.1 mk8.2, a8.fn.binds (ps := ["self", "name", "kind", "often"]) fun _ _ _ _ _ _ us hl => match us, hl with | [_, _, _, _], _ => rfl⟩
  f_are_letters := ⟨_, _, a9.fn, W.mg_of X G a9.at_, a9.fn.binds (ps := ["thing", "least", "most"]) fun _ _ _ _ _ _ us hl => match us, hl with | [_, _, _], _ => rfl⟩
  f_is_named := ⟨_, _, a10.fn, W.mg_of X G a10.at_, a10.fn.binds (ps := ["thing", "names"]) fun _ _ _ _ _ _ us hl => match us, hl with | [_, _], _ => rfl⟩
  f_is_wish := ⟨_, _, a11.fn, W.mg_of X G a11.at_, a11.fn.binds (ps := ["thing", "ahead"]) fun _ _ _ _ _ _ us hl => match us, hl with | [_, _], _ => rfl⟩
  f_is_place := ⟨_, _, a12.fn, W.mg_of X G a12.at_, a12.fn.binds (ps := ["thing", "names"]) fun _ _ _ _ _ _ us hl => match us, hl with | [_, _], _ => rfl⟩
  f_is_pair := ⟨_, _, a13.fn, W.mg_of X G a13.at_, a13.fn.binds (ps := ["thing", "names"]) fun _ _ _ _ _ _ us hl => match us, hl with | [_, _], _ => rfl⟩
  f_need_part := ⟨_, _, a14.fn, W.mg_of X G a14.at_, a14.fn.binds (ps := ["part", "things", "most", "is_right"]) fun _ _ _ _ _ _ us hl => match us, hl with | [_, _, _, _], _ => rfl⟩
  f_Table_init := by
   obtain ⟨fd, z1, z2⟩ := a15.fnC
   exact ⟨_, fd, z2, z1, a15.mkOk mk15.1 mk15.2, z2.binds (ps := ["self", "wishes", "places", "bars", "needs"]) fun _ _ _ _ _ _ us hl => match us, hl with | [_, _, _, _, _], _ => rfl⟩
  f_l_mixed := ⟨_, _, a16.fn, W.mg_of X G a16.at_, a16.fn.binds (ps := ["_law_cell", "_law_k"]) fun _ _ _ _ _ _ us hl => match us, hl with | [_, _], _ => rfl⟩
  f_l_cell_at := ⟨_, _, a17.fn, W.mg_of X G a17.at_, a17.fn.binds (ps := ["_law_script", "_law_k"]) fun _ _ _ _ _ _ us hl => match us, hl with | [_, _], _ => rfl⟩
  f_l_next := ⟨_, _, a18.fn, W.mg_of X G a18.at_, a18.fn.binds (ps := ["_law_draw", "_law_size"]) fun _ _ _ _ _ _ us hl => match us, hl with | [_, _], _ => rfl⟩
  f_l_titles := ⟨_, _, a19.fn, W.mg_of X G a19.at_, a19.fn.binds (ps := ["_law_draw", "_law_many"]) fun _ _ _ _ _ _ us hl => match us, hl with | [_, _], _ => rfl⟩
  f_l_pool := ⟨_, _, a20.fn, W.mg_of X G a20.at_, a20.fn.binds (ps := ["_law_draw"]) fun _ _ _ _ _ _ us hl => match us, hl with | [_], _ => rfl⟩
  f_l_chosen := ⟨_, _, a21.fn, W.mg_of X G a21.at_, a21.fn.binds (ps := ["_law_many", "_law_some"]) fun _ _ _ _ _ _ us hl => match us, hl with | [_, _], _ => rfl⟩
  f_l_due := ⟨_, _, a22.fn, W.mg_of X G a22.at_, a22.fn.binds (ps := ["_law_often", "_law_places", "_law_words"]) fun _ _ _ _ _ _ us hl => match us, hl with | [_, _, _], _ => rfl⟩
  f_law := ⟨_, _, a23.fn, W.mg_of X G a23.at_, a23.fn.binds (ps := ["_law_script"]) fun _ _ _ _ _ _ us hl => match us, hl with | [_], _ => rfl⟩
  k_Kind := W.mg_of X G gkKind
  k_AnyWord := W.mg_of X G gkAnyWord
  k_Wish := W.mg_of X G gkWish
  k_Place := W.mg_of X G gkPlace
  k_Table := W.mg_of X G gkTable
  cl_AnyWord := clAnyWord
  b_AnyWord := baAnyWord
  cl_Place := clPlace
  cl_Table := clTable
  na_bars := (con1 ⟨clTable, naTable_bars⟩ con0)
  na_kind := (con1 ⟨clPlace, naPlace_kind⟩ con0)
  na_letter := con0
  na_many := con0
  na_may := con0
  na_must := con0
  na_name := (con1 ⟨clPlace, naPlace_name⟩ con0)
  na_needs := (con1 ⟨clTable, naTable_needs⟩ con0)
  na_often := (con1 ⟨clPlace, naPlace_often⟩ con0)
  na_places := (con1 ⟨clTable, naTable_places⟩ con0)
  na_wishes := (con1 ⟨clTable, naTable_wishes⟩ con0)
  z_all := W.mg_none_of X G zall
  z_bool := W.mg_none_of X G zbool
  z_enumerate := W.mg_none_of X G zenumerate
  z_int := W.mg_none_of X G zint
  z_isinstance := W.mg_none_of X G zisinstance
  z_len := W.mg_none_of X G zlen
  z_max := W.mg_none_of X G zmax
  z_range := W.mg_none_of X G zrange
  z_set := W.mg_none_of X G zset
  z_sorted := W.mg_none_of X G zsorted
  z_str := W.mg_none_of X G zstr
  z_sum := W.mg_none_of X G zsum
  z_tuple := W.mg_none_of X G ztuple
  z_zip := W.mg_none_of X G zzip
  c_OFTENS := ⟨.ref tOFTENS, .ref tOFTENS, W.mg_of X G qOFTENS, (rfl : L2.RelV (.ref tOFTENS) (.ref tOFTENS)), tup_strs vOFTENS⟩
  c_LETTERS := ⟨_, W.mg_of X G qLETTERS, rLETTERS⟩
  c_MOST_OTHERS := ⟨_, W.mg_of X G qMOST_OTHERS, rMOST_OTHERS⟩
  c_MOST_WISHES := ⟨_, W.mg_of X G qMOST_WISHES, rMOST_WISHES⟩
  tb := hTB
  tabP := hPT
  isi := (con1 ⟨clAnyWord, icAnyWord.1, hn.1, hn.2, icAnyWord.2⟩ (con1 ⟨clPlace, icPlace.1, hn.1, hn.2, icPlace.2⟩ (con1 ⟨clTable, icTable.1, hn.1, hn.2, icTable.2⟩ con0)))
  xcs := con0 }
 obtain ⟨oc, od, dc, pm, an, cd, ct, sl, kV, l1, c1⟩ := a23.ex
 have key := fun (base : Heap) (hTB : LamX.TabB base mg cT pT) => (fn_law (A := ⟨l.prog, w, K, cKind, cAnyWord, cWish, cPlace, cTable, cT, pT, nd, kit_AnyWord_Kind, kit_Place_Kind, kit_Table_Kind, kit_NoneType_Kind, kit_bool_Kind, kit_int_Kind, kit_str_Kind, kit_tuple_Kind, kit_list_Kind, kit_AnyWord_Wish, kit_Place_Wish, kit_Table_Wish, kit_NoneType_Wish, kit_bool_Wish, kit_int_Wish, kit_str_Wish, kit_tuple_Wish, kit_list_Wish, kit_AnyWord_Place, kit_Place_Place, kit_Table_Place, kit_NoneType_Place, kit_bool_Place, kit_int_Place, kit_str_Place, kit_tuple_Place, kit_list_Place, kit_AnyWord_bool, kit_AnyWord_str, kit_AnyWord_tuple, kit_Place_bool, kit_Place_str, kit_Place_tuple, kit_Table_bool, kit_Table_str, kit_Table_tuple⟩) (T base hTB) 0 (fun_mk (st := topS 39) l1 c1 a23.kp)).imp (spF_law fun ns hn => law_true hn)
 exact ⟨_, [(cT, pT)], spLaw K, fun p hp => by rw [List.mem_singleton.mp hp]; exact hT, fun p hp => by rw [List.mem_singleton.mp hp]; exact nT, fun p hp => by rw [List.mem_singleton.mp hp]; exact W.codeHd_of_K X hcd, fun s v => .of_eq rfl, fun H a ns hl _ hH hS => ⟨a, ns, rfl, hS, hl, fun P hP => by rw [a15.tab_only gkTable hcd hP]; exact LamX.TabS.nil (hH (cT, pT) (List.mem_singleton.mpr rfl)), fun _ => rfl⟩, fun base _ _ hTB0 => key base (hTB0 (cT, pT) (List.mem_singleton.mpr rfl))⟩
end LW
section
open PySem PySem.W PyProof.Rows
set_option maxHeartbeats 0 in
theorem fin_ (law_true : LW.LawTrue) : PySem.Challenge.rw_wishwords_k18_laid_by_number.Holds := by
 w_on; o_law
 refine holds_open (q := HD.view) (loose := HD.loose) (Xt := fun s => xlAt HD.view [] s && recOk PySem.Challenge.rw_wishwords_k18_laid_by_number.row.records s) (XP := XL HD.view []) (Yf := Hook.obs (kHook (HX.kT HD.h0.heap_1 [269]) HD.asL HD.asE)) (Ya := Hook.val (kHook (HX.kT HD.h0.heap_1 [269]) HD.asL HD.asE)) (YP := Hook.says (kHook (HX.kT HD.h0.heap_1 [269]) HD.asL HD.asE)) (N := 6320) HD.left (Hook.of _) (Hook.keeps _) (fun s e => xl_of s (Bool.and_eq_true_iff.mp e).1) XL.keeps (by rfl) (by rfl) (by rfl) (fun s e => recFacts_of (Bool.and_eq_true_iff.mp e).2) (by rfl) (by first | assumption | decide +kernel) (by decide +kernel) ⟨rfl, rfl, rfl, rfl, rfl, pTW⟩ ?hw ?hc
 (case hw => w_witness2)
 k_fill
 refine LamX.walk_ofTs (l := PySem.Challenge.rw_wishwords_k18_laid_by_number) (n := 63) (k := 8) (x := "_law_script") (CX := fun w => L2.CX PySem.Challenge.rw_wishwords_k18_laid_by_number.prog w) rfl (by decide) rfl ⟨rfl, by decide, by decide⟩ (fun w h Y => HX.in_of Y) ?F (fun _ _ _ _ _ h => by obtain ⟨_, _, _, _, _, _, _, _, _, _, _, _, z⟩ := h; exact z.elim)
 case F =>
  intro w mg fa h Y KX G hmg
  refine' LW.all_mk law_true KX G hmg ?gkKind ?gkAnyWord ?gkWish ?gkPlace ?gkTable ?nd ?kit_AnyWord_Kind ?kit_Place_Kind ?kit_Table_Kind ?kit_NoneType_Kind ?kit_bool_Kind ?kit_int_Kind ?kit_str_Kind ?kit_tuple_Kind ?kit_list_Kind ?kit_AnyWord_Wish ?kit_Place_Wish ?kit_Table_Wish ?kit_NoneType_Wish ?kit_bool_Wish ?kit_int_Wish ?kit_str_Wish ?kit_tuple_Wish ?kit_list_Wish ?kit_AnyWord_Place ?kit_Place_Place ?kit_Table_Place ?kit_NoneType_Place ?kit_bool_Place ?kit_int_Place ?kit_str_Place ?kit_tuple_Place ?kit_list_Place ?kit_AnyWord_bool ?kit_AnyWord_str ?kit_AnyWord_tuple ?kit_Place_bool ?kit_Place_str ?kit_Place_tuple ?kit_Table_bool ?kit_Table_str ?kit_Table_tuple ?clAnyWord ?icAnyWord ?baAnyWord ?clPlace ?icPlace ?naPlace_name ?naPlace_kind ?naPlace_often ?clTable ?icTable ?naTable_wishes ?naTable_places ?naTable_bars ?naTable_needs ?hn ?a0 ?a1 ?a2 ?a3 ?a4 ?a5 ?a6 ?a7 ?a8 ?mk8 ?a9 ?a10 ?a11 ?a12 ?a13 ?a14 ?a15 ?mk15 ?a16 ?a17 ?a18 ?a19 ?a20 ?a21 ?a22 ?a23 ?hT ?hcd ?nT ?zall ?zbool ?zenumerate ?zint ?zisinstance ?zlen ?zmax ?zrange ?zset ?zsorted ?zstr ?zsum ?ztuple ?zzip ?qOFTENS ?vOFTENS ?qLETTERS ?rLETTERS ?qMOST_OTHERS ?rMOST_OTHERS ?qMOST_WISHES ?rMOST_WISHES
  (case gkKind => first | k_is | rfl | decide +kernel)
  (case gkAnyWord => first | k_is | rfl | decide +kernel)
  (case gkWish => first | k_is | rfl | decide +kernel)
  (case gkPlace => first | k_is | rfl | decide +kernel)
  (case gkTable => first | k_is | rfl | decide +kernel)
  (case nd => decide)
  (case kit_AnyWord_Kind => first | k_is | rfl | decide +kernel)
  (case kit_Place_Kind => first | k_is | rfl | decide +kernel)
  (case kit_Table_Kind => first | k_is | rfl | decide +kernel)
  (case kit_NoneType_Kind => first | k_is | rfl | decide +kernel)
  (case kit_bool_Kind => first | k_is | rfl | decide +kernel)
  (case kit_int_Kind => first | k_is | rfl | decide +kernel)
  (case kit_str_Kind => first | k_is | rfl | decide +kernel)
  (case kit_tuple_Kind => first | k_is | rfl | decide +kernel)
  (case kit_list_Kind => first | k_is | rfl | decide +kernel)
  (case kit_AnyWord_Wish => first | k_is | rfl | decide +kernel)
  (case kit_Place_Wish => first | k_is | rfl | decide +kernel)
  (case kit_Table_Wish => first | k_is | rfl | decide +kernel)
  (case kit_NoneType_Wish => first | k_is | rfl | decide +kernel)
  (case kit_bool_Wish => first | k_is | rfl | decide +kernel)
  (case kit_int_Wish => first | k_is | rfl | decide +kernel)
  (case kit_str_Wish => first | k_is | rfl | decide +kernel)
  (case kit_tuple_Wish => first | k_is | rfl | decide +kernel)
  (case kit_list_Wish => first | k_is | rfl | decide +kernel)
  (case kit_AnyWord_Place => first | k_is | rfl | decide +kernel)
  (case kit_Place_Place => first | k_is | rfl | decide +kernel)
  (case kit_Table_Place => first | k_is | rfl | decide +kernel)
  (case kit_NoneType_Place => first | k_is | rfl | decide +kernel)
  (case kit_bool_Place => first | k_is | rfl | decide +kernel)
  (case kit_int_Place => first | k_is | rfl | decide +kernel)
  (case kit_str_Place => first | k_is | rfl | decide +kernel)
  (case kit_tuple_Place => first | k_is | rfl | decide +kernel)
  (case kit_list_Place => first | k_is | rfl | decide +kernel)
  (case kit_AnyWord_bool => first | k_is | rfl | decide +kernel)
  (case kit_AnyWord_str => first | k_is | rfl | decide +kernel)
  (case kit_AnyWord_tuple => first | k_is | rfl | decide +kernel)
  (case kit_Place_bool => first | k_is | rfl | decide +kernel)
  (case kit_Place_str => first | k_is | rfl | decide +kernel)
  (case kit_Place_tuple => first | k_is | rfl | decide +kernel)
  (case kit_Table_bool => first | k_is | rfl | decide +kernel)
  (case kit_Table_str => first | k_is | rfl | decide +kernel)
  (case kit_Table_tuple => first | k_is | rfl | decide +kernel)
  (case clAnyWord => constructor <;> (first | k_is | rfl | decide +kernel))
  (case icAnyWord => constructor <;> (first | k_is | rfl | decide +kernel))
  (case baAnyWord => constructor <;> (first | k_is | rfl | decide +kernel))
  (case clPlace => constructor <;> (first | k_is | rfl | decide +kernel))
  (case icPlace => constructor <;> (first | k_is | rfl | decide +kernel))
  (case naPlace_name => show W.findIn _ _ _ = _; first | k_is | rfl | decide +kernel)
  (case naPlace_kind => show W.findIn _ _ _ = _; first | k_is | rfl | decide +kernel)
  (case naPlace_often => show W.findIn _ _ _ = _; first | k_is | rfl | decide +kernel)
  (case clTable => constructor <;> (first | k_is | rfl | decide +kernel))
  (case icTable => constructor <;> (first | k_is | rfl | decide +kernel))
  (case naTable_wishes => show W.findIn _ _ _ = _; first | k_is | rfl | decide +kernel)
  (case naTable_places => show W.findIn _ _ _ = _; first | k_is | rfl | decide +kernel)
  (case naTable_bars => show W.findIn _ _ _ = _; first | k_is | rfl | decide +kernel)
  (case naTable_needs => show W.findIn _ _ _ = _; first | k_is | rfl | decide +kernel)
  (case hn => constructor <;> (first | k_is | rfl | decide +kernel))
  (case a0 => refine' PL.DefAt.of ?xa0 ?xl0 ?xc0 ?xk0; (case xa0 => k_is); (case xl0 => k_is); (case xc0 => k_is); (case xk0 => k_is))
  (case a1 => refine' PL.DefAt.of ?xa1 ?xl1 ?xc1 ?xk1; (case xa1 => k_is); (case xl1 => k_is); (case xc1 => k_is); (case xk1 => k_is))
  (case a2 => refine' PL.MethAt.of ?xa2 ?xl2 ?xc2 ?xk2 ?xf2; (case xa2 => k_is); (case xl2 => k_is); (case xc2 => k_is); (case xk2 => k_is); (case xf2 => first | k_is | rfl | decide +kernel))
  (case a3 => refine' PL.DefAt.of ?xa3 ?xl3 ?xc3 ?xk3; (case xa3 => k_is); (case xl3 => k_is); (case xc3 => k_is); (case xk3 => k_is))
  (case a4 => refine' PL.DefAt.of ?xa4 ?xl4 ?xc4 ?xk4; (case xa4 => k_is); (case xl4 => k_is); (case xc4 => k_is); (case xk4 => k_is))
  (case a5 => refine' PL.DefAt.of ?xa5 ?xl5 ?xc5 ?xk5; (case xa5 => k_is); (case xl5 => k_is); (case xc5 => k_is); (case xk5 => k_is))
  (case a6 => refine' PL.DefAt.of ?xa6 ?xl6 ?xc6 ?xk6; (case xa6 => k_is); (case xl6 => k_is); (case xc6 => k_is); (case xk6 => k_is))
  (case a7 => refine' PL.DefAt.of ?xa7 ?xl7 ?xc7 ?xk7; (case xa7 => k_is); (case xl7 => k_is); (case xc7 => k_is); (case xk7 => k_is))
  (case a8 => refine' PL.MethAt.of ?xa8 ?xl8 ?xc8 ?xk8 ?xf8; (case xa8 => k_is); (case xl8 => k_is); (case xc8 => k_is); (case xk8 => k_is); (case xf8 => first | k_is | rfl | decide +kernel))
  (case mk8 => constructor <;> (first | k_is | rfl | decide +kernel))
  (case a9 => refine' PL.DefAt.of ?xa9 ?xl9 ?xc9 ?xk9; (case xa9 => k_is); (case xl9 => k_is); (case xc9 => k_is); (case xk9 => k_is))
  (case a10 => refine' PL.DefAt.of ?xa10 ?xl10 ?xc10 ?xk10; (case xa10 => k_is); (case xl10 => k_is); (case xc10 => k_is); (case xk10 => k_is))
  (case a11 => refine' PL.DefAt.of ?xa11 ?xl11 ?xc11 ?xk11; (case xa11 => k_is); (case xl11 => k_is); (case xc11 => k_is); (case xk11 => k_is))
  (case a12 => refine' PL.DefAt.of ?xa12 ?xl12 ?xc12 ?xk12; (case xa12 => k_is); (case xl12 => k_is); (case xc12 => k_is); (case xk12 => k_is))
  (case a13 => refine' PL.DefAt.of ?xa13 ?xl13 ?xc13 ?xk13; (case xa13 => k_is); (case xl13 => k_is); (case xc13 => k_is); (case xk13 => k_is))
  (case a14 => refine' PL.DefAt.of ?xa14 ?xl14 ?xc14 ?xk14; (case xa14 => k_is); (case xl14 => k_is); (case xc14 => k_is); (case xk14 => k_is))
  (case a15 => refine' PL.MethAtC.of ?xa15 ?xl15 ?xc15 ?xk15 ?xf15; (case xa15 => k_is); (case xl15 => k_is); (case xc15 => k_is); (case xk15 => k_is); (case xf15 => first | k_is | rfl | decide +kernel))
  (case mk15 => constructor <;> (first | k_is | rfl | decide +kernel))
  (case a16 => refine' PL.DefAt.of ?xa16 ?xl16 ?xc16 ?xk16; (case xa16 => k_is); (case xl16 => k_is); (case xc16 => k_is); (case xk16 => k_is))
  (case a17 => refine' PL.DefAt.of ?xa17 ?xl17 ?xc17 ?xk17; (case xa17 => k_is); (case xl17 => k_is); (case xc17 => k_is); (case xk17 => k_is))
  (case a18 => refine' PL.DefAt.of ?xa18 ?xl18 ?xc18 ?xk18; (case xa18 => k_is); (case xl18 => k_is); (case xc18 => k_is); (case xk18 => k_is))
  (case a19 => refine' PL.DefAt.of ?xa19 ?xl19 ?xc19 ?xk19; (case xa19 => k_is); (case xl19 => k_is); (case xc19 => k_is); (case xk19 => k_is))
  (case a20 => refine' PL.DefAt.of ?xa20 ?xl20 ?xc20 ?xk20; (case xa20 => k_is); (case xl20 => k_is); (case xc20 => k_is); (case xk20 => k_is))
  (case a21 => refine' PL.DefAt.of ?xa21 ?xl21 ?xc21 ?xk21; (case xa21 => k_is); (case xl21 => k_is); (case xc21 => k_is); (case xk21 => k_is))
  (case a22 => refine' PL.DefAt.of ?xa22 ?xl22 ?xc22 ?xk22; (case xa22 => k_is); (case xl22 => k_is); (case xc22 => k_is); (case xk22 => k_is))
  (case a23 => refine' PL.DefAt.of ?xa23 ?xl23 ?xc23 ?xk23; (case xa23 => k_is); (case xl23 => k_is); (case xc23 => k_is); (case xk23 => k_is))
  (case hT => exact HX.tab_of Y (by first | k_is | rfl | decide +kernel))
  (case hcd => first | k_is | rfl | decide +kernel)
  (case nT => first | k_is | rfl | decide +kernel)
  (case zall => k_is)
  (case zbool => k_is)
  (case zenumerate => k_is)
  (case zint => k_is)
  (case zisinstance => k_is)
  (case zlen => k_is)
  (case zmax => k_is)
  (case zrange => k_is)
  (case zset => k_is)
  (case zsorted => k_is)
  (case zstr => k_is)
  (case zsum => k_is)
  (case ztuple => k_is)
  (case zzip => k_is)
  (case qOFTENS => k_is)
  (case vOFTENS => refine' PL.tupAt ?vhOFTENS ?vzOFTENS ?vvOFTENS; (case vhOFTENS => k_is); (case vzOFTENS => decide); (case vvOFTENS => repeat (first | exact .nil | refine .cons ⟨_, rfl⟩ ?_)))
  (case qLETTERS => k_is)
  (case rLETTERS => exact ⟨_, rfl⟩)
  (case qMOST_OTHERS => k_is)
  (case rMOST_OTHERS => exact ⟨_, rfl⟩)
  (case qMOST_WISHES => k_is)
  (case rMOST_WISHES => exact ⟨_, rfl⟩)
end
namespace PL
open PySem
theorem int_figs {w : Str} (h : ∀ c ∈ w.cps.toList, 48 ≤ c ∧ c ≤ 57) (h1 : w.cps.toList ≠ []) (h2 : w.length ≤ 640) : intD [.s (.str w)] = some (rvI ((NumText.digitsVal w.cps.toList : Nat) : Int)) := by
 unfold intD
 simp only [if_pos h2, intText_digits h h1 (by omega)]
end PL
namespace PL
open PySem PySem.Spec PyProof.Rows L2
end PL
namespace PL
open PySem L2
section
variable {K : PySem.W.Frag} {W : WX} {fx : List Nat}
def sRaise (c : Addr) : PL.P Fl := fun ρ => some (.ex ⟨c, none⟩ ρ)
end
section
variable {K : PySem.W.Frag} {QF : Fl → En → Prop} {E : Exn → En → Prop} {ρ : En}
theorem wp_raise {c : Addr} : wp (sRaise c) QF E ρ ↔ E ⟨c, none⟩ ρ := Iff.rfl
theorem none_exc {c : Addr} {b : Bool} {fs : List (Str × D)} : isNone (.exc c b fs) = false := rfl
end
end PL
namespace PL
open PySem L2 PySem.Spec PyProof.Rows
end PL
namespace LW
open PySem L2 PL
def cv (g h : List Str → Nat) : List Str → Nat
 | [] => g [] * h []
 | w :: ws => g [] * h (w :: ws) + cv (fun t => g (w :: t)) h ws
def Lk (ps : List Pl) (a b : Int) : Prop := ∀ (j : Nat) (q : Pl), a < j → (j : Int) < b → ps[j]? = some q → q.o.lack = true
def Goes (ps : List Pl) (last : Int) (w : Str) (n : Int) : Prop := ∃ k : Nat, n = k ∧ ∃ p, ps[k]? = some p ∧ p.k.holds w = true ∧ ((last = k ∧ p.o.again = true) ∨ (last < k ∧ Lk ps last k))
theorem scan_iff {w : Str} : ∀ {ps : List Pl} {j : Nat} {n : Int}, n ∈ scan w ps j ↔ ∃ k : Nat, n = (j + k : Nat) ∧ ∃ p, ps[k]? = some p ∧ p.k.holds w = true ∧ ∀ i < k, ∀ q, ps[i]? = some q → q.o.lack = true
 | [], j, n => by simp [scan]
 | p :: r, j, n => by
  rw [scan, List.mem_append]
  constructor
  ·rintro (m | m)
   ·split at m
    ·rename_i c
     exact ⟨0, List.mem_singleton.mp m, p, rfl, c, fun i hi => absurd hi (by omega)⟩
    ·cases m
   ·split at m
    ·rename_i c
     obtain ⟨k, rfl, q, h1, h2, h3⟩ := scan_iff.mp m
     refine ⟨k + 1, by omega, q, h1, h2, fun i hi x hx => ?_⟩
     cases i with
     | zero => cases hx; exact c
     | succ i => exact h3 i (by omega) x hx
    ·cases m
  ·rintro ⟨k, rfl, q, h1, h2, h3⟩
   cases k with
   | zero => cases h1; rw [if_pos h2]; exact .inl (List.mem_singleton.mpr rfl)
   | succ k =>
    rw [if_pos (h3 0 (by omega) p rfl)]
    exact .inr (scan_iff.mpr ⟨k, by omega, q, h1, h2, fun i hi x hx => h3 (i + 1) (by omega) x hx⟩)
theorem pfor_iff {ps : List Pl} {last : Int} {w : Str} {n : Int} (h : -1 ≤ last) : n ∈ pfor ps last w ↔ Goes ps last w n := by
 unfold pfor Goes
 rw [List.mem_append, scan_iff]
 constructor
 ·rintro (m | ⟨k, rfl, p, h1, h2, h3⟩)
  ·unfold qp at m
   split at m
   ·rename_i c
    cases q : ps[last.toNat]? with
    | none => rw [q] at m; cases m
    | some p =>
     rw [q] at m
     dsimp only at m
     split at m
     ·rename_i c2
      rw [Bool.and_eq_true] at c2
      obtain rfl := List.mem_singleton.mp m
      exact ⟨n.toNat, by omega, p, q, c2.2, .inl ⟨by omega, c2.1⟩⟩
     ·cases m
   ·cases m
  ·rw [List.getElem?_drop] at h1
   refine ⟨_, rfl, p, h1, h2, .inr ⟨by omega, fun j q j1 j2 j3 => h3 (j - (last + 1).toNat) (by omega) q ?_⟩⟩
   rw [List.getElem?_drop, show (last + 1).toNat + (j - (last + 1).toNat) = j by omega, j3]
 ·rintro ⟨k, rfl, p, h1, h2, ⟨rfl, h3⟩ | ⟨h3, h4⟩⟩
  ·refine .inl ?_
   unfold qp
   rw [if_pos (by omega), Int.toNat_natCast, h1]
   dsimp only
   rw [h2, h3]
   exact List.mem_singleton.mpr rfl
  ·refine .inr ⟨k - (last + 1).toNat, by omega, p, ?_, h2, fun i hi q hq => ?_⟩
   ·rw [List.getElem?_drop, show (last + 1).toNat + (k - (last + 1).toNat) = k by omega, h1]
   ·rw [List.getElem?_drop] at hq
    exact h4 _ q (by omega) (by omega) hq
def OkW (ps : List Pl) : Int → List Str → List Int → Prop
 | last, [], [] => Lk ps last ps.length
 | last, w :: ws, n :: ns => Goes ps last w n ∧ OkW ps n ws ns
 | _, _, _ => False
def StepW (ps : List Pl) : Int → List Str → List Int → Prop
 | _, [], [] => True
 | last, w :: ws, n :: ns => Goes ps last w n ∧ StepW ps n ws ns
 | _, _, _ => False
theorem goes_in {ps : List Pl} {last : Int} {w : Str} {n : Int} (h : Goes ps last w n) : 0 ≤ n ∧ last ≤ n ∧ n < ps.length := by
 obtain ⟨k, rfl, p, h1, h2, h3⟩ := h
 have := (List.getElem?_eq_some_iff.mp h1).1
 rcases h3 with ⟨rfl, _⟩ | ⟨h3, _⟩ <;> omega
theorem fold_mem {ps : List Pl} : ∀ {ws : List Str} {ways : List (List Int)} {z : List Int}, (∀ y ∈ ways, qj ps y) → (z ∈ ws.foldl (xf ps) ways ↔ ∃ y ∈ ways, ∃ ns, z = y ++ ns ∧ StepW ps (lastOf y) ws ns)
 | [], ways, z, H => by
  constructor
  ·intro m; exact ⟨z, m, [], by simp, trivial⟩
  ·rintro ⟨y, hy, ns, rfl, h⟩
   cases ns with
   | nil => simpa using hy
   | cons n ns => cases h
 | w :: ws, ways, z, H => by
  rw [List.foldl_cons, fold_mem (wx H)]
  constructor
  ·rintro ⟨y, hy, ns, rfl, h⟩
   obtain ⟨x, hx, h2⟩ := List.mem_flatMap.mp hy
   obtain ⟨n, hn, rfl⟩ := List.mem_map.mp h2
   rw [xi] at h
   exact ⟨x, hx, n :: ns, by simp, (pfor_iff (H x hx).1).mp hn, h⟩
  ·rintro ⟨x, hx, ns, rfl, h⟩
   cases ns with
   | nil => cases h
   | cons n ns =>
    refine ⟨x ++ [n], List.mem_flatMap.mpr ⟨x, hx, List.mem_map.mpr ⟨n, (pfor_iff (H x hx).1).mpr h.1, rfl⟩⟩, ns, by simp, ?_⟩
    rw [xi]
    exact h.2
theorem lt_snoc : ∀ {x y : List Int} (a b : Int), x.length = y.length → x < y → x ++ [a] < y ++ [b]
 | [], [], a, b, _, h => absurd h (by simp)
 | u :: x, v :: y, a, b, e, h => by
  rw [List.cons_lt_cons_iff] at h
  rw [List.cons_append, List.cons_append, List.cons_lt_cons_iff]
  rcases h with h | ⟨rfl, h⟩
  ·exact .inl h
  ·exact .inr ⟨rfl, lt_snoc a b (by simpa using e) h⟩
 | [], v :: y, a, b, e, h => by simp at e
 | u :: x, [], a, b, e, h => by simp at e
theorem lt_last : ∀ (x : List Int) {a b : Int}, a < b → x ++ [a] < x ++ [b]
 | [], a, b, h => by rw [List.nil_append, List.nil_append, List.cons_lt_cons_iff]; exact .inl h
 | u :: x, a, b, h => by rw [List.cons_append, List.cons_append, List.cons_lt_cons_iff]; exact .inr ⟨rfl, lt_last x h⟩
theorem scan_up {w : Str} : ∀ (ps : List Pl) (j : Nat), (scan w ps j).Pairwise (· < ·)
 | [], j => List.Pairwise.nil
 | p :: r, j => by
  rw [scan, List.pairwise_append]
  refine ⟨by split <;> simp, by split; exact scan_up r _; exact List.Pairwise.nil, fun a ha b hb => ?_⟩
  split at ha
  ·split at hb
   ·rw [List.mem_singleton.mp ha]
    have := zam hb
    omega
   ·cases hb
  ·cases ha
theorem pfor_up {ps : List Pl} {last : Int} {w : Str} : (pfor ps last w).Pairwise (· < ·) := by
 unfold pfor
 rw [List.pairwise_append]
 refine ⟨?_, scan_up _ _, fun a ha b hb => ?_⟩
 ·have := yaf ps last w
  cases q : qp ps last w with
  | nil => exact List.Pairwise.nil
  | cons x r =>
   rw [q] at this
   obtain rfl : r = [] := List.length_eq_zero_iff.mp (by rw [List.length_cons] at this; omega)
   simp
 ·have hb := zam hb
  unfold qp at ha
  split at ha
  ·split at ha
   ·split at ha
    ·rw [List.mem_singleton.mp ha]; omega
    ·cases ha
   ·cases ha
  ·cases ha
theorem step_up {ps : List Pl} {w : Str} {n : Nat} : ∀ {ways : List (List Int)}, (∀ y ∈ ways, y.length = n) → ways.Pairwise (· < ·) → (xf ps ways w).Pairwise (· < ·)
 | [], _, _ => List.Pairwise.nil
 | y :: ys, hl, hp => by
  rw [List.pairwise_cons] at hp
  have ih := step_up (ps := ps) (w := w) (fun z m => hl z (List.mem_cons_of_mem _ m)) hp.2
  unfold xf at ih ⊢
  rw [List.flatMap_cons, List.pairwise_append]
  refine ⟨?_, ih, fun a ha b hb => ?_⟩
  ·unfold jax
   rw [List.pairwise_map]
   exact pfor_up.imp fun h => lt_last y h
  ·obtain ⟨k, _, rfl⟩ := List.mem_map.mp ha
   obtain ⟨z, hz, hb⟩ := List.mem_flatMap.mp hb
   obtain ⟨j, _, rfl⟩ := List.mem_map.mp hb
   exact lt_snoc _ _ (by rw [hl y List.mem_cons_self, hl z (List.mem_cons_of_mem _ hz)]) (hp.1 z hz)
theorem wbn {ps : List Pl} : ∀ (ws : List Str) {ways : List (List Int)} {n : Nat}, (∀ y ∈ ways, y.length = n) → ways.Pairwise (· < ·) → (ws.foldl (xf ps) ways).Pairwise (· < ·)
 | [], ways, n, hl, hp => hp
 | w :: ws, ways, n, hl, hp => by
  rw [List.foldl_cons]
  refine wbn ws (n := n + 1) (fun y m => ?_) (step_up hl hp)
  obtain ⟨x, h1, h2⟩ := List.mem_flatMap.mp m
  obtain ⟨k, h3, rfl⟩ := List.mem_map.mp h2
  rw [List.length_append, hl x h1]; rfl
theorem lays_up (ps : List Pl) (ws : List Str) : (jac ps ws).Pairwise (· < ·) :=
 List.Pairwise.filter _ (wbn ws (n := 0) (fun y m => by rw [List.mem_singleton.mp m]; rfl) (List.pairwise_singleton _ _))
theorem zi_shp (y : List Int) : ∀ d ∈ y.map zi, Sh 0 d := fun d m => by
 obtain ⟨i, _, rfl⟩ := List.mem_map.mp m
 exact Sh.int
theorem py_ti (y : List Int) : py (.tup (y.map zi)) = .tuple (y.map .int) := by
 rw [x3 fun d m => (zi_shp y d m).s, List.map_map]
 rfl
theorem dle_ti (a b : List Int) : dle (.tup (a.map zi)) (.tup (b.map zi)) = decide (a ≤ b) := by
 show (!PySem.W.dataLt (py (.tup (b.map zi))) (py (.tup (a.map zi)))) = _
 rw [py_ti, py_ti, PySem.W.dataLt_tuple]
 show (!PySem.W.rowLt (b.map .int) (a.map .int)) = _
 rw [PySem.W.dataLt_ints]
 by_cases q : b < a
 ·rw [decide_eq_true q, decide_eq_false (fun h => List.not_le.mpr q h)]; rfl
 ·rw [decide_eq_false q, decide_eq_true (List.not_lt.mp q)]; rfl
end LW
namespace PL
open PySem L2 PySem.Spec PyProof.Rows
structure MethAtF (K : PySem.W.Frag) (C : Addr) (m qual : Str) (st : Stmt) (f : Addr) (dvs : List V) : Prop where
 at_ : PySem.W.findIn K (.ref C) m = some (some (.ref f))
 isf : PySem.W.isFn K (.ref f) = true
 fn : ∃ fd, FunD K m qual (defArgs st) (defBody st) (defScope st) dvs [] f fd
theorem MethAtF.of {K : PySem.W.Frag} {C : Addr} {m qual : Str} {st : Stmt} {f T : Addr} {dvs : List V} {oc : Value} {od : Option Addr} {dc pm : Value} {an : Option Addr} {cd ct : Value} {sl : Array (Option Value)} {kV tc : Value} {td : Option Addr} {its : Array Value} {n : Nat} {ts : Array (Option Value)}
  (a : PySem.W.findIn K (.ref C) m = some (some (.ref f))) (l : K.lookup f = some ⟨oc, od, .func (PySem.W.fnOf m qual (defArgs st) (defBody st) (defScope st) (.ref T) kV dc pm an cd ct), sl⟩) (c : PySem.W.codeIn K cd qual = true) (k : PySem.W.keepIn K (.ref f) = true) (i : PySem.W.isFn K (.ref f) = true)
  (lT : K.lookup T = some ⟨tc, td, .seq its n, ts⟩) (hv : Vals dvs its.toList) (hd : dvs ≠ []) : MethAtF K C m qual st f dvs :=
 ⟨a, i, _, ⟨⟨oc, od, .ref T, kV, dc, pm, an, cd, ct, sl, rfl, l, c, .inr ⟨hd, T, _, its.toList, n, rfl, lT, by rw [Array.toArray_toList], hv⟩, .inl rfl⟩, k⟩⟩
theorem MethAtF.mkOk {K : PySem.W.Frag} {C : Addr} {q : Str} {st : Stmt} {f : Addr} {dvs : List V} (a : MethAtF K C "__init__" q st f dvs) (h : PySem.W.makesIn K C = true) (k : PySem.W.keepIn K (.ref C) = true) : Mk K C f := ⟨h, a.at_, a.isf, k⟩
end PL
namespace PL
open PySem L2
end PL
namespace PL
open PySem L2 PySem.Spec PyProof.Rows
end PL
namespace PL.SX
open PySem PySem.Calls PyProof.Rows PySem.Spec L2
end PL.SX
namespace PL
open PySem PySem.Spec PyProof.Rows L2
end PL
namespace LW
open PySem L2 PL
def GoesN (ps : List Pl) (last : Int) (w : Str) (n : Int) : Prop := ∃ k : Nat, n = k ∧ ∃ p, ps[k]? = some p ∧ p.k.holds w = true ∧ ((last = k ∧ p.o.again = true) ∨ last < k)
def StepN (ps : List Pl) : Int → List Str → List Int → Prop
 | _, [], [] => True
 | last, w :: ws, n :: ns => GoesN ps last w n ∧ StepN ps n ws ns
 | _, _, _ => False
theorem step_ge {ps : List Pl} : ∀ {ws : List Str} {ns : List Int} {last : Int}, StepN ps last ws ns → ∀ n ∈ ns, last ≤ n
 | [], [], last, h, n, m => absurd m List.not_mem_nil
 | w :: ws, n0 :: ns, last, h, n, m => by
  obtain ⟨⟨k, rfl, p, h1, h2, h3⟩, h4⟩ := h
  have : last ≤ (k : Int) := by rcases h3 with ⟨c, _⟩ | c <;> omega
  rcases List.mem_cons.mp m with rfl | m
  ·exact this
  ·have := step_ge h4 n m
   omega
 | [], n0 :: ns, last, h, n, m => by cases h
 | w :: ws, [], last, h, n, m => by cases h
def Wants (ps : List Pl) (last : Int) (ns : List Int) : Prop := ∀ (k : Nat) (q : Pl), last < k → ps[k]? = some q → q.o.lack = false → (k : Int) ∈ ns
theorem ok_all {ps : List Pl} : ∀ {ws : List Str} {ns : List Int} {last : Int}, OkW ps last ws ns ↔ StepN ps last ws ns ∧ Wants ps last ns
 | [], [], last => by
  constructor
  ·intro h
   refine ⟨trivial, fun k q k1 k2 k3 => ?_⟩
   have := h k q k1 (by have := (List.getElem?_eq_some_iff.mp k2).1; omega) k2
   rw [this] at k3
   cases k3
  ·rintro ⟨_, h⟩
   intro j q j1 j2 j3
   cases c : q.o.lack with
   | true => rfl
   | false => exact absurd (h j q j1 j3 c) List.not_mem_nil
 | w :: ws, n :: ns, last => by
  rw [OkW, StepN, ok_all (ws := ws)]
  constructor
  ·rintro ⟨⟨k, rfl, p, h1, h2, h3⟩, h4, h5⟩
   refine ⟨⟨⟨k, rfl, p, h1, h2, ?_⟩, h4⟩, fun j q j1 j2 j3 => ?_⟩
   ·rcases h3 with c | c
    ·exact .inl c
    ·exact .inr c.1
   ·rcases Nat.lt_trichotomy j k with c | c | c
    ·rcases h3 with ⟨c1, _⟩ | ⟨_, c2⟩
     ·omega
     ·have := c2 j q j1 (by omega) j2
      rw [this] at j3
      cases j3
    ·rw [c]; exact List.mem_cons_self
    ·exact List.mem_cons_of_mem _ (h5 j q (by omega) j2 j3)
  ·rintro ⟨⟨⟨k, rfl, p, h1, h2, h3⟩, h4⟩, h5⟩
   refine ⟨⟨k, rfl, p, h1, h2, ?_⟩, h4, fun j q j1 j2 j3 => ?_⟩
   ·rcases h3 with c | c
    ·exact .inl c
    ·refine .inr ⟨c, fun j q j1 j2 j3 => ?_⟩
     cases c2 : q.o.lack with
     | true => rfl
     | false =>
      rcases List.mem_cons.mp (h5 j q j1 j3 c2) with e | e
      ·omega
      ·have := step_ge h4 _ e
       omega
   ·have hl : last ≤ (k : Int) := by rcases h3 with ⟨c, _⟩ | c <;> omega
    rcases List.mem_cons.mp (h5 j q (by omega) j2 j3) with e | e
    ·omega
    ·exact e
 | [], n :: ns, last => by simp [OkW, StepN]
 | w :: ws, [], last => by simp [OkW, StepN]
end LW
namespace PL
open PySem L2
end PL
namespace PL
open PySem L2
end PL
namespace PL
open PySem PySem.Spec PyProof.Rows L2
end PL
namespace LW
open PySem L2 PL
structure Sta where
 told : List Str
 num : Int
 wait : Str
 stop : Bool
deriving DecidableEq
inductive Part where
 | value
 | place (j : Nat)
 | stop
 | wish (i : Nat) (v : Str)
deriving DecidableEq
def Sta.d (s : Sta) : D := .tup [.tup (s.told.map zs), zi s.num, zs s.wait, zb s.stop]
def sta0 : Sta := ⟨[], -1, "", false⟩
def waitW (tb : Tb) (s : Sta) : Option Wx := if s.wait = "" then none else tb.ws.find? (fun o => o.name == s.wait)
def wants (tb : Tb) (s : Sta) : Bool := match waitW tb s with
 | some o => !o.may
 | none => false
def setsL {α : Type} (xs : List α) : List (List α) := xs.foldl (fun acc x => acc ++ acc.map fun y => y ++ [x]) [[]]
def nmsI (ws : List Wx) (is : List Nat) : List Str := is.map (nmW ws)
def subB (xs ys : List Str) : Bool := xs.all fun z => inW z ys
def okSet (tb : Tb) (s : Sta) (is : List Nat) : Bool := (subB s.told (nmsI tb.ws is) && keptN tb (nmsI tb.ws is)) && (!s.stop || decide (is.length = s.told.length))
def goodB (tb : Tb) (s : Sta) : Bool := (setsL (List.range tb.ws.length)).any (okSet tb s)
def qat (ps : List Pl) (a b : Nat) : Bool := ((ps.drop a).take (b - a)).all fun p => p.o.lack
def ybh (ps : List Pl) (num : Int) (w : Str) (j : Nat) : Bool := match ps[j]? with
 | none => false
 | some p => (p.k.holds w && (decide (num < (j : Int)) || (decide (num = (j : Int)) && p.o.again))) && qat ps (num + 1).toNat j
def laidN (ps : List Pl) (num : Int) (w : Str) (n : Nat) : List Nat := (List.range n).filter (ybh ps num w)
def laidM (tb : Tb) (s : Sta) (w : Str) : List (Part × Sta) := (laidN tb.ps s.num w tb.ps.length).map fun j => (.place j, ⟨s.told, (j : Int), "", s.stop⟩)
def valueM (tb : Tb) (s : Sta) (w : Str) : List (Part × Sta) := match waitW tb s with
 | some o => (match o.kind with
  | some k => if k.holds w = true then [(.value, ⟨s.told, s.num, "", false⟩)] else []
  | none => [])
 | none => []
def toldS (tb : Tb) (s : Sta) (o : Wx) (v : Str) : Sta := ⟨(wh tb.ws).filter (fun n => inW n s.told || n == o.name), s.num, if o.kind.isSome = true ∧ v = "" then o.name else "", false⟩
def toldM (tb : Tb) (s : Sta) (w : Str) : List (Part × Sta) := match tellOf tb.ws w with
 | none => []
 | some (i, v) => match tb.ws[i]? with
  | none => []
  | some o => if (inW o.name s.told && !o.many) = true then [] else [(.wish i v, toldS tb s o v)]
def xai (tb : Tb) (s : Sta) (w : Str) : List (Part × Sta) :=
 if s.stop = true then laidM tb s w
 else if bareW w = true then valueM tb s w ++ (if wants tb s = true then [] else laidM tb s w)
 else if wants tb s = true then []
 else if w = "--" then [(.stop, ⟨s.told, s.num, "", true⟩)]
 else toldM tb s w
def zp (tb : Tb) (s : Sta) (w : Str) : List (Part × Sta) := (xai tb s w).filter fun m => goodB tb m.2
structure StOk (tb : Tb) (s : Sta) : Prop where
 td : s.told = (wh tb.ws).filter fun n => inW n s.told
 n0 : -1 ≤ s.num
 n1 : s.num < tb.ps.length
 w : s.wait = "" ∨ ∃ o ∈ tb.ws, o.name = s.wait ∧ o.kind.isSome = true ∧ s.wait ∈ s.told
def barB (tb : Tb) (fs : List Str) : Bool := tb.bs.any fun p => inW p.1 fs && inW p.2 fs
theorem StOk.nd {tb : Tb} {s : Sta} (hn : (wh tb.ws).Nodup) (h : StOk tb s) : s.told.Nodup := by
 rw [h.td]; exact List.Nodup.sublist List.filter_sublist hn
theorem jbl {ns told : List Str} (h : told = ns.filter fun n => inW n told) (p : Str → Bool) : ns.filter (fun n => inW n (ns.filter fun n => inW n told || p n)) = ns.filter fun n => inW n told || p n := by
 refine List.filter_congr fun n m => ?_
 rw [Bool.eq_iff_iff, inW_iff, List.mem_filter]
 exact ⟨fun z => z.2, fun z => ⟨m, z⟩⟩
theorem laidC_lt {ps : List Pl} {num : Int} {w : Str} {j : Nat} (h : ybh ps num w j = true) : j < ps.length ∧ num ≤ j := by
 unfold ybh at h
 split at h
 ·cases h
 ·rename_i p hp
  refine ⟨(List.getElem?_eq_some_iff.mp hp).1, ?_⟩
  rw [Bool.and_eq_true, Bool.and_eq_true, Bool.or_eq_true, Bool.and_eq_true, decide_eq_true_eq, decide_eq_true_eq] at h
  omega
theorem moves_ok {tb : Tb} {s : Sta} {w : Str} (h : StOk tb s) : ∀ m ∈ xai tb s w, StOk tb m.2 := fun m q => by
 have laid : ∀ m ∈ laidM tb s w, StOk tb m.2 := fun m q => by
  obtain ⟨j, hj, rfl⟩ := List.mem_map.mp q
  have := laidC_lt (List.mem_filter.mp hj).2
  exact ⟨h.td, by show (-1 : Int) ≤ (j : Int); omega, by show (j : Int) < _; omega, .inl rfl⟩
 unfold xai at q
 split at q
 ·exact laid m q
 split at q
 ·rcases List.mem_append.mp q with q | q
  ·unfold valueM at q
   split at q
   ·split at q
    ·split at q
     ·rw [List.mem_singleton.mp q]; exact ⟨h.td, h.n0, h.n1, .inl rfl⟩
     ·exact absurd q List.not_mem_nil
    ·exact absurd q List.not_mem_nil
   ·exact absurd q List.not_mem_nil
  ·split at q
   ·exact absurd q List.not_mem_nil
   ·exact laid m q
 split at q
 ·exact absurd q List.not_mem_nil
 split at q
 ·rw [List.mem_singleton.mp q]; exact ⟨h.td, h.n0, h.n1, .inl rfl⟩
 ·unfold toldM at q
  split at q
  ·exact absurd q List.not_mem_nil
  rename_i i v hiv
  split at q
  ·exact absurd q List.not_mem_nil
  rename_i o ho
  split at q
  ·exact absurd q List.not_mem_nil
  rw [List.mem_singleton.mp q]
  have hom := List.mem_of_getElem? ho
  refine ⟨(jbl h.td _).symm, h.n0, h.n1, ?_⟩
  have hw : (toldS tb s o v).wait = if o.kind.isSome = true ∧ v = "" then o.name else "" := rfl
  by_cases c : o.kind.isSome = true ∧ v = ""
  ·rw [if_pos c] at hw
   right
   refine ⟨o, hom, hw.symm, c.1, ?_⟩
   show (toldS tb s o v).wait ∈ _
   rw [hw]
   exact List.mem_filter.mpr ⟨List.mem_map_of_mem hom, by rw [beq_self_eq_true, Bool.or_true]⟩
  ·rw [if_neg c] at hw
   exact .inl hw
theorem kbh {tb : Tb} {s : Sta} {w : Str} (h : StOk tb s) : ∀ m ∈ zp tb s w, StOk tb m.2 := fun m q => moves_ok h m (List.mem_filter.mp q).1
end LW
namespace LW
open PySem L2 PL
open PySem.W (alike alikeAll)
structure StS (s : Sta) : Prop where
 t : ∀ z ∈ s.told, okS z
 w : okS s.wait
theorem Sta.in_sh {s : Sta} (h : StS s) : ∀ d ∈ [D.tup (s.told.map zs), zi s.num, zs s.wait, zb s.stop], Sh 1 d := fun d m => by
 simp only [List.mem_cons, List.not_mem_nil, or_false] at m
 rcases m with rfl | rfl | rfl | rfl
 ·exact Sh.tup (zs_sh h.t) (by decide)
 ·exact Sh.int.mono (by decide)
 ·exact (Sh.str h.w).mono (by decide)
 ·exact Sh.bl.mono (by decide)
theorem Sta.sh {s : Sta} (h : StS s) : Sh 2 s.d := Sh.tup (Sta.in_sh h) (by decide)
def Sta.pd (s : Sta) : PyData := .tuple [.tuple (s.told.map .str), .int s.num, .str s.wait, .bool s.stop]
theorem Sta.py {s : Sta} (h : StS s) : PL.py s.d = s.pd := by
 unfold Sta.d Sta.pd
 rw [x3 fun d m => (Sta.in_sh h d m).s]
 show PyData.tuple [PL.py (.tup (s.told.map zs)), _, _, _] = _
 rw [py_strs h.t]; rfl
theorem Sta.al (s t : Sta) : alike s.pd t.pd = true := by
 unfold Sta.pd
 simp only [alike, alikeAll, wah, Bool.and_self, Bool.and_true]
theorem Sta.ev {s t : Sta} (h : PyData.eqv s.pd t.pd = true) : s = t := by
 unfold Sta.pd at h
 rw [jj] at h
 simp only [PyData.eqvAll, PyData.eqv, Bool.and_eq_true, Bool.and_true, beq_iff_eq, decide_eq_true_eq] at h
 obtain ⟨h1, h2, h3, h4⟩ := h
 obtain ⟨t1, n1, w1, b1⟩ := s
 obtain ⟨t2, n2, w2, b2⟩ := t
 have e1 := y7 _ _ h1
 dsimp only at e1 h2 h3 h4
 subst e1 h2 h3 h4
 rfl
noncomputable def sortS (ss : List Sta) : List Sta := (nubC ss).mergeSort fun a b => dle a.d b.d
theorem mem_sortS {s : Sta} {ss : List Sta} : s ∈ sortS ss ↔ s ∈ ss := (List.mergeSort_perm _ _).mem_iff.trans mem_nubC
theorem nubC_perm {α : Type} {xs ys : List α} (m : ∀ s, s ∈ xs ↔ s ∈ ys) : (nubC xs).Perm (nubC ys) :=
 (List.perm_ext_iff_of_nodup (waf xs) (waf ys)).mpr fun s => (mem_nubC.trans (m s)).trans mem_nubC.symm
theorem dle_anti {s t : Sta} (hs : StS s) (ht : StS t) (h1 : dle s.d t.d = true) (h2 : dle t.d s.d = true) : s = t := by
 rw [qaj, Bool.not_eq_true'] at h1 h2
 have := jam (x := PL.py s.d) (y := PL.py t.d) (by rw [Sta.py hs, Sta.py ht]; exact Sta.al s t) (PyProof.Rows.lex_total _ _ h2 h1)
 rw [Sta.py hs, Sta.py ht] at this
 exact Sta.ev this
theorem vbl {xs ys : List Sta} (hx : ∀ s ∈ xs, StS s) (m : ∀ s, s ∈ xs ↔ s ∈ ys) : sortS xs = sortS ys := by
 refine List.Perm.eq_of_pairwise (le := fun a b => dle a.d b.d = true) (fun a b m1 m2 => dle_anti (hx a (mem_sortS.mp m1)) (hx b ((m b).mpr (mem_sortS.mp m2)))) ?_ ?_ ((List.mergeSort_perm _ _).trans ((nubC_perm m).trans (List.mergeSort_perm _ _).symm))
 ·exact List.pairwise_mergeSort (le := fun a b : Sta => dle a.d b.d) (fun _ _ _ => va0) (fun a b => w7 a.d b.d) (nubC xs)
 ·exact List.pairwise_mergeSort (le := fun a b : Sta => dle a.d b.d) (fun _ _ _ => va0) (fun a b => w7 a.d b.d) (nubC ys)
end LW
namespace LW
open PySem L2 PL
theorem mem_scan {w : Str} {n : Int} : ∀ {qs : List Pl} {k : Nat}, n ∈ scan w qs k ↔ ∃ (i : Nat) (p : Pl), qs[i]? = some p ∧ n = ((k + i : Nat) : Int) ∧ p.k.holds w = true ∧ ((qs.take i).all fun p => p.o.lack) = true
 | [], k => by
  unfold scan
  constructor
  ·intro m; exact absurd m List.not_mem_nil
  ·rintro ⟨i, p, h, _⟩; simp at h
 | q :: qs, k => by
  unfold scan
  rw [List.mem_append]
  constructor
  ·rintro (m | m)
   ·split at m
    ·rename_i c
     exact ⟨0, q, rfl, by rw [List.mem_singleton.mp m]; rfl, c, rfl⟩
    ·exact absurd m List.not_mem_nil
   ·split at m
    ·rename_i c
     obtain ⟨i, p, h1, h2, h3, h4⟩ := mem_scan.mp m
     exact ⟨i + 1, p, h1, by rw [h2]; omega, h3, by rw [List.take_succ_cons, List.all_cons, c, h4]; rfl⟩
    ·exact absurd m List.not_mem_nil
  ·rintro ⟨i, p, h1, h2, h3, h4⟩
   cases i with
   | zero =>
    left
    have : q = p := Option.some.inj h1
    subst this
    rw [if_pos h3, h2]
    exact List.mem_singleton.mpr rfl
   | succ i =>
    right
    rw [List.take_succ_cons, List.all_cons, Bool.and_eq_true] at h4
    rw [if_pos h4.1]
    exact mem_scan.mpr ⟨i, p, h1, by rw [h2]; omega, h3, h4.2⟩
theorem mem_pfor {ps : List Pl} {last : Int} {w : Str} {n : Int} (h0 : -1 ≤ last) (h1 : last < ps.length) : n ∈ pfor ps last w ↔ ∃ j : Nat, n = (j : Int) ∧ ybh ps last w j = true := by
 unfold pfor qp
 rw [List.mem_append, mem_scan]
 constructor
 ·rintro (m | ⟨i, p, e1, e2, e3, e4⟩)
  ·split at m
   ·rename_i c
    have hg := List.getElem?_eq_getElem (show last.toNat < ps.length by omega)
    rw [hg] at m
    dsimp only at m
    split at m
    ·rename_i c2
     rw [Bool.and_eq_true] at c2
     refine ⟨last.toNat, by rw [List.mem_singleton.mp m]; omega, ?_⟩
     unfold ybh
     rw [hg]
     dsimp only
     rw [c2.1, c2.2, decide_eq_true (show last = ((last.toNat : Nat) : Int) by omega)]
     have : qat ps (last + 1).toNat last.toNat = true := by
      unfold qat
      rw [show last.toNat - (last + 1).toNat = 0 by omega]; rfl
     rw [this]; simp
    ·exact absurd m List.not_mem_nil
   ·exact absurd m List.not_mem_nil
  ·rw [List.getElem?_drop] at e1
   refine ⟨(last + 1).toNat + i, e2, ?_⟩
   unfold ybh
   rw [e1]
   dsimp only
   rw [e3, decide_eq_true (show last < (((last + 1).toNat + i : Nat) : Int) by omega)]
   have : qat ps (last + 1).toNat ((last + 1).toNat + i) = true := by
    unfold qat
    rw [show (last + 1).toNat + i - (last + 1).toNat = i by omega]; exact e4
   rw [this]; simp
 ·rintro ⟨j, rfl, h⟩
  unfold ybh at h
  split at h
  ·cases h
  rename_i p hp
  rw [Bool.and_eq_true, Bool.and_eq_true, Bool.or_eq_true, Bool.and_eq_true, decide_eq_true_eq, decide_eq_true_eq] at h
  obtain ⟨⟨h2, h3⟩, h4⟩ := h
  rcases h3 with h3 | ⟨h3, h5⟩
  ·right
   refine ⟨j - (last + 1).toNat, p, ?_, by omega, h2, h4⟩
   rw [List.getElem?_drop, show (last + 1).toNat + (j - (last + 1).toNat) = j by omega]
   exact hp
  ·left
   rw [if_pos (by omega), h3, Int.toNat_natCast, hp]
   dsimp only
   rw [h5, h2]
   exact List.mem_singleton.mpr rfl
def LayF (ps : List Pl) : Int → List Str → Prop
 | num, [] => vk ps num = true
 | num, w :: l => ∃ j : Nat, ybh ps num w j = true ∧ LayF ps (j : Int) l
theorem jba {ps : List Pl} : ∀ (l : List Str) {ways : List (List Int)}, (∀ y ∈ ways, qj ps y) → ((∃ y ∈ l.foldl (xf ps) ways, vk ps (lastOf y) = true) ↔ ∃ y ∈ ways, LayF ps (lastOf y) l)
 | [], ways, _ => Iff.rfl
 | w :: l, ways, h => by
  rw [List.foldl_cons, jba l (wx h)]
  constructor
  ·rintro ⟨y, m, f⟩
   obtain ⟨x, h1, h2⟩ := List.mem_flatMap.mp m
   obtain ⟨n, h3, rfl⟩ := List.mem_map.mp h2
   obtain ⟨j, rfl, c⟩ := (mem_pfor (h x h1).1 (h x h1).2).mp h3
   rw [xi] at f
   exact ⟨x, h1, j, c, f⟩
  ·rintro ⟨x, h1, j, c, f⟩
   refine ⟨x ++ [(j : Int)], List.mem_flatMap.mpr ⟨x, h1, List.mem_map.mpr ⟨(j : Int), (mem_pfor (h x h1).1 (h x h1).2).mpr ⟨j, rfl, c⟩, rfl⟩⟩, ?_⟩
   rw [xi]; exact f
def addT (ws : List Wx) (told : List Str) (z : Str) : List Str := (wh ws).filter fun n => inW n told || n == z
def KeepS (tb : Tb) (told : List Str) : Prop := (∀ w ∈ tb.ws, w.must = true → w.name ∈ told) ∧ barB tb told = false ∧ ∀ p ∈ tb.ds, p.1 ∈ told → p.2 ∈ told
end LW
namespace LW
open PySem L2 PL
def EndF (tb : Tb) : Sta → List Str → Prop
 | s, [] => wants tb s = false ∧ KeepS tb s.told ∧ vk tb.ps s.num = true
 | s, w :: r => ∃ m ∈ xai tb s w, EndF tb m.2 r
end LW
namespace PL
open PySem L2
end PL
namespace PL
open PySem L2 PySem.Spec PyProof.Rows
structure XSt (K : PySem.W.Frag) (C a : Addr) (Cs Hs : Hp) (fs : List (Str × D)) (C0 H : Hp) (σ : Sl) (ρ : En) : Prop where
 env : EnvOk K C0 H σ ρ
 no : ∀ b, ¬ qd σ ρ b
 step : Step Cs Hs C0 H (fun b => b = a)
 ca : C0 a = none
 st : (H a = some (exo a C none) ∧ fs = []) ∨ ∃ dx gs, H a = some (exo a C (some dx)) ∧ H dx = some (exd dx gs) ∧ dx ≠ a ∧ C0 dx = none ∧ Hs dx = none ∧ Isf K C0 fs gs
section
variable {K : PySem.W.Frag} {C a : Addr} {Cs Hs C0 H C1 H1 : Hp} {fs : List (Str × D)} {σ : Sl} {ρ ρ1 : En}
theorem XSt.ha (x : XSt K C a Cs Hs fs C0 H σ ρ) : ∃ d, H a = some (exo a C d) := by
 rcases x.st with ⟨h, _⟩ | ⟨dx, gs, h, _⟩
 ·exact ⟨_, h⟩
 ·exact ⟨_, h⟩
end
end PL
namespace PL
open PySem L2 PySem.Spec PyProof.Rows
end PL
namespace PL
open PySem L2 PySem.Spec PyProof.Rows
end PL
namespace PL
open PySem L2 PySem.Spec PyProof.Rows
end PL
namespace PL
open PySem L2 PySem.Spec PyProof.Rows
def At2 (σ : Sl) (js : List Nat) (xs : List V) : Prop := xs.length = js.length ∧ ∀ k j : Nat, js[k]? = some j → ∃ x, xs[k]? = some x ∧ σ[j]? = some (some x)
theorem At2.mk {σ : Sl} {j : Nat} {js : List Nat} {x : V} {xs : List V} (h0 : σ[j]? = some (some x)) (h : At2 σ js xs) : At2 σ (j :: js) (x :: xs) := by
 refine ⟨by simp [h.1], fun k i hk => ?_⟩
 cases k with
 | zero => simp at hk; subst hk; exact ⟨x, rfl, h0⟩
 | succ k => obtain ⟨y, h1, h2⟩ := h.2 k i (by simpa using hk); exact ⟨y, by simpa using h1, h2⟩
end PL
namespace PL
open PySem L2 PySem.Spec PyProof.Rows
def ownL1 (ρ : En) (j : Nat) : Bool := match ρ[j]? with
 | some (.own (.lst _)) => true
 | _ => false
def sClr (i : Nat) (js : List Nat) : P Fl := fun ρ => if js.all (ownL1 ρ) = true ∧ i < ρ.length then some (.ok .next (ρ.set i .no)) else none
def gShelf (i : Nat) : List Nat → List Nat → P Fl → P Fl
 | [], js, g => sSeq (sClr i js) g
 | j :: r, js, g => sSeq (yaa j (fLst vNil)) (gShelf i r js g)
end PL
namespace PL
open PySem L2 PySem.Spec PyProof.Rows
section
variable {QF : Fl → En → Prop} {QR : Rv → En → Prop} {E : Exn → En → Prop} {ρ : En} {i : Nat} {js : List Nat} {fl fe : PL.P Rv} {g : PL.P Fl}
theorem vbe {j : Nat} {r : List Nat} : wp (gShelf i (j :: r) js g) QF E ρ ↔ wp (sSeq (yaa j (fLst vNil)) (gShelf i r js g)) QF E ρ := Iff.rfl
end
end PL
namespace PL
open PySem L2 PySem.Spec PyProof.Rows
end PL
namespace PL
open PySem L2 PySem.Spec PyProof.Rows
end PL
namespace LW
open PySem L2 PL TL
abbrev nS (i : Int) : Str := Str.ofString (toString i)
def Kd.tx : Kd → Str
 | .any => "any"
 | .num a b => (("number" : Str) ++ ("(" : Str) ++ Txt.join "," [nS a, nS b]) ++ (")" : Str)
 | .amg ws => (("among(" : Str) ++ Txt.join "," ws) ++ (")" : Str)
 | .beg z => (("begins" : Str) ++ ("(" : Str) ++ Txt.join "," [z]) ++ (")" : Str)
def ltW : Option Str → List Str
 | none => []
 | some z => [("-" : Str) ++ z]
def kdW (may : Bool) : Option Kd → List Str
 | none => []
 | some k => (if may = true then [("maybe" : Str)] else []) ++ [k.tx]
def Wx.words (w : Wx) : List Str := ((([("wish" : Str), w.name] ++ ltW w.letter) ++ kdW w.may w.kind) ++ (if w.many = true then [("many" : Str)] else [])) ++ (if w.must = true then [("must" : Str)] else [])
def Pl.words (p : Pl) : List Str := ["place", p.name, p.k.tx, p.o.s]
inductive Row where
 | w (w : Wx)
 | p (p : Pl)
 | b (p : Str × Str)
 | n (p : Str × Str)
def Row.words : Row → List Str
 | .w x => x.words
 | .p x => x.words
 | .b q => ["bar", q.1, q.2]
 | .n q => ["need", q.1, q.2]
def Row.sort : Row → Nat
 | .w _ => 0
 | .p _ => 1
 | .b _ => 2
 | .n _ => 3
def Tb.rows (tb : Tb) : List Row := tb.ws.map Row.w ++ tb.ps.map Row.p ++ tb.bs.map Row.b ++ tb.ds.map Row.n
def lineS (r : List Str) : Str := Txt.join " " r ++ ("\n" : Str)
def textS (rs : List (List Str)) : Str := Txt.join "" (rs.map lineS)
def Tb.text (tb : Tb) : Str := textS (tb.rows.map Row.words)
end LW
namespace PL
open PySem L2
end PL
namespace PL
open PySem L2
end PL
namespace LW
open PySem L2 PL TL
abbrev Ln := List Str × Option Row
def Ln.ws (l : Ln) : List Str := match l.2 with
 | none => []
 | some x => x.words
end LW
namespace PL
open PySem L2
end PL
namespace LW
open PySem L2 PL
end LW
namespace PL
open PySem PySem.Spec PyProof.Rows L2
end PL
namespace PL
open PySem PySem.Spec PyProof.Rows L2
structure DefAtA (K : PySem.W.Frag) (g x : Str) (st : Stmt) (f : Addr) : Prop where
 at_ : PySem.W.nsIn K mainGlobals g = some (some (.ref f))
 kp : PySem.W.keepIn K (.ref f) = true
 ex : ∃ (oc : Value) (od : Option Addr) (dc pm : Value) (an : Option Addr) (cd ct : Value) (sl : Array (Option Value)) (kV : Value), K.lookup f = some ⟨oc, od, .func (PySem.W.fnOf x x (defArgs st) (defBody st) (defScope st) .none kV dc pm an cd ct), sl⟩ ∧ PySem.W.codeIn K cd x = true
theorem DefAtA.of {K : PySem.W.Frag} {g x : Str} {st : Stmt} {f : Addr} {oc : Value} {od : Option Addr} {dc pm : Value} {an : Option Addr} {cd ct : Value} {sl : Array (Option Value)} {kV : Value} (a : PySem.W.nsIn K mainGlobals g = some (some (.ref f))) (l : K.lookup f = some ⟨oc, od, .func (PySem.W.fnOf x x (defArgs st) (defBody st) (defScope st) .none kV dc pm an cd ct), sl⟩) (c : PySem.W.codeIn K cd x = true) (k : PySem.W.keepIn K (.ref f) = true) : DefAtA K g x st f :=
 ⟨a, k, _, _, _, _, _, _, _, _, _, l, c⟩
noncomputable def DefAtA.fd {K : PySem.W.Frag} {g x : Str} {st : Stmt} {f : Addr} (a : DefAtA K g x st f) : FuncData := Classical.choose (show ∃ fd, Fun K x x st f fd from by
 obtain ⟨oc, od, dc, pm, an, cd, ct, sl, kV, l, c⟩ := a.ex
 exact ⟨_, fun_mk l c a.kp⟩)
theorem DefAtA.fn {K : PySem.W.Frag} {g x : Str} {st : Stmt} {f : Addr} (a : DefAtA K g x st f) : Fun K x x st f a.fd := Classical.choose_spec (show ∃ fd, Fun K x x st f fd from by
 obtain ⟨oc, od, dc, pm, an, cd, ct, sl, kV, l, c⟩ := a.ex
 exact ⟨_, fun_mk l c a.kp⟩)
end PL
namespace PL
open PySem PySem.Spec PyProof.Rows L2
structure Cl where
 u : Value
 i : Option Nat
 ts : TS
end PL
namespace PL
open PySem PySem.Spec PyProof.Rows L2
end PL
namespace PL
open PySem PySem.Spec PyProof.Rows L2
end PL
namespace PL
open PySem L2
end PL
namespace LW
open PySem L2 PL TL
end LW
namespace LW
open PySem L2 PL TL
end LW
namespace PL
open PySem L2 PySem.Spec PyProof.Rows
end PL
namespace PL
open PySem PySem.Spec PyProof.Rows L2
end PL
namespace PL
open PySem L2
end PL
namespace PL
open PySem L2 PySem.Spec PyProof.Rows
section
variable {X : Cx} {pins : List (Addr × Obj)} {σ : L2.St} {H : Hp} {s : Shared}
mutual
theorem nk_is (I : Inv X pins σ H s) : ∀ (d : D) (k : NestedKey) (v : V) (u : Value), nkD d = some k → Is X.K H d v → RelV v u → NestedIs s.heap k u
 | .s x, k, v, u, h, i, r => by
  cases is_s_iff.mp i
  cases x with
  | non => unfold nkD at h; cases h; cases r; exact .none
  | bl b => unfold nkD at h; cases h; cases r; exact .bool rfl
  | int j => unfold nkD at h; cases h; obtain ⟨t, rfl⟩ := r; exact .int j t
  | str z => unfold nkD at h; cases h; obtain ⟨t, rfl⟩ := r; exact .text z t
  | _ => unfold nkD at h; cases h
 | .tup ds, k, v, u, h, i, r => by
  unfold nkD at h
  cases q : nkDs ds with
  | none => rw [q] at h; cases h
  | some ks =>
   rw [q] at h
   cases h
   obtain ⟨a, xs, rfl, hs, hi⟩ := is_tup_iff.mp i
   cases r
   obtain ⟨its, rv, ⟨o, ho, hc, n, hd⟩, _⟩ := I.tuple hs
   exact .tup ho hc hd (by simpa using nks_is I ds ks xs its q hi rv)
 | .lst ds, k, v, u, h, i, r => by unfold nkD at h; cases h
 | .obj c fs, k, v, u, h, i, r => by unfold nkD at h; cases h
 | .ro ds, k, v, u, h, i, r => by unfold nkD at h; cases h
 | .lam f φ z ks, k, v, u, h, i, r => by unfold nkD at h; cases h
 | .dic kvs, k, v, u, h, i, r => by unfold nkD at h; cases h
 | .exc c b fs, k, v, u, h, i, r => by unfold nkD at h; cases h
theorem nks_is (I : Inv X pins σ H s) : ∀ (ds : List D) (ks : List NestedKey) (vs : List V) (us : List Value), nkDs ds = some ks → Iss X.K H ds vs → Vals vs us → NestedAll s.heap ks us
 | [], ks, vs, us, h, i, r => by
  unfold nkDs at h
  cases h
  cases iss_nil_iff.mp i
  cases r
  exact .nil
 | d :: ds, ks, vs, us, h, i, r => by
  obtain ⟨x, t, rfl, h1, h2⟩ := iss_cons_iff.mp i
  unfold nkDs at h
  cases q1 : nkD d with
  | none => rw [q1] at h; cases h
  | some k =>
   cases q2 : nkDs ds with
   | none => rw [q1, q2] at h; cases h
   | some ks' =>
    rw [q1, q2] at h
    cases h
    cases r with
    | cons r1 r2 => exact .cons (nk_is I d k _ _ q1 h1 r1) (nks_is I ds ks' _ _ q2 h2 r2)
end
end
def NIs (K : PySem.W.Frag) (H : Hp) (k : NestedKey) (b : Addr) : Prop := k.depth ≤ 8 ∧ ∃ d, nkD d = some k ∧ Is K H d (.ref b)
theorem NIs.is {X : Cx} {pins : List (Addr × Obj)} {σ : L2.St} {H : Hp} {s : Shared} {k : NestedKey} {b : Addr} (I : Inv X pins σ H s) (h : NIs X.K H k b) : (nestedKind X.prog X.w).is s.heap k b := by
 obtain ⟨h1, d, h2, h3⟩ := h
 exact ⟨nk_is I d k _ _ h2 h3 rfl, h1⟩
theorem ndat_at {P P2 : Program} {w w2 : World} {H : Hp} {h : Heap} {a b : Addr} {xs : NEnt} (ok : ObjOk P2 w2 H h a (.ext (NDat P w b xs))) : b = a := by
 obtain ⟨p, _, st⟩ := ok
 refine Classical.byContradiction fun hne => ?_
 let fr : Obj := { cls := .none, data := .freed }
 let h2 : Heap := { h with objs := h.objs.setIfInBounds b fr }
 have hb : h2.get? b = none := by
  unfold Heap.get?
  show (match (h.objs.setIfInBounds b fr)[b]? with | some ⟨_, _, .freed, _⟩ => none | o => o) = none
  by_cases c : b < h.objs.size
  ·rw [Array.getElem?_setIfInBounds_self_of_lt c]
  ·rw [Array.getElem?_eq_none (by rw [Array.size_setIfInBounds]; exact Nat.le_of_not_lt c)]
 have ha : ∀ o, h.get? a = some o → h2.get? a = some o := fun o e => by
  unfold Heap.get? at e ⊢
  show (match (h.objs.setIfInBounds b fr)[a]? with | some ⟨_, _, .freed, _⟩ => none | o => o) = some o
  rw [Array.getElem?_setIfInBounds_ne hne]
  exact e
 obtain ⟨o, es, ep, g, _⟩ := st h h2 p ha
 rw [hb] at g
 cases g
def NRd (K : PySem.W.Frag) (H : Hp) (P : Program) (w : World) (a : Addr) (xs : NEnt) : Prop := ∃ b, H a = some (.ext (NDat P w b xs)) ∧ (b == sysModules) = false ∧ (xs.map (·.1)).Nodup ∧ ∀ y ∈ xs, NIs K H y.1 y.2.1
theorem NRd.of {X : Cx} {pins : List (Addr × Obj)} {σ : L2.St} {H : Hp} {s : Shared} {a : Addr} {xs : NEnt} (I : Inv X pins σ H s) (h : NRd X.K H X.prog X.w a xs) : (a == sysModules) = false ∧ s.heap.DictOfH (nestedKind X.prog X.w) a xs ∧ H a = some (.ext (NDat X.prog X.w a xs)) := by
 obtain ⟨b, h1, h2, h3, h4⟩ := h
 have e := ndat_at (I.hok a _ h1)
 subst e
 obtain ⟨⟨o, es, ep, g1, g2, g3, g4⟩, _⟩ := I.hok b _ h1
 exact ⟨h2, ⟨o, es, ep, g1, g2, g3, g4, fun y m => (h4 y m).is I, h3⟩, h1⟩
end PL
namespace PL
open PySem L2 PySem.Spec PyProof.Rows
def nHas (kvs : List (D × D)) (k : NestedKey) : Bool := kvs.any fun kv => decide (nkD kv.1 = some k)
def nSet (kvs : List (D × D)) (kd : D) (k : NestedKey) (v : D) : List (D × D) :=
 if nHas kvs k = true then kvs.map (fun kv => if nkD kv.1 = some k then (kv.1, v) else kv) else kvs ++ [(kd, v)]
section
variable {K : PySem.W.Frag} {C H : Hp}
theorem NKs.length : ∀ {ds : List (D × D)} {xs : NEnt}, NKs K C ds xs → xs.length = ds.length
 | [], xs, h => by cases (show xs = [] from h); rfl
 | (a, b) :: ds, xs, h => by
  obtain ⟨k, ka, u, v, t, rfl, _, _, _, _, _, h7⟩ := h
  rw [List.length_cons, List.length_cons, NKs.length h7]
theorem NKs.has {k : NestedKey} : ∀ {ds : List (D × D)} {xs : NEnt}, NKs K C ds xs → (atKey xs k).isSome = nHas ds k
 | [], xs, h => by cases (show xs = [] from h); rfl
 | (a, b) :: ds, xs, h => by
  obtain ⟨k2, ka, u, v, t, rfl, h2, _, _, _, _, h7⟩ := h
  have ih := NKs.has (k := k) h7
  unfold atKey nHas at ih ⊢
  by_cases e : k2 = k
  ·simp [List.find?_cons, e, h2]
  ·simp only [List.find?_cons, List.any_cons, h2, Option.some.injEq, e, decide_false, Bool.false_or]
   exact ih
theorem NKs.set {k : NestedKey} {kd vd : D} {ka : Addr} {v : V} {u : Value} (hk : nkD kd = some k) (hd : k.depth ≤ 8) (hi : Is K C kd (.ref ka)) (hr : RelV v u) (hv : Is K C vd v) {ds : List (D × D)} {xs : NEnt} (h : NKs K C ds xs) : NKs K C (nSet ds kd k vd) (storedH xs k ka u) := by
 have upd : ∀ {ds : List (D × D)} {xs : NEnt}, NKs K C ds xs → NKs K C (ds.map fun kv => if nkD kv.1 = some k then (kv.1, vd) else kv) (xs.map (putAt k u)) := fun {ds} => by
  induction ds with
  | nil => intro xs h; cases (show xs = [] from h); rfl
  | cons p ds ih =>
   intro xs h
   obtain ⟨a, b⟩ := p
   obtain ⟨k2, ka2, u2, v2, t, rfl, h2, h3, h4, h5, h6, h7⟩ := h
   rw [List.map_cons, List.map_cons]
   by_cases e : k2 = k
   ·have e1 : putAt k u (k2, ka2, u2) = (k2, ka2, u) := by unfold putAt; rw [if_pos e]
    rw [e1, if_pos (by rw [h2, e])]
    exact ⟨k2, ka2, u, v, _, rfl, h2, h3, h4, hr, hv, ih h7⟩
   ·have e1 : putAt k u (k2, ka2, u2) = (k2, ka2, u2) := by unfold putAt; rw [if_neg e]
    rw [e1, if_neg (by rw [h2]; exact fun z => e (Option.some.inj z))]
    exact ⟨k2, ka2, u2, v2, _, rfl, h2, h3, h4, h5, h6, ih h7⟩
 have snoc : ∀ {ds : List (D × D)} {xs : NEnt}, NKs K C ds xs → NKs K C (ds ++ [(kd, vd)]) (xs ++ [(k, ka, u)]) := fun {ds} => by
  induction ds with
  | nil => intro xs h; cases (show xs = [] from h); exact ⟨k, ka, u, v, [], rfl, hk, hd, hi, hr, hv, rfl⟩
  | cons p ds ih =>
   intro xs h
   obtain ⟨a, b⟩ := p
   obtain ⟨k2, ka2, u2, v2, t, rfl, h2, h3, h4, h5, h6, h7⟩ := h
   exact ⟨k2, ka2, u2, v2, _, rfl, h2, h3, h4, h5, h6, ih h7⟩
 unfold nSet storedH
 rw [NKs.has h]
 by_cases q : nHas ds k = true
 ·rw [if_pos q, if_pos q]; exact upd h
 ·rw [if_neg q, if_neg q]; exact snoc h
end
def fNNew (P : Program) (w : World) : PL.P Rv := fun ρ => some (.ok (.new (.dn P w [])) ρ)
def nkOk (d : D) : Option NestedKey := match d with
 | .tup ds => (match nkD (.tup ds) with
  | some k => if k.depth ≤ 8 then some k else none
  | none => none)
 | _ => none
section
variable {K : PySem.W.Frag} {W : WX} {fx : List Nat} {P : Program} {w : World}
theorem nkOk_some {d : D} {k : NestedKey} (h : nkOk d = some k) : nkD d = some k ∧ k.depth ≤ 8 ∧ ∃ ds, d = .tup ds := by
 unfold nkOk at h
 cases d with
 | tup ds =>
  dsimp only at h
  cases q : nkD (.tup ds) with
  | none => rw [q] at h; cases h
  | some k2 =>
   rw [q] at h
   dsimp only at h
   by_cases c : k2.depth ≤ 8
   ·rw [if_pos c] at h; cases h; exact ⟨rfl, c, ds, rfl⟩
   ·rw [if_neg c] at h; cases h
 | _ => cases h
end
end PL
namespace PL
open PySem L2 PySem.Spec PyProof.Rows
section
variable {α : Type} {Q : α → En → Prop} {QR : Rv → En → Prop} {QF : Fl → En → Prop} {E : Exn → En → Prop} {ρ : En} {P : Program} {w : World}
theorem wp_nnew : wp (fNNew P w) QR E ρ ↔ QR (.new (.dn P w [])) ρ := Iff.rfl
end
end PL
namespace PL
open PySem L2 PySem.Spec PyProof.Rows
end PL
namespace PL
open PySem L2 PySem.Spec PyProof.Rows
section
variable {K : PySem.W.Frag} {W : WX} {P : Program} {w : World}
theorem EnvOk.cut {σ : Sl} {C H : Hp} {ρ : En} (e : EnvOk K C H σ ρ) (i : Nat) : EnvOk K C H σ (ρ.set i .no) := by
 have old : ∀ (j : Nat) (c : Cell), (ρ.set i .no)[j]? = some c → c = .no ∨ ρ[j]? = some c := fun j c h => by
  by_cases hj : i = j
  ·subst hj
   have : i < (ρ.set i .no).length := (List.getElem?_eq_some_iff.mp h).1
   rw [List.length_set] at this
   rw [List.getElem?_set_self this] at h
   cases h
   exact .inl rfl
  ·rw [List.getElem?_set_ne hj] at h
   exact .inr h
 refine ⟨by rw [List.length_set]; exact e.len, e.ext, fun j c h => ?_, fun j k m n a h1 h2 => ?_, e.tab⟩
 ·rcases old j c h with rfl | h'
  ·have hl : j < ρ.length := by have := (List.getElem?_eq_some_iff.mp h).1; rwa [List.length_set] at this
   obtain ⟨v, hv, _⟩ := e.cell j _ (List.getElem?_eq_getElem hl)
   exact ⟨v, hv, True.intro⟩
  ·exact e.cell j c h'
 ·rcases old j _ h1 with z | h1'
  ·cases z
  ·rcases old k _ h2 with z | h2'
   ·cases z
   ·exact e.inj j k m n a h1' h2'
theorem NKs.at {C : Hp} : ∀ {ds : List (D × D)} {xs : NEnt} {i : Nat} {d : D × D} {y : NestedKey × Addr × Value}, NKs K C ds xs → ds[i]? = some d → xs[i]? = some y → Is K C d.1 (.ref y.2.1) ∧ ∃ v, RelV v y.2.2 ∧ Is K C d.2 v
 | [], xs, i, d, y, h, h1, h2 => by simp at h1
 | (a, b) :: ds, xs, i, d, y, h, h1, h2 => by
  obtain ⟨k, ka, u, v, t, rfl, _, _, h4, h5, h6, h7⟩ := h
  cases i with
  | zero =>
   simp only [List.getElem?_cons_zero, Option.some.injEq] at h1 h2
   subst h1; subst h2
   exact ⟨h4, v, h5, h6⟩
  | succ j =>
   simp only [List.getElem?_cons_succ] at h1 h2
   exact NKs.at h7 h1 h2
def keysN (kvs : List (D × D)) : List D := kvs.map (·.1)
end
section
variable {QDs : List D → En → Prop} {QN : List (D × D) → En → Prop} {E : Exn → En → Prop} {ρ : En} {P : Program} {w : World}
def pinNQ (P : Program) (w : World) (i : Nat) (Q : List (D × D) → En → Prop) (ρ : En) : Cell → Prop
 | .own (.dn P' w' kvs) => (P' = P ∧ w' = w) ∧ Q kvs (ρ.set i .no)
 | _ => False
def wpPinN (P : Program) (w : World) (ρ : En) (r : Rv) (Q : List (D × D) → En → Prop) : Prop := match r with
 | .new (.dn P' w' kvs) => (P' = P ∧ w' = w) ∧ Q kvs ρ
 | .bor i => atS ρ i (pinNQ P w i Q ρ)
 | _ => False
theorem wax {i : Nat} : wpPinN P w ρ (.bor i) QN ↔ atS ρ i (pinNQ P w i QN ρ) := Iff.rfl
end
end PL
namespace PL
open PySem PySem.Spec PyProof.Rows L2 LW
end PL
namespace PL
open PySem PySem.Spec PyProof.Rows L2
section
variable {K : PySem.W.Frag} {W : WX} {P : Program} {w : World}
theorem NKs.keys {C : Hp} : ∀ {ds : List (D × D)} {xs : NEnt}, NKs K C ds xs → (keysN ds).map nkD = (xs.map (·.1)).map some
 | [], xs, h => by cases (show xs = [] from h); rfl
 | (a, b) :: ds, xs, h => by
  obtain ⟨k, ka, u, v, t, rfl, h2, _, h4, h5, h6, h7⟩ := h
  show nkD a :: (keysN ds).map nkD = some k :: (t.map (·.1)).map some
  rw [h2, NKs.keys h7]
theorem NKs.nd {C : Hp} {ds : List (D × D)} {xs : NEnt} (h : NKs K C ds xs) (n : (xs.map (·.1)).Nodup) : (keysN ds).Nodup := by
 have h1 : ((keysN ds).map nkD).Nodup := by
  rw [h.keys]
  exact List.Pairwise.map _ (fun a b c z => c (Option.some.inj z)) n
 exact List.Pairwise.of_map nkD (fun x y ne e => ne (by rw [e])) h1
end
end PL
namespace PL.SX
open PySem PySem.Calls PyProof.Rows PySem.Spec L2
end PL.SX
namespace PL
open PySem PySem.Spec PyProof.Rows L2 LW
end PL
namespace PL
open PySem L2 PySem.Spec PyProof.Rows
end PL
namespace PL
open PySem L2 PySem.Spec PyProof.Rows
end PL
namespace SG
open PySem L2 PL LW
local macro_rules | `(tactic| walk_at "w") => `(tactic| (try simp only [PL.wp_seq, PL.wp_set, PL.za3, PL.zbb, PL.wp_op, PL.wp_un, PL.wp_var, PL.wp_c, PL.kaq, PL.vaq, PL.qam, PL.wal, PL.kal, PL.vr, PL.yal, PL.kam, PL.xam, PL.vam, PL.yap, PL.vap, PL.ya5, PL.va5, PL.wa5, PL.qaq, PL.wap, PL.qan, PL.ja8, PL.za8, PL.jan, PL.ja3, PL.vak, PL.wa3, PL.wp_brk, PL.qa5, PL.jar, PL.zap, PL.wad, PL.zz, PL.jz, PL.kz, PL.jad, PL.qad, PL.xab, PL.yab, PL.kab, List.set_cons_zero, List.set_cons_succ, List.length_cons, List.length_nil, PL.addD, PL.subD, PL.zak, PL.mulD, PL.modD, PL.xbi, PL.wp_run, List.cons_append, List.nil_append, List.replicate, List.getElem?_cons_zero, List.getElem?_cons_succ, PL.za4, PL.qac, PL.vz, PL.yam, PL.wba, PL.qbb, PL.isB_bl, PL.xbb, PL.wp_call, PL.v8, PL.qa3, PL.wp_ud, PL.wp_um, PL.xaa, PL.vaa, PL.kaa, PL.xae, PL.vae, PL.kae, PL.jaq, PL.xaq, PL.zaq, PL.wp_cb, PL.wp_nil, PL.ja5, PL.qab, PL.z9, PL.wa2, PL.kak, PL.wp_tup, PL.wp_lst, PL.waq, PL.wp_and, PL.wp_or, PL.wp_not, PL.ka5, PL.za6, PL.wp_ifE, PL.xal, PL.wp_m1, PL.wp_zno, PL.wp_zat, PL.wp_sl, PL.wp_sif, PL.y8, PL.x8, PL.wp_par, PL.wp_ext, PL.ja4, PL.zy, PL.qy, PL.v9, PL.jy, PL.va3, PL.ka3, PL.vn, PL.wam, PL.y9, PL.yao, PL.kbb, PL.wp_zip, PL.zab, PL.jab, PL.wbe, PL.qbp, PL.vbk, PL.zaf, PL.yaw, PL.ql, PL.xy, PL.qaa, PL.w9, PL.zao, PL.xao, PL.qba, PL.jao, PL.jbc, PL.wa8, PL.lt_int, PL.lt_str, PL.le_int, PL.gt_int, PL.ge_int, PL.va9, PL.za9, PL.wan, PL.yan, PL.ya9, PL.ja6, PL.qa6, PL.sl_lst, PL.sl_tup, PL.sl_ro, PL.sl_str, PL.neg_int, PL.is_bl, PL.yac, PL.is_none, PL.vq, PL.kan, PL.none_int, PL.none_str, PL.ya8, PL.van, PL.xan, PL.wbd, PL.qbe, PL.zaa, PL.yy, PL.jap, Nat.reduceAdd, Nat.reduceSub, Nat.zero_add, Bool.not_true, Bool.not_false, Bool.false_eq_true, if_true, if_false, PL.za5, PL.j7, PL.vg, decide_eq_true_eq, PL.vba, PL.ixw_ro, PL.xba, PL.kba, PL.atI_0, PL.atI_1, PL.wp_ky, PL.qap, PL.wao, PL.zac, PL.dv_bor, PL.dv_dic, PL.kbc, PL.xbc, PL.dvQ_dk, PL.dvQ_dt, PL.vbc, PL.dGet_k, PL.dGet_t, PL.jal, PL.qal, PL.vy, PL.wa4, PL.zal, PL.vao, PL.kao,  PL.ybg, PL.vbg, PL.va4, PL.j9, PL.w8, PL.qu, PL.ya7, PL.wak, PL.qa4, PL.qbi, PL.ya3, PL.yak, PL.ya4, List.take_succ_cons, List.take_zero, Option.map_some, Option.map_none, PL.kq, PL.jh, PL.x4]))
local macro_rules | `(tactic| walk_at "fin") => `(tactic| first | trivial | rfl | decide | (simp; done) | omega)
section
variable {Q : Rv → En → Prop} {QF : Fl → En → Prop} {E : Exn → En → Prop}
def vp (a b : Str) : Bool := if a.length = b.length then strLt a b else decide (a.length < b.length)
def OkWd (w : Str) : Prop := okS w ∧ w.length ≤ 1000
def pr (w : Str) : D := .tup [zi w.length, zs w]
def leA (a b : Str) : Bool := !vp b a
def leS (a b : Str) : Bool := !strLt b a
theorem nt {P : Prop} [Decidable P] {b : Bool} (h : (!decide P) = b) : b = true ↔ ¬ P := by
 rw [← h]; simp
theorem leS_iff {a b : Str} : leS a b = true ↔ ¬ b.cps.toList < a.cps.toList := by unfold leS strLt; simp
theorem leS_trans (a b c : Str) (h1 : leS a b = true) (h2 : leS b c = true) : leS a c = true := by
 rw [leS_iff] at h1 h2 ⊢
 exact List.not_lt.mpr (List.le_trans (List.not_lt.mp h1) (List.not_lt.mp h2))
theorem leS_total (a b : Str) : (leS a b || leS b a) = true := by
 rw [Bool.or_eq_true, leS_iff, leS_iff]
 rcases List.le_total a.cps.toList b.cps.toList with h | h
 ·exact .inl (List.not_lt.mpr h)
 ·exact .inr (List.not_lt.mpr h)
theorem leA_iff {a b : Str} : leA a b = true ↔ a.length < b.length ∨ (a.length = b.length ∧ leS a b = true) := by
 unfold leA vp
 by_cases c : b.length = a.length
 ·rw [if_pos c]
  constructor
  ·intro h; exact .inr ⟨c.symm, h⟩
  ·rintro (h | ⟨_, h⟩)
   ·omega
   ·exact h
 ·rw [if_neg c]
  simp
  constructor
  ·intro h; exact .inl (by omega)
  ·rintro (h | ⟨h, _⟩) <;> omega
theorem leA_trans (a b c : Str) (h1 : leA a b = true) (h2 : leA b c = true) : leA a c = true := by
 rw [leA_iff] at h1 h2 ⊢
 rcases h1 with h1 | ⟨h1, h3⟩
 ·rcases h2 with h2 | ⟨h2, h4⟩
  ·exact .inl (by omega)
  ·exact .inl (by omega)
 ·rcases h2 with h2 | ⟨h2, h4⟩
  ·exact .inl (by omega)
  ·exact .inr ⟨by omega, leS_trans a b c h3 h4⟩
theorem leA_total (a b : Str) : (leA a b || leA b a) = true := by
 rw [Bool.or_eq_true, leA_iff, leA_iff]
 rcases Nat.lt_trichotomy a.length b.length with h | h | h
 ·exact .inl (.inl h)
 ·have := leS_total a b
  rw [Bool.or_eq_true] at this
  rcases this with z | z
  ·exact .inl (.inr ⟨h, z⟩)
  ·exact .inr (.inr ⟨h.symm, z⟩)
 ·exact .inr (.inl h)
end
end SG
namespace SG
open PySem L2 PL LW
abbrev sgn (c : Nat) : Str := ⟨#[c]⟩
end SG
namespace SG
open PySem L2 PL LW
theorem wa9 : ∀ c ∈ lettersS.cps.toList, c ∈ signsS.cps.toList ∧ c ≠ 45 ∧ c ∉ figsS.cps.toList := by decide +kernel
theorem sg_mem {z : Str} {c : Nat} (h : inS z c = true) : c ∈ z.cps.toList := Array.mem_toList_iff.mpr (Array.contains_iff.mp h)
end SG
namespace SG
open PySem L2 PL LW
theorem wag {w : Str} (h : goodW w = true) : (1 ≤ w.length ∧ w.length ≤ 60) ∧ kh signsS w = true := by
 unfold goodW at h
 rw [Bool.and_eq_true, Bool.and_eq_true, decide_eq_true_iff, decide_eq_true_iff] at h
 exact h
theorem ybl : ∀ c ∈ signsS.cps.toList, c < 128 := by decide +kernel
theorem sg_okS {w : Str} (h : kh signsS w = true) : okS w := okS_iff.mpr fun c m => by
 have := ybl c (sg_mem (List.all_eq_true.mp h c m))
 omega
structure Ws (w : Str) : Prop where
 s : kh signsS w = true
 l0 : 1 ≤ w.length
 l1 : w.length ≤ 60
theorem Ws.of {w : Str} (h : goodW w = true) : Ws w := ⟨(wag h).2, (wag h).1.1, (wag h).1.2⟩
theorem Ws.ok {w : Str} (h : Ws w) : OkWd w := ⟨sg_okS h.s, by have := h.l1; omega⟩
end SG
namespace SG
open PySem L2 PL LW
structure KeyW {α : Type} (f : α → D) (k : α → NestedKey) (P : α → Prop) : Prop where
 ok : ∀ a, P a → nkOk (f a) = some (k a)
 inj : ∀ a b, P a → P b → k a = k b → a = b
variable {α : Type} [DecidableEq α] {f : α → D} {k : α → NestedKey} {P : α → Prop}
theorem KeyW.nk (h : KeyW f k P) {a : α} (ha : P a) : nkD (f a) = some (k a) := (nkOk_some (h.ok a ha)).1
theorem KeyW.has (h : KeyW f k P) {β : Type} {g : β → D} {kvs : List (α × β)} (hp : ∀ p ∈ kvs, P p.1) {a : α} (ha : P a) : nHas (kvs.map fun p => (f p.1, g p.2)) (k a) = kvs.any fun p => decide (p.1 = a) := by
 unfold nHas
 induction kvs with
 | nil => rfl
 | cons p kvs ih =>
  rw [List.map_cons, List.any_cons, List.any_cons, ih fun q m => hp q (List.mem_cons_of_mem _ m)]
  congr 1
  show decide (nkD (f p.1) = some (k a)) = decide (p.1 = a)
  rw [h.nk (hp p List.mem_cons_self)]
  by_cases c : p.1 = a
  ·rw [c, decide_eq_true rfl, decide_eq_true rfl]
  ·rw [decide_eq_false c, decide_eq_false fun z => c (h.inj _ _ (hp p List.mem_cons_self) ha (Option.some.inj z))]
def addA (acc : List α) (a : α) : List α := if a ∈ acc then acc else acc ++ [a]
theorem KeyW.set_add (h : KeyW f k P) {d : D} {ks : List α} (hp : ∀ a ∈ ks, P a) {a : α} (ha : P a) : nSet (ks.map fun x => (f x, d)) (f a) (k a) d = (addA ks a).map fun x => (f x, d) := by
 have e : nHas (ks.map fun x => (f x, d)) (k a) = decide (a ∈ ks) := by
  have := h.has (g := fun _ : Unit => d) (kvs := ks.map fun x => (x, ())) (fun p m => by obtain ⟨x, hx, rfl⟩ := List.mem_map.mp m; exact hp x hx) ha
  rw [List.map_map] at this
  rw [show ((fun p : α × Unit => (f p.1, d)) ∘ fun x => (x, ())) = fun x => (f x, d) from rfl] at this
  rw [this, List.any_map, Bool.eq_iff_iff, List.any_eq_true, decide_eq_true_iff]
  exact ⟨fun ⟨x, hx, z⟩ => (of_decide_eq_true z : x = a) ▸ hx, fun m => ⟨a, m, decide_eq_true rfl⟩⟩
 unfold nSet addA
 rw [e]
 by_cases c : a ∈ ks
 ·rw [if_pos (decide_eq_true c), if_pos c, List.map_map]
  refine List.map_congr_left fun x m => ?_
  show (if nkD (f x) = some (k a) then (f x, d) else (f x, d)) = _
  split <;> rfl
 ·rw [if_neg (by rw [decide_eq_false c]; decide), if_neg c, List.map_append]
  rfl
end SG
namespace SG
open PySem L2 PL LW
end SG
namespace SG
open PySem L2 PL LW
end SG
namespace SG
open PySem L2 PL LW
def subs {α : Type} : List α → List (List α)
 | [] => [[]]
 | x :: xs => (subs xs).map (x :: ·) ++ subs xs
theorem subs_len {α : Type} : ∀ xs : List α, (subs xs).length = 2 ^ xs.length
 | [] => rfl
 | x :: xs => by
  unfold subs
  rw [List.length_append, List.length_map, subs_len xs, List.length_cons, Nat.pow_succ]; omega
theorem wq {α : Type} (p : α → Bool) : ∀ xs : List α, xs.filter p ∈ subs xs
 | [] => List.mem_singleton.mpr rfl
 | x :: xs => by
  unfold subs
  rw [List.filter_cons]
  split
  ·exact List.mem_append_left _ (List.mem_map.mpr ⟨_, wq p xs, rfl⟩)
  ·exact List.mem_append_right _ (wq p xs)
def allSt (n : Nat) (t : List Str) (b : Bool) (x : Str) : List Sta := (List.range (n + 1)).flatMap fun (i : Nat) => [⟨t, (i : Int) - 1, "", b⟩, ⟨t, (i : Int) - 1, x, b⟩]
noncomputable def cands (ns : List Str) (n : Nat) : List (List Sta) := (subs ns).flatMap fun t => [false, true].flatMap fun b => (("" : Str) :: ns).flatMap fun x => (subs (allSt n t b x)).map sortS
theorem yq {α β : Type} {f : α → List β} {k : Nat} (h : ∀ a, (f a).length ≤ k) : ∀ l : List α, (l.flatMap f).length ≤ l.length * k
 | [] => Nat.zero_le _
 | a :: l => by
  have := yq h l
  have := h a
  rw [List.flatMap_cons, List.length_append, List.length_cons, Nat.succ_mul]; omega
structure Can (ns : List Str) (n : Nat) (ss : List Sta) : Prop where
 so : sortS ss = ss
 st : ∀ s ∈ ss, StS s
 ti : ∃ t b x, t ∈ subs ns ∧ x ∈ (("" : Str) :: ns) ∧ ∀ s ∈ ss, s.told = t ∧ s.stop = b ∧ (s.wait = "" ∨ s.wait = x) ∧ -1 ≤ s.num ∧ s.num < n
theorem Can.mem {ns : List Str} {n : Nat} {ss : List Sta} (h : Can ns n ss) : ss ∈ cands ns n := by
 obtain ⟨t, b, x, ht, hx, hs⟩ := h.ti
 unfold cands
 refine List.mem_flatMap.mpr ⟨t, ht, List.mem_flatMap.mpr ⟨b, by cases b <;> simp, List.mem_flatMap.mpr ⟨x, hx, List.mem_map.mpr ⟨(allSt n t b x).filter fun s => decide (s ∈ ss), wq _ _, ?_⟩⟩⟩⟩
 refine Eq.trans ?_ h.so
 refine (vbl h.st fun s => ?_).symm
 rw [List.mem_filter, decide_eq_true_iff]
 refine ⟨fun m => ⟨?_, m⟩, fun m => m.2⟩
 obtain ⟨h1, h2, h3, h4, h5⟩ := hs s m
 unfold allSt
 refine List.mem_flatMap.mpr ⟨(s.num + 1).toNat, List.mem_range.mpr (by omega), ?_⟩
 obtain ⟨st, sn, sw, sb⟩ := s
 have e : (((sn + 1).toNat : Nat) : Int) - 1 = sn := by
  have h4 : -1 ≤ sn := h4
  omega
 simp only [List.mem_cons, List.not_mem_nil, or_false]
 show _ ∨ _
 rw [show ((Sta.mk st sn sw sb).num + 1).toNat = (sn + 1).toNat from rfl, e]
 have h1 : st = t := h1
 have h2 : sb = b := h2
 subst h1
 subst h2
 rcases h3 with h3 | h3
 ·exact .inl (by rw [show sw = "" from h3])
 ·exact .inr (by rw [show sw = x from h3])
end SG
namespace SG
open PySem L2 PL LW
end SG
namespace PL
open PySem L2 PySem.Spec PyProof.Rows
def pairN : D → Option (D × NestedKey × D)
 | .tup [a, b] => (nkOk a).map fun k => (a, k, b)
 | _ => none
def pairsN : List D → Option (List (D × NestedKey × D))
 | [] => some []
 | d :: ds => match pairN d, pairsN ds with
  | some p, some ps => some (p :: ps)
  | _, _ => none
def putsN (kvs : List (D × D)) (ps : List (D × NestedKey × D)) : List (D × D) := ps.foldl (fun acc p => nSet acc p.1 p.2.1 p.2.2) kvs
def dictPD (P : Program) (w : World) : D → Option Rv
 | .lst ds => match pairsN ds with
  | some ps => some (.new (.dn P w (putsN [] ps)))
  | none => none
 | _ => none
end PL
namespace SG
open PySem L2 PL LW
abbrev Prs := Sta × Sta × Bool
noncomputable def sLt (a b : Sta) : Bool := PySem.W.dataLt a.pd b.pd
noncomputable def zas (a b : Sta) (f : Bool) : Prs := if f = true ∧ sLt b a = true then (b, a, true) else (a, b, f)
abbrev Wd := List (List Str × List Prs)
def xbl (ns : List Str) (n : Nat) : List Sta := (subs ns).flatMap fun t => [false, true].flatMap fun b => (("" : Str) :: ns).flatMap fun x => (List.range (n + 1)).map fun (i : Nat) => (⟨t, (i : Int) - 1, x, b⟩ : Sta)
theorem stAll_len {ns : List Str} {n : Nat} (h1 : ns.length ≤ 5) (h2 : n ≤ 4) : (xbl ns n).length ≤ 1920 := by
 have e1 : ∀ (t : List Str) (b : Bool) (x : Str), ((List.range (n + 1)).map fun (i : Nat) => (⟨t, (i : Int) - 1, x, b⟩ : Sta)).length ≤ 5 := fun t b x => by
  rw [List.length_map, List.length_range]; omega
 have e2 : ∀ (t : List Str) (b : Bool), ((("" : Str) :: ns).flatMap fun x => (List.range (n + 1)).map fun (i : Nat) => (⟨t, (i : Int) - 1, x, b⟩ : Sta)).length ≤ 6 * 5 := fun t b => by
  refine Nat.le_trans (yq (e1 t b) _) (Nat.mul_le_mul_right _ ?_)
  rw [List.length_cons]; omega
 have e3 : ∀ t : List Str, ([false, true].flatMap fun b => (("" : Str) :: ns).flatMap fun x => (List.range (n + 1)).map fun (i : Nat) => (⟨t, (i : Int) - 1, x, b⟩ : Sta)).length ≤ 2 * (6 * 5) := fun t => yq (e2 t) _
 refine Nat.le_trans (yq e3 _) ?_
 rw [subs_len]
 have : 2 ^ ns.length ≤ 2 ^ 5 := Nat.pow_le_pow_right (by decide) h1
 have := Nat.mul_le_mul_right (2 * (6 * 5)) this
 omega
theorem vbf {tb : Tb} {s : Sta} (h : StOk tb s) : s ∈ xbl (wh tb.ws) tb.ps.length := by
 have h1 := h.n0
 have h2 := h.n1
 obtain ⟨st, sn, sw, sb⟩ := s
 have hx : sw ∈ (("" : Str) :: wh tb.ws) := by
  rcases h.w with e | ⟨o, ho, e, _⟩
  ·rw [show sw = "" from e]; exact List.mem_cons_self
  ·exact List.mem_cons_of_mem _ (List.mem_map.mpr ⟨o, ho, e⟩)
 have ht : st ∈ subs (wh tb.ws) := by
  rw [show st = _ from h.td]; exact wq _ _
 unfold xbl
 refine List.mem_flatMap.mpr ⟨st, ht, List.mem_flatMap.mpr ⟨sb, by cases sb <;> simp, List.mem_flatMap.mpr ⟨sw, hx, List.mem_map.mpr ⟨(sn + 1).toNat, List.mem_range.mpr ?_, ?_⟩⟩⟩⟩
 ·have h1 : -1 ≤ sn := h1
  have h2 : sn < tb.ps.length := h2
  omega
 ·have h1 : -1 ≤ sn := h1
  rw [show (((sn + 1).toNat : Nat) : Int) - 1 = sn by omega]
def PrOk (tb : Tb) (p : Prs) : Prop := StOk tb p.1 ∧ StOk tb p.2.1
theorem prs_len {tb : Tb} (hT : tb.ws.length ≤ 5) (hp : tb.ps.length ≤ 4) {l : List Prs} (nd : l.Nodup) (h : ∀ p ∈ l, PrOk tb p) : l.length ≤ 7372800 := by
 have hs := stAll_len (ns := wh tb.ws) (n := tb.ps.length) (by unfold wh; rw [List.length_map]; exact hT) hp
 have e : l.length ≤ ((xbl (wh tb.ws) tb.ps.length).flatMap fun a => (xbl (wh tb.ws) tb.ps.length).flatMap fun b => [(a, b, false), (a, b, true)]).length := by
  refine SX.nodup_len nd fun p m => ?_
  obtain ⟨a, b, f⟩ := p
  have := h _ m
  exact List.mem_flatMap.mpr ⟨a, vbf this.1, List.mem_flatMap.mpr ⟨b, vbf this.2, by cases f <;> simp⟩⟩
 have e1 : ∀ a : Sta, ((xbl (wh tb.ws) tb.ps.length).flatMap fun b => [(a, b, false), (a, b, true)]).length ≤ 1920 * 2 := fun a => Nat.le_trans (yq (k := 2) (fun b => by simp) _) (Nat.mul_le_mul_right _ hs)
 have := yq e1 (xbl (wh tb.ws) tb.ps.length)
 have := Nat.mul_le_mul_right (1920 * 2) hs
 omega
structure DOk (tb : Tb) (q : Wd × List Prs) : Prop where
 w : ∀ x ∈ q.1, (∀ p ∈ x.2, PrOk tb p ∧ p ∈ q.2) ∧ x.1.length ≤ q.1.length
 nd : q.2.Nodup
 c : ∀ p ∈ q.2, PrOk tb p
 l : q.1.length ≤ q.2.length + 1
theorem DOk.len {tb : Tb} (hT : tb.ws.length ≤ 5) (hp : tb.ps.length ≤ 4) {q : Wd × List Prs} (h : DOk tb q) : q.2.length ≤ 7372800 ∧ q.1.length ≤ 7372801 := by
 have h1 := prs_len hT hp h.nd h.c
 have h2 := h.l
 exact ⟨h1, by omega⟩
end SG
namespace SG
open PySem L2 PL LW
theorem sum_congr {α : Type} {f g : α → Nat} {l : List α} (h : ∀ a ∈ l, f a = g a) : (l.map f).sum = (l.map g).sum := by rw [List.map_congr_left h]
theorem ka6 {α : Type} {g : α → Nat} {l : List α} {a : α} (m : a ∈ l) : g a ≤ (l.map g).sum := by
 induction l with
 | nil => cases m
 | cons b l ih =>
  rw [List.map_cons, List.sum_cons]
  rcases List.mem_cons.mp m with e | m2
  ·rw [e]; omega
  ·have := ih m2
   omega
theorem sum_two {α : Type} {g : α → Nat} {l : List α} {a b : α} (ma : a ∈ l) (mb : b ∈ l) (h : a ≠ b) : g a + g b ≤ (l.map g).sum := by
 induction l with
 | nil => cases ma
 | cons c l ih =>
  rw [List.map_cons, List.sum_cons]
  rcases List.mem_cons.mp ma with ea | ma2
  ·rcases List.mem_cons.mp mb with eb | mb2
   ·exact absurd (ea.trans eb.symm) h
   ·have := ka6 (g := g) mb2
    rw [ea]; omega
  ·rcases List.mem_cons.mp mb with eb | mb2
   ·have := ka6 (g := g) ma2
    rw [eb]; omega
   ·have := ih ma2 mb2
    omega
def cntP (tb : Tb) (φ : Sta → Nat) : Sta → List Str → Nat
 | s, [] => φ s
 | s, w :: r => ((zp tb s w).map fun m => cntP tb φ m.2 r).sum
end SG
namespace SG
open PySem L2 PL LW
def nxt (tb : Tb) (t : List Str) (b : Bool) (w : Str) : List Str × Bool × Str :=
 if b = true then (t, true, "") else if bareW w = true then (t, false, "") else if w = "--" then (t, true, "")
 else match tellOf tb.ws w with
  | none => (t, false, "")
  | some (i, v) => match tb.ws[i]? with
   | none => (t, false, "")
   | some o => (addT tb.ws t o.name, false, if o.kind.isSome = true ∧ v = "" then o.name else "")
theorem mv_nxt {tb : Tb} {s : Sta} {w : Str} {m : Part × Sta} (h : m ∈ xai tb s w) : (m.2.told, m.2.stop, m.2.wait) = nxt tb s.told s.stop w := by
 have laid : m ∈ laidM tb s w → (m.2.told, m.2.stop, m.2.wait) = (s.told, s.stop, ("" : Str)) := fun h => by
  obtain ⟨j, _, rfl⟩ := List.mem_map.mp h
  rfl
 unfold xai at h
 unfold nxt
 cases hs : s.stop with
 | true =>
  rw [hs] at h laid
  rw [if_pos rfl] at h ⊢
  exact laid h
 | false =>
  rw [hs] at h laid
  rw [if_neg (by decide)] at h ⊢
  cases hb : bareW w with
  | true =>
   rw [hb, if_pos rfl] at h
   rw [if_pos rfl]
   rcases List.mem_append.mp h with h | h
   ·unfold valueM at h
    split at h
    ·split at h
     ·split at h
      ·rw [List.mem_singleton.mp h]
      ·cases h
     ·cases h
    ·cases h
   ·split at h
    ·cases h
    ·exact laid h
  | false =>
   rw [hb, if_neg (by decide)] at h
   rw [if_neg (by decide)]
   split at h
   ·cases h
   split at h
   ·rename_i c
    rw [if_pos c, List.mem_singleton.mp h]
   ·rename_i c
    rw [if_neg c]
    unfold toldM at h
    split at h
    ·cases h
    ·rename_i i v e
     try rw [e]
     try dsimp only
     split at h
     ·cases h
     ·rename_i o eo
      try rw [eo]
      try dsimp only
      split at h
      ·cases h
      ·rw [List.mem_singleton.mp h]
       rfl
theorem mv_num {tb : Tb} {s : Sta} {w : Str} {m : Part × Sta} (h : m ∈ xai tb s w) : s.num ≤ m.2.num ∧ m.2.num = (match m.1 with | .place j => (j : Int) | _ => s.num) := by
 have laid : m ∈ laidM tb s w → s.num ≤ m.2.num ∧ m.2.num = (match m.1 with | .place j => (j : Int) | _ => s.num) := fun h => by
  obtain ⟨j, hj, rfl⟩ := List.mem_map.mp h
  exact ⟨(laidC_lt (List.mem_filter.mp hj).2).2, rfl⟩
 unfold xai at h
 split at h
 ·exact laid h
 split at h
 ·rcases List.mem_append.mp h with h | h
  ·unfold valueM at h
   split at h
   ·split at h
    ·split at h
     ·rw [List.mem_singleton.mp h]; exact ⟨Int.le_refl _, rfl⟩
     ·cases h
    ·cases h
   ·cases h
  ·split at h
   ·cases h
   ·exact laid h
 split at h
 ·cases h
 split at h
 ·rw [List.mem_singleton.mp h]; exact ⟨Int.le_refl _, rfl⟩
 ·unfold toldM at h
  split at h
  ·cases h
  ·split at h
   ·cases h
   ·split at h
    ·cases h
    ·rw [List.mem_singleton.mp h]; exact ⟨Int.le_refl _, rfl⟩
theorem yar {a b : Sta} (h1 : a.told = b.told) (h2 : a.num = b.num) (h3 : a.wait = b.wait) (h4 : a.stop = b.stop) : a = b := by
 cases a; cases b
 simp only at h1 h2 h3 h4
 rw [h1, h2, h3, h4]
theorem slt_dle {a b : Sta} (ha : StS a) (hb : StS b) : sLt b a = !dle a.d b.d := by
 rw [qaj, Sta.py ha, Sta.py hb, Bool.not_not]
 rfl
structure Tw (tb : Tb) (p : Prs) : Prop where
 a : StOk tb p.1
 b : StOk tb p.2.1
 t : p.1.told = p.2.1.told
 s : p.1.stop = p.2.1.stop
 w : p.1.wait = p.2.1.wait
 e : p.2.2 = false → p.1 = p.2.1
 c : p.2.2 = true → dle p.1.d p.2.1.d = true
theorem Tw.put {tb : Tb} (hst : ∀ s, StOk tb s → StS s) {p : Prs} (h : Tw tb p) {w : Str} {m n : Part × Sta} (hm : m ∈ zp tb p.1 w) (hn : n ∈ zp tb p.2.1 w) : Tw tb (zas m.2 n.2 (p.2.2 || decide (m.1 ≠ n.1))) := by
 have hm0 := (List.mem_filter.mp hm).1
 have hn0 := (List.mem_filter.mp hn).1
 have e1 := mv_nxt hm0
 have e2 := mv_nxt hn0
 rw [← h.t, ← h.s, ← e1] at e2
 have e3 : n.2.told = m.2.told := congrArg (fun x : List Str × Bool × Str => x.1) e2
 have e4 : n.2.stop = m.2.stop := congrArg (fun x : List Str × Bool × Str => x.2.1) e2
 have e5 : n.2.wait = m.2.wait := congrArg (fun x : List Str × Bool × Str => x.2.2) e2
 have ka := kbh h.a m hm
 have kb := kbh h.b n hn
 unfold zas
 by_cases c : (p.2.2 || decide (m.1 ≠ n.1)) = true ∧ sLt n.2 m.2 = true
 ·rw [if_pos c]
  refine ⟨kb, ka, e3, e4, e5, (fun z => by cases z), fun _ => ?_⟩
  have h1 := c.2
  rw [slt_dle (hst _ ka) (hst _ kb), Bool.not_eq_true'] at h1
  have h2 := w7 m.2.d n.2.d
  rw [h1, Bool.false_or] at h2
  exact h2
 ·rw [if_neg c]
  refine ⟨ka, kb, e3.symm, e4.symm, e5.symm, fun z => ?_, fun z => ?_⟩
  ·have z : (p.2.2 || decide (m.1 ≠ n.1)) = false := z
   rw [Bool.or_eq_false_iff, decide_eq_false_iff_not, Decidable.not_not] at z
   have hab := h.e z.1
   have h1 := (mv_num hm0).2
   have h2 := (mv_num hn0).2
   rw [← hab, ← z.2, ← h1] at h2
   exact yar e3.symm h2.symm e5.symm e4.symm
  ·have z : (p.2.2 || decide (m.1 ≠ n.1)) = true := z
   have h1 : sLt n.2 m.2 = false := by rw [Bool.eq_false_iff]; exact fun q => c ⟨z, q⟩
   rw [slt_dle (hst _ ka) (hst _ kb), Bool.not_eq_false'] at h1
   exact h1
def rho (p : Prs) : Nat := p.1.told.length + (if p.1.stop = true then 1 else 0) + ((p.1.num + 1).toNat + (p.2.1.num + 1).toNat) + (if p.2.2 = true then 1 else 0)
structure SameL (p q : Prs) : Prop where
 t : p.1.told = q.1.told
 s : p.1.stop = q.1.stop
 f : p.2.2 = q.2.2
 n : (p.1.num = q.1.num ∧ p.2.1.num = q.2.1.num) ∨ (p.1.num = q.2.1.num ∧ p.2.1.num = q.1.num)
theorem SameL.trans {p q r : Prs} (h : SameL p q) (k : SameL q r) : SameL p r := ⟨h.t.trans k.t, h.s.trans k.s, h.f.trans k.f, by
 rcases h.n with ⟨h1, h2⟩ | ⟨h1, h2⟩ <;> rcases k.n with ⟨k1, k2⟩ | ⟨k1, k2⟩
 ·exact .inl ⟨h1.trans k1, h2.trans k2⟩
 ·exact .inr ⟨h1.trans k1, h2.trans k2⟩
 ·exact .inr ⟨h1.trans k2, h2.trans k1⟩
 ·exact .inl ⟨h1.trans k2, h2.trans k1⟩⟩
theorem SameL.rho {p q : Prs} (h : SameL p q) : SG.rho p = SG.rho q := by
 unfold SG.rho
 rw [h.t, h.s, h.f]
 rcases h.n with ⟨h1, h2⟩ | ⟨h1, h2⟩
 ·rw [h1, h2]
 ·rw [h1, h2]; omega
def LeL (p q : Prs) : Prop := SameL p q ∨ SG.rho p < SG.rho q
theorem LeL.trans {p q r : Prs} (h : LeL p q) (k : LeL q r) : LeL p r := by
 rcases h with h | h <;> rcases k with k | k
 ·exact .inl (h.trans k)
 ·right; rw [h.rho]; exact k
 ·right; rw [← k.rho]; exact h
 ·right; omega
theorem Tw.inj {tb : Tb} (hst : ∀ s, StOk tb s → StS s) {p q : Prs} (h : Tw tb p) (k : Tw tb q) (l : SameL p q) (w : p.1.wait = q.1.wait) : p = q := by
 obtain ⟨a, b, f⟩ := p
 obtain ⟨c, d, g⟩ := q
 obtain ⟨t1, s1, f1, n1⟩ := l
 have ht := h.t
 have hs := h.s
 have hw := h.w
 have kt := k.t
 have ks := k.s
 have kw := k.w
 dsimp only at *
 subst f1
 rcases n1 with ⟨n1, n2⟩ | ⟨n1, n2⟩
 ·have e1 : a = c := yar t1 n1 w s1
  have e2 : b = d := yar (ht.symm.trans (t1.trans kt)) n2 (hw.symm.trans (w.trans kw)) (hs.symm.trans (s1.trans ks))
  rw [e1, e2]
 ·have e1 : a = d := yar (t1.trans kt) n1 (w.trans kw) (s1.trans ks)
  have e2 : b = c := yar (ht.symm.trans t1) n2 (hw.symm.trans w) (hs.symm.trans s1)
  cases hf : f with
  | false =>
   have z : a = b := h.e hf
   rw [← e1, ← e2, z]
  | true =>
   have z1 : dle a.d b.d = true := h.c hf
   have z2 : dle c.d d.d = true := k.c hf
   rw [← e1, ← e2] at z2
   have z := dle_anti (hst a h.a) (hst b h.b) z1 z2
   rw [← e1, ← e2, z]
theorem add_len {tb : Tb} {t : List Str} (hn : (wh tb.ws).Nodup) (ht : t = (wh tb.ws).filter fun n => inW n t) {z : Str} (hz : z ∈ wh tb.ws) : addT tb.ws t z = t ∨ t.length < (addT tb.ws t z).length := by
 by_cases c : z ∈ t
 ·left
  have e : addT tb.ws t z = (wh tb.ws).filter fun n => inW n t := List.filter_congr fun n _ => by
   rw [Bool.eq_iff_iff, Bool.or_eq_true, beq_iff_eq]
   exact ⟨fun h => h.elim id fun e => by rw [e]; exact inW_iff.mpr c, .inl⟩
  rw [e]; exact ht.symm
 ·right
  have hd : t.Nodup := by rw [ht]; exact List.Nodup.sublist List.filter_sublist hn
  have : (z :: t).length ≤ (addT tb.ws t z).length := SX.nodup_len (List.nodup_cons.mpr ⟨c, hd⟩) fun x m => by
   refine List.mem_filter.mpr ?_
   rcases List.mem_cons.mp m with rfl | m
   ·exact ⟨hz, by rw [beq_self_eq_true, Bool.or_true]⟩
   ·refine ⟨?_, by rw [inW_iff.mpr m, Bool.true_or]⟩
    rw [ht] at m
    exact (List.mem_filter.mp m).1
  rw [List.length_cons] at this
  omega
theorem nxt_told {tb : Tb} (hn : (wh tb.ws).Nodup) {s : Sta} (hs : StOk tb s) {w : Str} : ((nxt tb s.told s.stop w).1 = s.told ∨ s.told.length < (nxt tb s.told s.stop w).1.length) ∧ (s.stop = true → (nxt tb s.told s.stop w).2.1 = true) := by
 unfold nxt
 split
 ·exact ⟨.inl rfl, fun _ => rfl⟩
 rename_i c
 refine ⟨?_, fun z => absurd z c⟩
 split
 ·exact .inl rfl
 split
 ·exact .inl rfl
 split
 ·exact .inl rfl
 split
 ·exact .inl rfl
 ·rename_i o ho
  exact add_len hn hs.td (List.mem_map.mpr ⟨o, List.mem_of_getElem? ho, rfl⟩)
theorem Tw.le {tb : Tb} (hn : (wh tb.ws).Nodup) {p : Prs} (h : Tw tb p) {w : Str} {m n : Part × Sta} (hm : m ∈ zp tb p.1 w) (hn2 : n ∈ zp tb p.2.1 w) : LeL p (zas m.2 n.2 (p.2.2 || decide (m.1 ≠ n.1))) := by
 have hm0 := (List.mem_filter.mp hm).1
 have hn0 := (List.mem_filter.mp hn2).1
 have e1 := mv_nxt hm0
 have e2 := mv_nxt hn0
 rw [← h.t, ← h.s, ← e1] at e2
 have e3 : n.2.told = m.2.told := congrArg (fun x : List Str × Bool × Str => x.1) e2
 have e4 : n.2.stop = m.2.stop := congrArg (fun x : List Str × Bool × Str => x.2.1) e2
 obtain ⟨t1, t2⟩ := nxt_told hn h.a (w := w)
 rw [← e1] at t1 t2
 have t1 : m.2.told = p.1.told ∨ p.1.told.length < m.2.told.length := t1
 have t2 : p.1.stop = true → m.2.stop = true := t2
 have n1 := (mv_num hm0).1
 have n2 := (mv_num hn0).1
 have a0 := h.a.n0
 have b0 := h.b.n0
 have key : LeL p (m.2, n.2, (p.2.2 || decide (m.1 ≠ n.1))) := by
  by_cases c : m.2.told = p.1.told ∧ m.2.stop = p.1.stop ∧ m.2.num = p.1.num ∧ n.2.num = p.2.1.num ∧ (p.2.2 || decide (m.1 ≠ n.1)) = p.2.2
  ·exact .inl ⟨c.1.symm, c.2.1.symm, c.2.2.2.2.symm, .inl ⟨c.2.2.1.symm, c.2.2.2.1.symm⟩⟩
  ·right
   unfold SG.rho
   dsimp only
   have hs : (if p.1.stop = true then 1 else 0) ≤ (if m.2.stop = true then 1 else 0) ∧ (m.2.stop ≠ p.1.stop → (if p.1.stop = true then 1 else 0) < (if m.2.stop = true then 1 else 0)) := by
    cases q : p.1.stop with
    | true => rw [t2 q]; exact ⟨Nat.le_refl _, fun z => absurd rfl z⟩
    | false => cases m.2.stop <;> simp
   have hf : (if p.2.2 = true then 1 else 0) ≤ (if (p.2.2 || decide (m.1 ≠ n.1)) = true then 1 else 0) ∧ ((p.2.2 || decide (m.1 ≠ n.1)) ≠ p.2.2 → (if p.2.2 = true then 1 else 0) < (if (p.2.2 || decide (m.1 ≠ n.1)) = true then 1 else 0)) := by
    cases p.2.2 <;> cases decide (m.1 ≠ n.1) <;> simp
   have ht : p.1.told.length ≤ m.2.told.length ∧ (m.2.told ≠ p.1.told → p.1.told.length < m.2.told.length) := by
    rcases t1 with z | z
    ·rw [z]; exact ⟨Nat.le_refl _, fun q => absurd rfl q⟩
    ·exact ⟨by omega, fun _ => z⟩
   generalize (if p.1.stop = true then 1 else 0) = x1 at hs ⊢
   generalize (if m.2.stop = true then 1 else 0) = x2 at hs ⊢
   generalize (if p.2.2 = true then 1 else 0) = y1 at hf ⊢
   generalize (if (p.2.2 || decide (m.1 ≠ n.1)) = true then 1 else 0) = y2 at hf ⊢
   by_cases c1 : m.2.told = p.1.told
   ·by_cases c2 : m.2.stop = p.1.stop
    ·by_cases c3 : (p.2.2 || decide (m.1 ≠ n.1)) = p.2.2
     ·have : ¬ (m.2.num = p.1.num ∧ n.2.num = p.2.1.num) := fun z => c ⟨c1, c2, z.1, z.2, c3⟩
      omega
     ·have := hf.2 c3
      omega
    ·have := hs.2 c2
     omega
   ·have := ht.2 c1
    omega
 unfold zas
 by_cases c : (p.2.2 || decide (m.1 ≠ n.1)) = true ∧ sLt n.2 m.2 = true
 ·rw [if_pos c]
  have sw : SameL (m.2, n.2, (p.2.2 || decide (m.1 ≠ n.1))) (n.2, m.2, true) := ⟨e3.symm, e4.symm, c.1, .inr ⟨rfl, rfl⟩⟩
  exact key.trans (.inl sw)
 ·rw [if_neg c]; exact key
structure ChOk (tb : Tb) (p : Prs) (c : List Prs) : Prop where
 tw : ∀ q ∈ p :: c, Tw tb q
 pw : (p :: c).Pairwise fun y x => y ≠ x ∧ LeL x y
theorem ChOk.len {tb : Tb} (hst : ∀ s, StOk tb s → StS s) {p : Prs} {c : List Prs} (h : ChOk tb p c) : (p :: c).length ≤ 1 + (tb.ws.length + 1 + 2 * tb.ps.length + 1) * (tb.ws.length + 1) := by
 have hnd : ((p :: c).map fun q => (SG.rho q, q.1.wait)).Nodup := by
  refine List.pairwise_map.mpr (List.Pairwise.imp_of_mem (fun {a b} ma mb hab e => ?_) h.pw)
  have e1 : SG.rho a = SG.rho b := congrArg (fun x : Nat × Str => x.1) e
  have e2 : a.1.wait = b.1.wait := congrArg (fun x : Nat × Str => x.2) e
  rcases hab.2 with l | l
  ·exact hab.1 ((Tw.inj hst (h.tw b mb) (h.tw a ma) l e2.symm).symm)
  ·omega
 have hsub : ∀ x ∈ (p :: c).map fun q => (SG.rho q, q.1.wait), x ∈ ((0, ("" : Str)) :: (List.range (tb.ws.length + 1 + 2 * tb.ps.length + 1)).flatMap fun i => (("" : Str) :: wh tb.ws).map fun z => (i + 1, z)) := fun x m => by
  obtain ⟨q, hq, rfl⟩ := List.mem_map.mp m
  have hT := h.tw q hq
  have hw : q.1.wait = "" ∨ (q.1.wait ∈ wh tb.ws ∧ q.1.wait ∈ q.1.told) := by
   rcases hT.a.w with e | ⟨o, ho, e, _, mm⟩
   ·exact .inl e
   ·exact .inr ⟨List.mem_map.mpr ⟨o, ho, e⟩, mm⟩
  have hr : SG.rho q ≤ tb.ws.length + 1 + 2 * tb.ps.length + 1 := by
   unfold SG.rho
   have h1 : q.1.told.length ≤ tb.ws.length := by
    rw [hT.a.td]
    have := List.length_filter_le (fun n => inW n q.1.told) (wh tb.ws)
    have e : (wh tb.ws).length = tb.ws.length := List.length_map ..
    omega
   have h2 := hT.a.n1
   have h3 := hT.b.n1
   have h4 : (if q.1.stop = true then 1 else 0) ≤ 1 := by split <;> decide
   have h5 : (if q.2.2 = true then 1 else 0) ≤ 1 := by split <;> decide
   omega
  by_cases z : SG.rho q = 0
  ·have : q.1.told.length = 0 := by
    unfold SG.rho at z
    omega
   have hw2 : q.1.wait = "" := by
    rcases hw with e | ⟨_, mm⟩
    ·exact e
    ·rw [List.length_eq_zero_iff.mp this] at mm
     cases mm
   rw [z, hw2]
   exact List.mem_cons_self
  ·refine List.mem_cons_of_mem _ (List.mem_flatMap.mpr ⟨SG.rho q - 1, List.mem_range.mpr (by omega), List.mem_map.mpr ⟨q.1.wait, ?_, ?_⟩⟩)
   ·rcases hw with e | ⟨mm, _⟩
    ·rw [e]; exact List.mem_cons_self
    ·exact List.mem_cons_of_mem _ mm
   ·rw [show SG.rho q - 1 + 1 = SG.rho q by omega]
 have := SX.nodup_len hnd hsub
 rw [List.length_map] at this
 refine Nat.le_trans this ?_
 rw [List.length_cons]
 have hf := yq (f := fun i : Nat => (("" : Str) :: wh tb.ws).map fun z => (i + 1, z)) (k := tb.ws.length + 1) (fun i => by rw [List.length_map, List.length_cons]; unfold wh; rw [List.length_map]; exact Nat.le_refl _) (List.range (tb.ws.length + 1 + 2 * tb.ps.length + 1))
 rw [List.length_range] at hf
 omega
theorem ChOk.step {tb : Tb} (hst : ∀ s, StOk tb s → StS s) (hn : (wh tb.ws).Nodup) {p : Prs} {c : List Prs} (h : ChOk tb p c) {w : Str} {m n : Part × Sta} (hm : m ∈ zp tb p.1 w) (hn2 : n ∈ zp tb p.2.1 w) (hf : zas m.2 n.2 (p.2.2 || decide (m.1 ≠ n.1)) ∉ p :: c) : ChOk tb (zas m.2 n.2 (p.2.2 || decide (m.1 ≠ n.1))) (p :: c) := by
 have hT := h.tw p List.mem_cons_self
 have hl := hT.le hn hm hn2
 refine ⟨fun q m => ?_, List.pairwise_cons.mpr ⟨fun q mq => ⟨fun e => hf (by rw [e]; exact mq), ?_⟩, h.pw⟩⟩
 ·rcases List.mem_cons.mp m with rfl | m
  ·exact hT.put hst hm hn2
  ·exact h.tw q m
 ·rcases List.mem_cons.mp mq with rfl | mq
  ·exact hl
  ·exact ((List.pairwise_cons.mp h.pw).1 q mq).2.trans hl
def wt (φ : Sta → Nat) (p : Prs) : Nat := if p.2.2 = true then φ p.1 + φ p.2.1 else φ p.1
theorem cnt_snoc {tb : Tb} {φ : Sta → Nat} {w : Str} : ∀ (row : List Str) (s : Sta), cntP tb φ s (row ++ [w]) = cntP tb (fun t => ((zp tb t w).map fun m => φ m.2).sum) s row
 | [], s => rfl
 | v :: row, s => by
  show ((zp tb s v).map fun m => cntP tb φ m.2 (row ++ [w])).sum = ((zp tb s v).map fun m => cntP tb _ m.2 row).sum
  exact sum_congr fun m _ => cnt_snoc row m.2
def WtOk (tb : Tb) (row : List Str) (p : Prs) : Prop := ∀ φ : Sta → Nat, wt φ p ≤ cntP tb φ sta0 row
theorem WtOk.step {tb : Tb} {row : List Str} {p : Prs} (h : WtOk tb row p) (he : p.2.2 = false → p.1 = p.2.1) {w : Str} {m n : Part × Sta} (hm : m ∈ zp tb p.1 w) (hn : n ∈ zp tb p.2.1 w) : WtOk tb (row ++ [w]) (zas m.2 n.2 (p.2.2 || decide (m.1 ≠ n.1))) := fun φ => by
 rw [cnt_snoc]
 refine Nat.le_trans ?_ (h _)
 have hsw : wt φ (zas m.2 n.2 (p.2.2 || decide (m.1 ≠ n.1))) = wt φ (m.2, n.2, (p.2.2 || decide (m.1 ≠ n.1))) := by
  unfold zas
  split
  ·rename_i c
   unfold wt
   dsimp only
   rw [if_pos rfl, if_pos c.1]; omega
  ·rfl
 rw [hsw]
 unfold wt
 dsimp only
 have h1 := ka6 (g := fun x : Part × Sta => φ x.2) hm
 have h2 := ka6 (g := fun x : Part × Sta => φ x.2) hn
 cases hf : p.2.2 with
 | true =>
  rw [Bool.true_or, if_pos rfl, if_pos rfl]
  omega
 | false =>
  rw [Bool.false_or, if_neg (show ¬ false = true by decide)]
  by_cases c : m.1 = n.1
  ·rw [decide_eq_false (fun z => z c), if_neg (show ¬ false = true by decide)]
   exact h1
  ·rw [decide_eq_true c, if_pos rfl]
   rw [← he hf] at hn
   exact sum_two (g := fun x : Part × Sta => φ x.2) hm hn fun e => c (by rw [e])
end SG
namespace SG
open PySem L2 PL LW
variable {α : Type} [DecidableEq α] {f : α → D} {k : α → NestedKey} {P : α → Prop}
theorem KeyW.pairs (h : KeyW f k P) {v : D} : ∀ {as : List α}, (∀ a ∈ as, P a) → pairsN (as.map fun a => D.tup [f a, v]) = some (as.map fun a => (f a, k a, v))
 | [], _ => rfl
 | a :: as, hp => by
  rw [List.map_cons, List.map_cons]
  unfold pairsN
  rw [KeyW.pairs h fun b m => hp b (List.mem_cons_of_mem _ m)]
  unfold pairN
  dsimp only
  rw [h.ok a (hp a List.mem_cons_self)]
  rfl
theorem KeyW.puts (h : KeyW f k P) {v : D} : ∀ {as acc : List α}, (∀ a ∈ as, P a) → (∀ a ∈ acc, P a) → putsN (acc.map fun a => (f a, v)) (as.map fun a => (f a, k a, v)) = (as.foldl addA acc).map fun a => (f a, v)
 | [], acc, _, _ => rfl
 | a :: as, acc, hp, hq => by
  have ha := hp a List.mem_cons_self
  show putsN (nSet (acc.map fun a => (f a, v)) (f a) (k a) v) (as.map fun a => (f a, k a, v)) = _
  rw [h.set_add hq ha, KeyW.puts h (fun b m => hp b (List.mem_cons_of_mem _ m)) fun b m => ?_]
  ·rfl
  ·unfold addA at m
   split at m
   ·exact hq b m
   ·rcases List.mem_append.mp m with m | m
    ·exact hq b m
    ·rw [List.mem_singleton.mp m]; exact ha
theorem KeyW.dict (h : KeyW f k P) {v : D} {Pr : Program} {w : World} {as : List α} (hp : ∀ a ∈ as, P a) : dictPD Pr w (.lst (as.map fun a => D.tup [f a, v])) = some (.new (.dn Pr w ((as.foldl addA []).map fun a => (f a, v)))) := by
 have hq := h.pairs (v := v) hp
 unfold dictPD
 dsimp only
 rw [hq]
 dsimp only
 have := h.puts (v := v) (acc := []) hp fun a m => nomatch m
 rw [List.map_nil] at this
 rw [this]
end SG
namespace SG
open PySem L2 PL LW
theorem leA_refl (a : Str) : leA a a = true := leA_iff.mpr (.inr ⟨rfl, leS_iff.mpr (List.lt_irrefl _)⟩)
def preS (w : Str) (n : Nat) : Str := ⟨(w.cps.toList.take n).toArray⟩
end SG
namespace SG
open PySem L2 PL LW
end SG
namespace SG
open PySem L2 PL LW
def reV : Option Str → Part → Part
 | some v, .wish i _ => .wish i v
 | _, p => p
theorem reV_none (p : Part) : reV none p = p := by cases p <;> rfl
theorem map_none (l : List (Part × Sta)) : (l.map fun m => (reV none m.1, m.2)) = l := by
 have : (fun m : Part × Sta => (reV none m.1, m.2)) = id := funext fun m => by rw [reV_none]; rfl
 rw [this, List.map_id]
end SG
namespace SG
open PySem L2 PL LW
theorem qai {a b : Str} : vp a b = true ↔ leA b a = false := by unfold leA; simp
theorem za2 (a : Str) : vp a a = false := by
 have := leA_refl a
 unfold leA at this
 simpa using this
theorem aheadS_le {a b : Str} (h : vp a b = true) : leA a b = true := by
 have := leA_total a b
 rw [qai] at h
 rw [h, Bool.or_false] at this
 exact this
theorem zbk {a b c : Str} (h1 : vp a b = true) (h2 : vp b c = true) : vp a c = true := by
 rw [qai, Bool.eq_false_iff]
 intro z
 have := leA_trans _ _ _ z (aheadS_le h1)
 rw [qai] at h2
 rw [h2] at this; cases this
def rowLt : List Str → List Str → Bool
 | a :: as, b :: bs => if a = b then rowLt as bs else vp a b
 | [], _ :: _ => true
 | _, [] => false
def je (r s : List Str) : Bool := if r.length = s.length then rowLt r s else decide (r.length < s.length)
theorem rl_irr : ∀ r : List Str, rowLt r r = false
 | [] => rfl
 | a :: r => by unfold rowLt; rw [if_pos rfl]; exact rl_irr r
theorem rl_trans : ∀ {r s t : List Str}, rowLt r s = true → rowLt s t = true → rowLt r t = true
 | [], [], _, h, _ => by cases h
 | [], _ :: _, [], _, h => by cases h
 | [], _ :: _, _ :: _, _, _ => rfl
 | _ :: _, [], _, h, _ => by cases h
 | _ :: _, _ :: _, [], _, h => by cases h
 | a :: r, b :: s, c :: t, h1, h2 => by
  unfold rowLt at h1 h2 ⊢
  by_cases e1 : a = b
  ·subst e1
   rw [if_pos rfl] at h1
   by_cases e2 : a = c
   ·subst e2
    rw [if_pos rfl] at h2 ⊢
    exact rl_trans h1 h2
   ·rw [if_neg e2] at h2 ⊢; exact h2
  ·rw [if_neg e1] at h1
   by_cases e2 : b = c
   ·subst e2
    rw [if_neg e1]; exact h1
   ·rw [if_neg e2] at h2
    have h3 := zbk h1 h2
    rw [if_neg (fun z => by rw [z, za2] at h3; cases h3)]
    exact h3
theorem ra_irr (r : List Str) : je r r = false := by unfold je; rw [if_pos rfl]; exact rl_irr r
theorem ra_iff {r s : List Str} : je r s = true ↔ r.length < s.length ∨ (r.length = s.length ∧ rowLt r s = true) := by
 unfold je
 split
 ·rename_i e
  exact ⟨fun h => .inr ⟨e, h⟩, fun h => h.elim (fun z => by omega) (·.2)⟩
 ·rename_i e
  rw [decide_eq_true_iff]
  exact ⟨.inl, fun h => h.elim id fun z => absurd z.1 e⟩
theorem ra_trans {r s t : List Str} (h1 : je r s = true) (h2 : je s t = true) : je r t = true := by
 rw [ra_iff] at h1 h2 ⊢
 rcases h1 with h1 | ⟨h1, h3⟩
 ·rcases h2 with h2 | ⟨h2, _⟩ <;> exact .inl (by omega)
 ·rcases h2 with h2 | ⟨h2, h4⟩
  ·exact .inl (by omega)
  ·exact .inr ⟨by omega, rl_trans h3 h4⟩
theorem rl_app : ∀ {r s : List Str} (x y : List Str), r.length = s.length → rowLt r s = true → rowLt (r ++ x) (s ++ y) = true
 | [], [], _, _, _, h => by cases h
 | [], _ :: _, _, _, e, _ => by cases e
 | _ :: _, [], _, _, e, _ => by cases e
 | a :: r, b :: s, x, y, e, h => by
  rw [List.cons_append, List.cons_append]
  unfold rowLt at h ⊢
  split
  ·rename_i q
   rw [if_pos q] at h
   exact rl_app x y (by simpa using e) h
  ·rename_i q
   rw [if_neg q] at h; exact h
theorem ra_app {r s : List Str} (x y : Str) (h : je r s = true) : je (r ++ [x]) (s ++ [y]) = true := by
 rw [ra_iff] at h ⊢
 rw [List.length_append, List.length_append, List.length_singleton, List.length_singleton]
 rcases h with h | ⟨h1, h2⟩
 ·exact .inl (by omega)
 ·exact .inr ⟨by omega, rl_app _ _ h1 h2⟩
theorem rl_last {x y : Str} (h : vp x y = true) : ∀ r : List Str, rowLt (r ++ [x]) (r ++ [y]) = true
 | [] => by
  show (if x = y then rowLt [] [] else vp x y) = true
  rw [if_neg (fun z => by rw [z, za2] at h; cases h)]
  exact h
 | a :: r => by
  rw [List.cons_append, List.cons_append]
  unfold rowLt
  rw [if_pos rfl]
  exact rl_last h r
theorem ra_last {x y : Str} (h : vp x y = true) (r : List Str) : je (r ++ [x]) (r ++ [y]) = true := by
 rw [ra_iff]
 exact .inr ⟨by rw [List.length_append, List.length_append]; rfl, rl_last h r⟩
theorem ra_nil {r : List Str} (h : r ≠ []) : je [] r = true := by
 rw [ra_iff]
 exact .inl (by cases r with
  | nil => exact absurd rfl h
  | cons a r => exact Nat.succ_pos _)
section
variable {μ : Type} [DecidableEq μ]
def gPut (succ : List μ → Str → List μ) (row : List Str) (ms : List μ) (q : List (List Str × List μ) × List μ) (w : Str) : List (List Str × List μ) × List μ :=
 if ((succ ms w).filter fun p => !decide (p ∈ q.2)) = [] then q else (q.1 ++ [(row ++ [w], (succ ms w).filter fun p => !decide (p ∈ q.2))], q.2 ++ (succ ms w).filter fun p => !decide (p ∈ q.2))
def Dn (a : Nat) (dn : List Str) (i : Nat) (w : Str) : Prop := i < a ∨ (i = a ∧ w ∈ dn)
structure GI (succ : List μ → Str → List μ) (P : μ → Prop) (ms0 : List μ) (ws : List Str) (a : Nat) (dn : List Str) (q : List (List Str × List μ) × List μ) : Prop where
 first : ∃ t, q.1 = ([], ms0) :: t
 seen : ∀ p ∈ q.2, ∃ x ∈ q.1, p ∈ x.2
 nd : q.2.Nodup
 pr : ∀ p ∈ q.2, P p
 pr1 : ∀ x ∈ q.1, ∀ p ∈ x.2, P p
 len : q.1.length ≤ q.2.length + 1
 inc : q.1.Pairwise fun x y => je x.1 y.1 = true
 over : ∀ x ∈ q.1, ∀ w ∈ x.1, w ∈ ws
 rch : ∀ x ∈ q.1, ∀ p ∈ x.2, p ∈ x.1.foldl succ ms0
 clo : ∀ i x w, Dn a dn i w → w ∈ ws → q.1[i]? = some x → ∀ p ∈ succ x.2 w, ∃ y ∈ q.1, p ∈ y.2 ∧ je (x.1 ++ [w]) y.1 = false
 par : ∀ y ∈ q.1, y.1 = [] ∨ ∃ i x w, Dn a dn i w ∧ q.1[i]? = some x ∧ y.1 = x.1 ++ [w]
variable {succ : List μ → Str → List μ} {P : μ → Prop} {ms0 : List μ} {ws : List Str} {e : μ → Bool}
theorem vai {α : Type} {l : List α} {t : List α} {i : Nat} {x : α} (h : l[i]? = some x) : (l ++ t)[i]? = some x := by
 rw [List.getElem?_append_left (List.getElem?_eq_some_iff.mp h).1]; exact h
theorem inc_of {q : List (List Str × List μ)} (h : q.Pairwise fun x y => je x.1 y.1 = true) {i j : Nat} {x y : List Str × List μ} (hx : q[i]? = some x) (hy : q[j]? = some y) (hl : i < j) : je x.1 y.1 = true := by
 obtain ⟨h1, e1⟩ := List.getElem?_eq_some_iff.mp hx
 obtain ⟨h2, e2⟩ := List.getElem?_eq_some_iff.mp hy
 have := List.pairwise_iff_getElem.mp h i j h1 h2 hl
 rw [e1, e2] at this
 exact this
theorem GI.put (hd : ∀ ms w, (succ ms w).Nodup) (hP : ∀ ms w, (∀ p ∈ ms, P p) → ∀ p ∈ succ ms w, P p) (hS : ∀ ms w p, p ∈ succ ms w ↔ ∃ m ∈ ms, p ∈ succ [m] w) {a : Nat} {dn : List Str} {q : List (List Str × List μ) × List μ} (h : GI succ P ms0 ws a dn q) {row : List Str} {ms : List μ} (hx : q.1[a]? = some (row, ms)) {w : Str} (hw : w ∈ ws) (hdn : ∀ d ∈ dn, vp d w = true) :
  GI succ P ms0 ws a (dn ++ [w]) (gPut succ row ms q w) := by
 have ahead : ∀ y ∈ q.1, je y.1 (row ++ [w]) = true := fun y m => by
  rcases h.par y m with z | ⟨i, x, v, d, hi, z⟩
  ·rw [z]; exact ra_nil (by simp)
  ·rw [z]
   rcases d with d | ⟨rfl, d⟩
   ·exact ra_app _ _ (inc_of h.inc hi hx d)
   ·rw [hx] at hi
    cases hi
    exact ra_last (hdn v d) row
 have mono : ∀ i v, Dn a dn i v → Dn a (dn ++ [w]) i v := fun i v d => d.elim .inl fun z => .inr ⟨z.1, List.mem_append_left _ z.2⟩
 have hmx : (row, ms) ∈ q.1 := List.mem_of_getElem? hx
 unfold gPut
 split
 ·rename_i hn
  refine ⟨h.first, h.seen, h.nd, h.pr, h.pr1, h.len, h.inc, h.over, h.rch, fun i x v d hv hi p hp => ?_, fun y m => ?_⟩
  ·by_cases d0 : Dn a dn i v
   ·exact h.clo i x v d0 hv hi p hp
   ·obtain ⟨rfl, hv2⟩ : i = a ∧ v = w := by
     rcases d with d | ⟨d1, d2⟩
     ·exact absurd (.inl d) d0
     ·rcases List.mem_append.mp d2 with d2 | d2
      ·exact absurd (.inr ⟨d1, d2⟩) d0
      ·exact ⟨d1, List.mem_singleton.mp d2⟩
    subst hv2
    rw [hx] at hi
    cases hi
    have hs : p ∈ q.2 := by
     refine Classical.byContradiction fun z => ?_
     have : p ∈ (succ ms v).filter fun p => !decide (p ∈ q.2) := List.mem_filter.mpr ⟨hp, by simp [z]⟩
     rw [hn] at this; cases this
    obtain ⟨y, hy, hpy⟩ := h.seen p hs
    refine ⟨y, hy, hpy, ?_⟩
    rw [Bool.eq_false_iff]
    intro z
    have := ra_trans (ahead y hy) z
    rw [ra_irr] at this; cases this
  ·rcases h.par y m with z | ⟨i, x, v, d, hi, z⟩
   ·exact .inl z
   ·exact .inr ⟨i, x, v, mono i v d, hi, z⟩
 ·rename_i hn
  have hfr : ∀ p, p ∈ ((succ ms w).filter fun p => !decide (p ∈ q.2)) ↔ p ∈ succ ms w ∧ p ∉ q.2 := fun p => by
   rw [List.mem_filter]; simp
  have hfd : ((succ ms w).filter fun p => !decide (p ∈ q.2)).Nodup := (hd ms w).filter _
  generalize ((succ ms w).filter fun p => !decide (p ∈ q.2)) = fr at hn hfr hfd ⊢
  have hfl : 1 ≤ fr.length := by
   cases fr with
   | nil => exact absurd rfl hn
   | cons a r => exact Nat.succ_pos _
  refine ⟨?_, fun p m => ?_, ?_, fun p m => ?_, fun x m => ?_, ?_, ?_, fun x m => ?_, fun x m => ?_, fun i x v d hv hi p hp => ?_, fun y m => ?_⟩
  ·obtain ⟨t, ht⟩ := h.first
   exact ⟨t ++ [(row ++ [w], fr)], by rw [ht]; rfl⟩
  ·rcases List.mem_append.mp m with m | m
   ·obtain ⟨x, hx, hp⟩ := h.seen p m
    exact ⟨x, List.mem_append_left _ hx, hp⟩
   ·exact ⟨_, List.mem_append_right _ (List.mem_singleton.mpr rfl), m⟩
  ·rw [List.nodup_append]
   refine ⟨h.nd, hfd, fun x hx y hy z => ?_⟩
   subst z
   exact ((hfr x).mp hy).2 hx
  ·rcases List.mem_append.mp m with m | m
   ·exact h.pr p m
   ·exact hP ms w (h.pr1 _ hmx) p ((hfr p).mp m).1
  ·rcases List.mem_append.mp m with m | m
   ·exact h.pr1 x m
   ·rw [List.mem_singleton.mp m]
    exact fun p hp => hP ms w (h.pr1 _ hmx) p ((hfr p).mp hp).1
  ·have := h.len
   rw [List.length_append, List.length_append, List.length_singleton]
   omega
  ·rw [List.pairwise_append]
   refine ⟨h.inc, List.pairwise_singleton _ _, fun x hx y hy => ?_⟩
   rw [List.mem_singleton.mp hy]
   exact ahead x hx
  ·rcases List.mem_append.mp m with m | m
   ·exact h.over x m
   ·rw [List.mem_singleton.mp m]
    intro v hv
    rcases List.mem_append.mp hv with hv | hv
    ·exact h.over _ hmx v hv
    ·rw [List.mem_singleton.mp hv]; exact hw
  ·rcases List.mem_append.mp m with m | m
   ·exact h.rch x m
   ·rw [List.mem_singleton.mp m]
    intro p hp
    show p ∈ (row ++ [w]).foldl succ ms0
    rw [List.foldl_append, List.foldl_cons, List.foldl_nil, hS]
    obtain ⟨m0, hm0, hp0⟩ := (hS ms w p).mp ((hfr p).mp hp).1
    exact ⟨m0, h.rch _ hmx m0 hm0, hp0⟩
  ·have ha : a < q.1.length := (List.getElem?_eq_some_iff.mp hx).1
   have hil : i < q.1.length := by
    rcases d with d | ⟨rfl, _⟩
    ·omega
    ·exact ha
   rw [List.getElem?_append_left hil] at hi
   by_cases d0 : Dn a dn i v
   ·obtain ⟨y, hy, h1, h2⟩ := h.clo i x v d0 hv hi p hp
    exact ⟨y, List.mem_append_left _ hy, h1, h2⟩
   ·obtain ⟨rfl, hv2⟩ : i = a ∧ v = w := by
     rcases d with d | ⟨d1, d2⟩
     ·exact absurd (.inl d) d0
     ·rcases List.mem_append.mp d2 with d2 | d2
      ·exact absurd (.inr ⟨d1, d2⟩) d0
      ·exact ⟨d1, List.mem_singleton.mp d2⟩
    subst hv2
    rw [hx] at hi
    cases hi
    by_cases hs : p ∈ q.2
    ·obtain ⟨y, hy, hpy⟩ := h.seen p hs
     refine ⟨y, List.mem_append_left _ hy, hpy, ?_⟩
     rw [Bool.eq_false_iff]
     intro z
     have := ra_trans (ahead y hy) z
     rw [ra_irr] at this; cases this
    ·exact ⟨_, List.mem_append_right _ (List.mem_singleton.mpr rfl), (hfr p).mpr ⟨hp, hs⟩, ra_irr _⟩
  ·rcases List.mem_append.mp m with m | m
   ·rcases h.par y m with z | ⟨i, x, v, d, hi, z⟩
    ·exact .inl z
    ·exact .inr ⟨i, x, v, mono i v d, vai hi, z⟩
   ·rw [List.mem_singleton.mp m]
    exact .inr ⟨a, (row, ms), w, .inr ⟨rfl, List.mem_append_right _ (List.mem_singleton.mpr rfl)⟩, vai hx, rfl⟩
theorem GI.step {a : Nat} {q : List (List Str × List μ) × List μ} (h : GI succ P ms0 ws a ws q) : GI succ P ms0 ws (a + 1) [] q :=
 ⟨h.first, h.seen, h.nd, h.pr, h.pr1, h.len, h.inc, h.over, h.rch, fun i x w d hw => h.clo i x w (by
  rcases d with d | ⟨_, d⟩
  ·rcases Nat.lt_or_eq_of_le (Nat.le_of_lt_succ d) with z | z
   ·exact .inl z
   ·exact .inr ⟨z, hw⟩
  ·cases d) hw, fun y m => by
  rcases h.par y m with z | ⟨i, x, w, d, hi, z⟩
  ·exact .inl z
  ·exact .inr ⟨i, x, w, .inl (by rcases d with d | ⟨d, _⟩ <;> omega), hi, z⟩⟩
end
end SG
namespace SG
open PySem L2 PL LW
end SG
namespace SG
open PySem L2 PL LW
end SG
namespace PL
open PySem L2 PySem.Spec PyProof.Rows
end PL
namespace SG
open PySem L2 PL LW
def OnTo (tb : Tb) (s : Sta) (n : Nat) : Prop := ∃ r : List Str, r.length ≤ n ∧ (∀ w ∈ r, goodW w = true) ∧ EndF tb s r
theorem OnTo.le {tb : Tb} {s : Sta} {n k : Nat} (h : OnTo tb s n) (hk : n ≤ k) : OnTo tb s k := by
 obtain ⟨r, h1, h2⟩ := h
 exact ⟨r, Nat.le_trans h1 hk, h2⟩
end SG
namespace SG
open PySem L2 PL LW
end SG
namespace SG
open PySem L2 PL LW
end SG
namespace SG
open PySem L2 PL LW
abbrev Mv := Sta → Str → List (Part × Sta)
noncomputable def pairL (mv : Mv) (w : Str) (ms : List Prs) : List Prs := ms.flatMap fun p => (mv p.1 w).flatMap fun m => (mv p.2.1 w).map fun n => (m.2, n.2, p.2.2 || decide (m.1 ≠ n.1))
def Swp (p q : Prs) : Prop := q = p ∨ (p.2.2 = true ∧ q = (p.2.1, p.1, true))
theorem Swp.put (a b : Sta) (f : Bool) : Swp (a, b, f) (zas a b f) := by
 unfold zas
 split
 ·rename_i c
  exact .inr ⟨c.1, rfl⟩
 ·exact .inl rfl
theorem Swp.symm {p q : Prs} (h : Swp p q) : Swp q p := by
 obtain ⟨a, b, f⟩ := p
 rcases h with rfl | ⟨h1, rfl⟩
 ·exact .inl rfl
 ·dsimp only at h1
  subst h1
  exact .inr ⟨rfl, rfl⟩
theorem Swp.trans {p q r : Prs} (h : Swp p q) (k : Swp q r) : Swp p r := by
 obtain ⟨a, b, f⟩ := p
 rcases h with rfl | ⟨h1, rfl⟩
 ·exact k
 ·dsimp only at h1
  subst h1
  rcases k with rfl | ⟨_, rfl⟩
  ·exact .inr ⟨rfl, rfl⟩
  ·exact .inl rfl
end SG
namespace SG
open PySem L2 PL LW
end SG
namespace SG
open PySem L2 PL LW
end SG
namespace PL
open PySem PySem.Spec PyProof.Rows L2
end PL
namespace PL
open PySem PySem.Spec PyProof.Rows L2
end PL
namespace PL
open PySem PySem.Spec PyProof.Rows L2
end PL
namespace PL
open PySem PySem.Spec PyProof.Rows L2
end PL
namespace SG
open PySem L2 PL LW
end SG
namespace PL
open PySem L2 PySem.Spec PyProof.Rows
abbrev TL3 := List (List (List Str))
def twD (w : List Str) : D := .lst (w.map fun z => .s (.str z))
def tgD (ts : List (List Str)) : D := .lst (ts.map twD)
def tsD (tss : TL3) : D := .lst (tss.map tgD)
def TxL (H : Hp) (Z : Addr → Prop) (a : Addr) (ws : List Str) : Prop := H a = some (.lst (ws.map V.str)) ∧ Z a
def TgL (H : Hp) (Z : Addr → Prop) (a : Addr) (ts : List (List Str)) : Prop := ∃ bs : List Addr, H a = some (.lst (bs.map V.ref)) ∧ Z a ∧ EIs (TxL H Z) bs ts
structure NL (H : Hp) (Z : Addr → Prop) (p : Addr) (as : List Addr) (tss : TL3) : Prop where
 top : H p = some (.lst (as.map V.ref))
 old : Z p
 nd : as.Nodup
 mid : EIs (TgL H Z) as tss
open Classical in
noncomputable def coreL (S : Addr → Prop) (H : Hp) : Hp := fun b => if S b then none else match H b with
 | some (.lst xs) => some (.lst xs)
 | _ => none
section
variable {K : PySem.W.Frag} {S Z : Addr → Prop} {H H' : Hp}
theorem wbc {a : Addr} {xs : List V} (h : H a = some (.lst xs)) (n : ¬ S a) : coreL S H a = some (.lst xs) := by unfold coreL; rw [if_neg n, h]
theorem is_tw {C : Hp} {a : Addr} {ws : List Str} (h : C a = some (.lst (ws.map V.str))) : Is K C (twD ws) (.ref a) := by
 refine is_lst_iff.mpr ⟨a, _, rfl, h, ?_⟩
 clear h
 induction ws with
 | nil => exact kc
 | cons w ws ih => exact yb is_s ih
theorem is_tg {C : Hp} {a : Addr} {ts : List (List Str)} {bs : List Addr} (h : C a = some (.lst (bs.map V.ref))) (hb : EIs (fun b w => C b = some (.lst (w.map V.str))) bs ts) : Is K C (tgD ts) (.ref a) := by
 refine is_lst_iff.mpr ⟨a, _, rfl, h, ?_⟩
 clear h
 induction hb with
 | nil => exact kc
 | cons h _ ih => exact yb (is_tw h) ih
theorem NL.is {p : Addr} {as : List Addr} {tss : TL3} (n : NL H Z p as tss) (hS : ∀ a, Z a → ¬ S a) : Is K (coreL S H) (tsD tss) (.ref p) := by
 refine is_lst_iff.mpr ⟨p, _, rfl, wbc n.top (hS p n.old), ?_⟩
 have := n.mid
 clear n
 induction this with
 | nil => exact kc
 | cons h _ ih =>
  obtain ⟨bs, h1, h2, h3⟩ := h
  exact yb (is_tg (wbc h1 (hS _ h2)) (h3.mono fun b w z => wbc z.1 (hS b z.2))) ih
theorem NL.stay {p : Addr} {as : List Addr} {tss : TL3} (n : NL H Z p as tss) (k : ∀ a xs, Z a → H a = some (.lst xs) → H' a = some (.lst xs)) : NL H' Z p as tss :=
 ⟨k _ _ n.old n.top, n.old, n.nd, n.mid.mono fun a ts ⟨bs, h1, h2, h3⟩ => ⟨bs, k _ _ h2 h1, h2, h3.mono fun b w z => ⟨k _ _ z.2 z.1, z.2⟩⟩⟩
end
def rho (n : Nat) (f : Nat → Cell) : En := (List.range n).map f
end PL
namespace PL
open PySem L2 PySem.Spec PyProof.Rows
def lstD1 : List D → Option (List Str)
 | [] => some []
 | .s (.str z) :: ds => match lstD1 ds with
  | some zs => some (z :: zs)
  | none => none
 | _ => none
def cellW : Option Cell → Option (List Str)
 | some (.dat (.lst ds)) => lstD1 ds
 | _ => none
def cellR : Option Cell → Option (List Str)
 | some (.own (.lst ds)) => lstD1 ds
 | _ => none
def cellS : Option Cell → Option Str
 | some (.dat (.s (.str w))) => some w
 | _ => none
def cellI : Option Cell → Option Int
 | some (.dat (.s (.int w))) => some w
 | _ => none
def cellB : Option Cell → Option Bool
 | some (.dat (.s (.bl w))) => some w
 | _ => none
def outB : Option (Out Bool) → Option Bool
 | some (.ok b _) => some b
 | _ => none
def outN : Option (Out Fl) → Option En
 | some (.ok .next r) => some r
 | _ => none
def fT (tss : TL3) (ws : List Str) : Nat → Cell
 | 0 => .dat (tsD tss)
 | 1 => .dat (twD ws)
 | _ => .no
def fG (tss : TL3) (ws : List Str) (stp : Bool) : Nat → Cell
 | 0 => .dat (tsD tss)
 | 1 => .dat (twD ws)
 | 3 => .dat (.s (.bl stp))
 | _ => .no
def fK (k : Int) : Nat → Cell
 | 6 => .dat (.s (.int k))
 | _ => .no
def fH (ws rs : List Str) (w : Str) : Nat → Cell
 | 1 => .dat (twD ws)
 | 2 => .own (.lst (rs.map fun z => .s (.str z)))
 | 5 => .dat (.s (.str w))
 | _ => .no
def fJ (rs : List Str) : Nat → Cell
 | 2 => .own (.lst (rs.map fun z => .s (.str z)))
 | _ => .no
def frR (n : Nat) (fc : PL.P Bool) (g : PL.P Fl) (t1 t2 : PL.P Bool) (h1 h2 : PL.P Fl) : Nat → TL3 → List Str → List Str → Bool → Option (List Str)
 | 0, _, _, _, _ => none
 | m + 1, tss, ws, rs, stp => match outB (fc (rho n (fT tss ws))) with
  | none => none
  | some false => some rs
  | some true => match outN (g (rho n (fG tss ws stp))) with
   | none => none
   | some r => match cellS r[5]?, cellI r[6]? with
    | some w, some k => match outB (t1 (rho n (fK k))), outB (t2 (rho n (fK k))) with
     | some true, _ => if 0 ≤ k then (match tss[k.toNat]? with
      | some (t :: ts) => if rs.length + t.length ≤ sizeLine then frR n fc g t1 t2 h1 h2 m (tss.set k.toNat ts) ws (rs ++ t) stp else none
      | _ => none) else none
     | some false, some true => (match outN (h1 (rho n (fH ws rs w))) with
      | none => none
      | some r => match cellW r[1]?, cellR r[2]? with
       | some ws', some rs' => frR n fc g t1 t2 h1 h2 m tss ws' rs' stp
       | _, _ => none)
     | some false, some false => (match outN (h2 (rho n (fJ rs))) with
      | none => none
      | some r => match cellR r[2]?, cellB r[3]? with
       | some rs', some b => frR n fc g t1 t2 h1 h2 m tss ws rs' b
       | _, _ => none)
     | _, _ => none
    | _, _ => none
structure FS (K : PySem.W.Frag) (n : Nat) (H0 : Hp) (p : Addr) (as : List Addr) (H : Hp) (σ : Sl) (q aw : Addr) (tss : TL3) (ws rs : List Str) (stp : Bool) : Prop where
 len : σ.length = n
 nl : NL H (fun b => H0 b ≠ none) p as tss
 s0 : σ[0]? = some (some (.ref p))
 s1 : σ[1]? = some (some (.ref aw))
 s2 : σ[2]? = some (some (.ref q))
 s3 : σ[3]? = some (some (.bl stp))
 w : H aw = some (.lst (ws.map V.str))
 r : H q = some (.lst (rs.map V.str))
 qn : H0 q = none
 qw : aw ≠ q
 keep : ∀ b o, H0 b = some o → NT o → b ∉ as → H b = some o
 dom : ∀ b, H b = none → H0 b = none
 tab : ∀ P, TabP K P → TS1 H P
 tabs : ∀ P, TS1 H0 P → TS1 H P
structure Kpt (q : Addr) (H H' : Hp) : Prop where
 keep : ∀ b o, H b = some o → NT o → b ≠ q → H' b = some o
 dom : ∀ b, H' b = none → H b = none
 tabs : ∀ P, TS1 H P → TS1 H' P
section
variable {K : PySem.W.Frag} {W : WX} {n : Nat} {H0 H H' : Hp} {p q aw : Addr} {as : List Addr} {σ σ' : Sl} {tss : TL3} {ws rs : List Str} {stp : Bool}
theorem Kpt.of {C C' : Hp} {A : Addr → Prop} (s : Step C H C' H' A) (hA : ∀ b, A b → b = q) : Kpt q H H' := ⟨fun b o e nt ne => s.keep b o e nt fun z => ne (hA b z), s.dom, s.tabs⟩
theorem FS.notq (f : FS K n H0 p as H σ q aw tss ws rs stp) {b : Addr} (h : H0 b ≠ none) : b ≠ q := fun e => h (by rw [e]; exact f.qn)
theorem FS.move (f : FS K n H0 p as H σ q aw tss ws rs stp) (k : Kpt q H H') (hl : σ'.length = n) (h0 : σ'[0]? = σ[0]?) {aw' : Addr} {ws' rs' : List Str} {stp' : Bool} (h1 : σ'[1]? = some (some (.ref aw'))) (h2 : σ'[2]? = σ[2]?) (h3 : σ'[3]? = some (some (.bl stp'))) (hw : H' aw' = some (.lst (ws'.map V.str))) (hr : H' q = some (.lst (rs'.map V.str))) (hq : aw' ≠ q) :
  FS K n H0 p as H' σ' q aw' tss ws' rs' stp' :=
 ⟨hl, f.nl.stay fun a xs z e => k.keep a _ e zk (f.notq z), h0.trans f.s0, h1, h2.trans f.s2, h3, hw, hr, f.qn, hq, fun b o e nt nb => k.keep b o (f.keep b o e nt nb) nt (f.notq (by rw [e]; exact fun z => nomatch z)), fun b e => f.dom b (k.dom b e), fun P h => k.tabs P (f.tab P h), fun P h => k.tabs P (f.tabs P h)⟩
theorem FS.same (f : FS K n H0 p as H σ q aw tss ws rs stp) (k : Kpt q H H') (hr : H' q = some (.lst (rs.map V.str))) : FS K n H0 p as H' σ q aw tss ws rs stp :=
 f.move k f.len rfl f.s1 rfl f.s3 (k.keep aw _ f.w zk f.qw) hr f.qw
variable {fc t1 t2 : PL.P Bool} {g h1 h2 : PL.P Fl} {tc tt1 tt2 : TT} {tg th1 th2 : TS}
end
end PL
namespace PL
open PySem L2 PySem.Spec PyProof.Rows
end PL
namespace PL
open PySem L2 PySem.Spec PyProof.Rows
def retT : Option (Out Fl) → Option (List Str)
 | some (.ok (.ret (.dat (.tup ds))) _) => lstD1 ds
 | _ => none
structure FRp where
 n : Nat
 gA : PL.P Fl
 fc : PL.P Bool
 g : PL.P Fl
 t1 : PL.P Bool
 t2 : PL.P Bool
 h1 : PL.P Fl
 h2 : PL.P Fl
 fr : PL.P Fl
 fuel : Nat
def FRp.run (F : FRp) (tss : TL3) (ws : List Str) : Option (List Str) := match outN (F.gA (rho F.n (fT tss ws))) with
 | none => none
 | some r => match cellR r[2]?, cellB r[3]? with
  | some rs, some b => match frR F.n F.fc F.g F.t1 F.t2 F.h1 F.h2 F.fuel tss ws rs b with
   | none => none
   | some rr => retT (F.fr (rho F.n (fJ rr)))
  | _, _ => none
end PL
namespace PL
open PySem L2 PySem.Spec PyProof.Rows
end PL
namespace PL
open PySem L2 PySem.Spec PyProof.Rows
def noOwn (ρ : En) : Bool := ρ.all fun c => match c with
 | .own _ => false
 | _ => true
def isNo (ρ : En) (i : Nat) : Bool := match ρ[i]? with
 | some .no => true
 | _ => false
def toR (a : Tgt) (fe : P Rv) : List D → En → Option (List D)
 | [], _ => some []
 | d :: ds, ρ => match a d ρ with
  | none => none
  | some ρ1 => if noOwn ρ1 && isNo ρ1 3 then (match fe ρ1 with
   | some (.ok (.new (.lst es)) ρ2) => match toR a fe ds ρ2 with
    | some r => some (.lst es :: r)
    | none => none
   | _ => none) else none
structure TOp where
 n : Nat
 g1 : PL.P Fl
 fi : PL.P (List D)
 a : Tgt
 fe : PL.P Rv
def TOp.run (T : TOp) (cs : List Cell) : Option (List D) := if noOwn cs then (match T.g1 (cs ++ List.replicate (T.n - cs.length) .no) with
 | some (.ok .next ρ1) => if noOwn ρ1 && isNo ρ1 3 then (match T.fi ρ1 with
  | some (.ok ds ρ2) => if noOwn ρ2 && decide (ds.length ≤ sizeLine) then toR T.a T.fe ds ρ2 else none
  | _ => none) else none
 | _ => none) else none
def TOp.fn (T : TOp) : PL.P Rv := fun cs => match T.run cs with
 | some ds => some (.ok (.new (.lst ds)) cs)
 | none => none
section
variable {K : PySem.W.Frag} {W : WX} {σ : Sl} {C H : Hp} {ρ : En}
structure TS3 (H0 C H : Hp) (σ : Sl) (q : Addr) (as : List Addr) (acc : List D) (K : PySem.W.Frag) : Prop where
 s : σ[3]? = some (some (.ref q))
 h : H q = some (.lst (as.map V.ref))
 c : C q = none
 is : Iss K C acc (as.map V.ref)
 nd : as.Nodup
 fr : ∀ a ∈ as, H0 a = none
 ex : ∀ a ∈ as, H a ≠ none
 q0 : H0 q = none
theorem TS3.step {H0 C H C' H' : Hp} {σ σ' : Sl} {q : Addr} {as : List Addr} {acc : List D} {A : Addr → Prop} (t : TS3 H0 C H σ q as acc K) (s : Step C H C' H' A) (hA : ¬ A q) (hs : σ'[3]? = σ[3]?) : TS3 H0 C' H' σ' q as acc K := by
 refine ⟨hs.trans t.s, s.keep q _ t.h zk hA, ?_, Iss.mono s.core _ _ t.is, t.nd, t.fr, fun a m z => t.ex a m (s.dom a z), t.q0⟩
 cases e : C' q with
 | none => rfl
 | some o =>
  rcases s.new q t.c (by rw [e]; exact fun z => nomatch z) with z | z
  ·rw [t.h] at z; cases z
  ·exact absurd z hA
end
end PL
namespace PL
open PySem L2 PySem.Spec PyProof.Rows
end PL
namespace PL
open PySem L2 PySem.Spec PyProof.Rows
def lstD2 : List D → Option (List (List Str))
 | [] => some []
 | .lst ds :: r => match lstD1 ds, lstD2 r with
  | some z, some zs => some (z :: zs)
  | _, _ => none
 | _ => none
def lstD3 : List D → Option TL3
 | [] => some []
 | .lst ds :: r => match lstD2 ds, lstD3 r with
  | some z, some zs => some (z :: zs)
  | _, _ => none
 | _ => none
def cellT : Option Cell → Option TL3
 | some (.dat (.lst ds)) => lstD3 ds
 | _ => none
def fQ (rr : List Str) : Nat → Cell
 | 6 => .dat (.tup (rr.map fun z => .s (.str z)))
 | _ => .no
structure RFp where
 n : Nat
 gA : PL.P Fl
 TO : TOp
 gB : PL.P Fl
 F : FRp
 gC : PL.P Fl
def RFp.fn (T : RFp) : PL.P Rv := fun cs => if noOwn cs = true then (match T.gA (cs ++ List.replicate (T.n - cs.length) .no) with
 | some (.ex e _) => some (.ex e cs)
 | some (.ok .next ρ1) => (match sSet 2 (zc 2 T.TO.fn (uD (fVar 0) (uD (fVar 1) uNil))) ρ1 with
  | some (.ok .next ρ2) => (match T.gB ρ2 with
   | some (.ex e _) => some (.ex e cs)
   | some (.ok .next ρ3) => (match cellT ρ2[2]? with
    | some tss => (match cellR ρ3[3]? with
     | some ws => (match T.F.run tss ws with
      | some rr => (match T.gC (rho T.n (fQ rr)) with
       | some (.ex e _) => some (.ex e cs)
       | some (.ok (.ret r) ρ5) => (match handed 0 ρ5 r with
        | some (.dat d) => some (.ok (.dat d) cs)
        | _ => none)
       | _ => none)
      | none => none)
     | none => none)
    | none => none)
   | _ => none)
  | _ => none)
 | _ => none) else none
end PL
namespace PL
open PySem L2 PySem.Spec PyProof.Rows PyProof PySem.AutoSeq1
end PL
namespace SG
open PySem L2 PL LW
end SG
namespace SG
open PySem L2 PL LW
end SG
namespace SG
open PySem L2 PL LW
end SG
namespace PL
open PySem PySem.Spec PyProof.Rows L2
end PL
namespace SG
open PySem L2 PL LW
end SG
namespace PL
open PySem L2
end PL
namespace SG
open PySem L2 PL LW
end SG
namespace PL
open PySem PySem.Spec PyProof.Rows L2
def datsAt (ρ : En) : List Nat → Option (List D)
 | [] => some []
 | i :: is => match ρ[i]? with
  | some (.dat d) => (match datsAt ρ is with
   | some ds => some (d :: ds)
   | none => none)
  | _ => none
theorem wa0 {ρ : En} {Q : List D → Prop} : wpO (datsAt ρ []) Q ↔ Q [] := Iff.rfl
end PL
namespace PL
open PySem PySem.Spec PyProof.Rows L2
end PL
namespace SG
open PySem L2 PL LW
end SG
namespace SG
open PySem L2 PL LW
end SG
namespace SG
open PySem L2 PL LW
def t1 (v : Str) : Told := if v = "" then [] else [(0, v)]
def y1 (l : List Str) : List Int := List.replicate l.length 0
end SG
namespace PL
open PySem L2
end PL
namespace SG
open PySem L2 PL LW
end SG
namespace SG
open PySem L2 PL LW
theorem nd2 {a b : Str} (h : a ≠ b) {k l : Kd} {o u : Of} : ([⟨a, k, o⟩, ⟨b, l, u⟩] : List Pl).map (·.name) = [a, b] ∧ ([a, b] : List Str).Nodup := ⟨rfl, by simp [h]⟩
end SG
namespace SG
open PySem L2 PL LW
end SG
namespace SG
open PySem L2 PL LW
end SG
namespace SG
open PySem L2 PL LW
end SG
namespace SG
open PySem L2 PL LW
end SG
namespace LW
open PySem L2 PL
def rising (m : Nat) : Nat → Nat → List (List Int)
 | 0, _ => [[]]
 | s + 1, l => (List.range (m - l)).flatMap fun i => (rising m s (l + i)).map fun y => ((l + i : Nat) : Int) :: y
def Up (m l : Nat) (z : List Int) : Prop := z.Pairwise (· ≤ ·) ∧ ∀ n ∈ z, (l : Int) ≤ n ∧ n < m
theorem rising_mem {m : Nat} : ∀ {s l : Nat} {z : List Int}, z ∈ rising m s l ↔ z.length = s ∧ Up m l z
 | 0, l, z => by
  unfold rising Up
  rw [List.mem_singleton]
  constructor
  ·rintro rfl; simp
  ·rintro ⟨h, _⟩; exact List.length_eq_zero_iff.mp h
 | s + 1, l, z => by
  unfold rising
  rw [List.mem_flatMap]
  constructor
  ·rintro ⟨i, hi, h⟩
   rw [List.mem_range] at hi
   obtain ⟨y, hy, rfl⟩ := List.mem_map.mp h
   obtain ⟨h1, h2, h3⟩ := rising_mem.mp hy
   refine ⟨by rw [List.length_cons, h1], List.pairwise_cons.mpr ⟨fun n hn => (h3 n hn).1, h2⟩, fun n hn => ?_⟩
   rcases List.mem_cons.mp hn with rfl | hn
   ·omega
   ·have := h3 n hn; omega
  ·rintro ⟨h1, h2, h3⟩
   cases z with
   | nil => cases h1
   | cons n y =>
    rw [List.pairwise_cons] at h2
    have h4 := h3 n List.mem_cons_self
    refine ⟨n.toNat - l, List.mem_range.mpr (by omega), List.mem_map.mpr ⟨y, rising_mem.mpr ⟨by simpa using h1, h2.2, fun k hk => ?_⟩, ?_⟩⟩
    ·have := h2.1 k hk
     have := h3 k (List.mem_cons_of_mem _ hk)
     omega
    ·congr 1; omega
def rl : Nat → Nat → Nat
 | 0, _ => 1
 | s + 1, c => ((List.range c).map fun i => rl s (c - i)).sum
theorem kay {m : Nat} : ∀ {s l : Nat}, (rising m s l).length = rl s (m - l)
 | 0, l => rfl
 | s + 1, l => by
  unfold rising rl
  rw [List.length_flatMap]
  congr 1
  refine List.map_congr_left fun i hi => ?_
  rw [List.length_map, kay, Nat.sub_sub]
theorem rl_few : ∀ s < 21, ∀ c < 5, rl s c ≤ 1771 := by decide +kernel
theorem rising_few {m s l : Nat} (hm : m ≤ 4) (hs : s ≤ 20) : (rising m s l).length ≤ 1771 := by
 rw [kay]
 exact rl_few s (by omega) _ (by omega)
theorem stepw_up {ps : List Pl} : ∀ {ws : List Str} {z : List Int} {last : Int}, StepW ps last ws z → z.length = ws.length ∧ z.Pairwise (· ≤ ·) ∧ ∀ n ∈ z, 0 ≤ n ∧ last ≤ n ∧ n < ps.length
 | [], [], last, _ => by simp
 | w :: ws, n :: ns, last, h => by
  obtain ⟨h1, h2⟩ := h
  obtain ⟨a1, a2, a3⟩ := stepw_up h2
  have g := goes_in h1
  refine ⟨by simp [a1], List.pairwise_cons.mpr ⟨fun k hk => (a3 k hk).2.1, a2⟩, fun k hk => ?_⟩
  rcases List.mem_cons.mp hk with rfl | hk
  ·exact g
  ·have := a3 k hk; omega
 | [], n :: ns, last, h => by cases h
 | w :: ws, [], last, h => by cases h
theorem ways_few {ps : List Pl} {ws : List Str} (hp : ps.length ≤ 4) (hw : ws.length ≤ 20) : (yi ps ws).length ≤ 1771 := by
 have H : ∀ y ∈ ([[]] : List (List Int)), qj ps y := fun y m => by rw [List.mem_singleton.mp m]; exact zag ps
 have hn : (yi ps ws).Nodup := (wbn (ps := ps) ws (ways := [[]]) (n := 0) (fun y m => by rw [List.mem_singleton.mp m]; rfl) (List.pairwise_singleton _ _)).imp fun {a b} h e => by subst e; exact List.lt_irrefl _ h
 refine Nat.le_trans (yas (m := rising ps.length ws.length 0) hn fun z hz => ?_) (rising_few hp hw)
 obtain ⟨y, hy, ns, rfl, h⟩ := (fold_mem H).mp hz
 obtain rfl := List.mem_singleton.mp hy
 obtain ⟨h1, h2, h3⟩ := stepw_up h
 exact rising_mem.mpr ⟨h1, h2, fun n hn => by have := h3 n hn; omega⟩
end LW
namespace LW
open PySem L2 PL
def tI (y : List Int) : D := .tup (y.map zi)
theorem xac : ∀ y : List Int, PL.TN.keyables (y.map PyData.int) = true
 | [] => rfl
 | i :: y => by rw [List.map_cons, PL.TN.keyables, PL.TN.keyable, xac y]; rfl
theorem jaz : ∀ y : List Int, PL.TN.keyPs (y.map PyData.int) = y.map NestedKey.num
 | [] => rfl
 | i :: y => by rw [List.map_cons, PL.TN.keyPs, jaz y]; rfl
theorem ya0 : ∀ y : List Int, NestedKey.depthAll (y.map NestedKey.num) = 0
 | [] => rfl
 | i :: y => by rw [List.map_cons, NestedKey.depthAll, ya0 y]; rfl
theorem nums_inj : ∀ {a b : List Int}, a.map NestedKey.num = b.map NestedKey.num → a = b
 | [], [], _ => rfl
 | i :: a, j :: b, h => by
  rw [List.map_cons, List.map_cons] at h
  injection h with h1 h2
  injection h1 with h1
  rw [h1, nums_inj h2]
 | [], j :: b, h => by cases h
 | i :: a, [], h => by cases h
theorem ints_inj : ∀ {a b : List Int}, a.map zi = b.map zi → a = b
 | [], [], _ => rfl
 | i :: a, j :: b, h => by
  rw [List.map_cons, List.map_cons] at h
  injection h with h1 h2
  injection h1 with h1
  injection h1 with h1
  rw [h1, ints_inj h2]
 | [], j :: b, h => by cases h
 | i :: a, [], h => by cases h
theorem eqv_ints : ∀ {a b : List Int}, PyData.eqvAll (a.map PyData.int) (b.map PyData.int) = true → a = b
 | [], [], _ => rfl
 | i :: a, j :: b, h => by
  rw [List.map_cons, List.map_cons] at h
  simp only [PyData.eqvAll, PyData.eqv, Bool.and_eq_true, beq_iff_eq, decide_eq_true_eq] at h
  rw [h.1, eqv_ints h.2]
 | [], j :: b, h => by simp [PyData.eqvAll] at h
 | i :: a, [], h => by simp [PyData.eqvAll] at h
theorem tI_inj {a b : List Int} (h : tI a = tI b) : a = b := by
 unfold tI at h
 injection h with h
 exact ints_inj h
theorem jbh {α : Type} : ∀ {xs : List α}, xs.Nodup → nubC xs = xs
 | [], _ => rfl
 | x :: xs, h => by
  rw [List.nodup_cons] at h
  unfold nubC
  rw [if_neg h.1, jbh h.2]
theorem goodW_ints {ys : List (List Int)} {n : Nat} (hn : ∀ y ∈ ys, y.length = n) (h0 : n = 0 → ys.length ≤ 1) (hf : ys.length < 2000) : GoodW (ys.map tI) := by
 have each : ∀ {P : D → Prop}, (∀ s ∈ ys, P (tI s)) → ∀ d ∈ ys.map tI, P d := fun k d m => by
  obtain ⟨s, hs, rfl⟩ := List.mem_map.mp m
  exact k s hs
 have hpy : ∀ y : List Int, py (tI y) = .tuple (y.map .int) := py_ti
 have hkey : ∀ y : List Int, PL.TN.keyP (.tuple (y.map PyData.int)) = .tup (y.map .num) := fun y => by rw [PL.TN.keyP, jaz]
 have hnl : (nubC (ys.map tI)).length ≤ ys.length := by
  have := nubC_len (ys.map tI)
  rw [List.length_map] at this
  exact this
 refine ⟨each fun s m => (Sh.tup (zi_shp s) (by decide)).s, each fun s m => ?_, each fun s m => ?_, each fun s m => ?_, ?_, each fun s m => each fun t q => ?_, each fun s m => each fun t q e => ?_, each fun s m => each fun t q e => ?_, by omega⟩
 ·rw [hpy]; exact xac s
 ·rw [hpy, hkey]
  simp only [NestedKey.depth, ya0]
  decide
 ·rw [hpy]; rfl
 ·by_cases c : n = 0
  ·exact .inr (Nat.le_trans hnl (h0 c))
  ·refine .inl (each fun s m => ?_)
   rw [hpy]
   cases s with
   | nil => exact absurd (hn _ m).symm c
   | cons i s => rfl
 ·rw [hpy, hpy, PySem.W.alike]
  exact PySem.W.alike_ints s t
 ·rw [hpy, hpy, hkey, hkey] at e
  injection e with e
  rw [nums_inj e]
 ·rw [hpy, hpy] at e
  rw [jj] at e
  rw [eqv_ints e]
theorem sort_ways {ys : List (List Int)} {n : Nat} (hn : ∀ y ∈ ys, y.length = n) (h0 : n = 0 → ys.length ≤ 1) (hf : ys.length < 2000) (up : ys.Pairwise (· < ·)) : war (.lst (ys.map tI)) = some (.new (.lst (ys.map tI))) := by
 rw [ybf (goodW_ints hn h0 hf)]
 have nd : ys.Nodup := up.imp fun {a b} h e => by subst e; exact List.lt_irrefl _ h
 have e : nubC (ys.map tI) = ys.map tI := by
  rw [nubC_map fun x _ y _ h => tI_inj h, jbh nd]
 unfold ya6
 rw [e]
 have es : (ys.map tI).mergeSort dle = ys.map tI := by
  rw [← List.map_mergeSort (r := fun a b => decide (a ≤ b)) (s := dle) (f := tI) (l := ys) fun a _ b _ => (dle_ti a b).symm]
  congr 1
  refine List.mergeSort_of_pairwise (up.imp fun {a b} h => decide_eq_true (List.le_of_lt h))
 rw [es]
def ch : Nat → Nat → Nat
 | _, 0 => 1
 | 0, _ + 1 => 0
 | n + 1, k + 1 => ch n k + ch n (k + 1)
theorem qav (n : Nat) : ch n 0 = 1 := by cases n <;> rfl
theorem kah : ∀ {n k : Nat}, n < k → ch n k = 0
 | 0, k + 1, _ => rfl
 | n + 1, k + 1, h => by
  show ch n k + ch n (k + 1) = 0
  rw [kah (show n < k by omega), kah (show n < k + 1 by omega)]
 | n, 0, h => by omega
theorem ch_all : ∀ n, ch n n = 1
 | 0 => rfl
 | n + 1 => by
  show ch n n + ch n (n + 1) = 1
  rw [ch_all n, kah (Nat.lt_succ_self n)]
def rowL (n : Nat) : List Nat := (List.range (n + 1)).map (ch n)
theorem zq (n : Nat) : (rowL n).length = n + 1 := by unfold rowL; rw [List.length_map, List.length_range]
theorem va7 {n i : Nat} (h : i ≤ n) : (rowL n)[i]? = some (ch n i) := by
 unfold rowL
 rw [List.getElem?_map, List.getElem?_range (by omega)]
 rfl
theorem rowL_next (n : Nat) : ((0 :: rowL n).zip (rowL n ++ [0])).map (fun p => p.1 + p.2) = rowL (n + 1) := by
 apply List.ext_getElem?
 intro i
 rw [List.getElem?_map]
 by_cases h : i ≤ n + 1
 ·rw [va7 h]
  have h1 : (0 :: rowL n)[i]? = some (if i = 0 then 0 else ch n (i - 1)) := by
   cases i with
   | zero => rfl
   | succ i =>
    rw [List.getElem?_cons_succ, va7 (by omega)]
    rfl
  have h2 : (rowL n ++ [0])[i]? = some (ch n i) := by
   by_cases c : i ≤ n
   ·rw [List.getElem?_append_left (by rw [zq]; omega), va7 c]
   ·have : i = n + 1 := by omega
    subst this
    rw [List.getElem?_append_right (by rw [zq]; exact Nat.le_refl _), zq, kah (Nat.lt_succ_self n), Nat.sub_self]
    rfl
  rw [List.zip, List.getElem?_zipWith, h1, h2]
  cases i with
  | zero => rw [qav, qav]; rfl
  | succ i => rfl
 ·rw [List.getElem?_eq_none (l := (0 :: rowL n).zip (rowL n ++ [0])) (by rw [List.length_zip, List.length_cons, List.length_append, zq]; simp; omega), List.getElem?_eq_none (l := rowL (n + 1)) (by rw [zq]; omega)]
  rfl
def dueN (o : Of) (k n : Nat) : Nat := if k = 0 then (if n = 0 then 1 else 0) else match o with
 | .any_ => ch (n + k - 1) (k - 1)
 | .some_ => if 0 < n then ch (n - 1) (k - 1) else 0
 | .maybe => ch k n
 | .one => if n = k then 1 else 0
theorem kbe {p : Pl} {ps : List Pl} (hk : p.k = .any) (w : Str) (ws : List Str) : Cnt (p :: ps) (w :: ws) = (if p.o.lack = true then Cnt ps (w :: ws) else 0) + (Cnt ps ws + preS (Cnt ps) p false ws) := by
 rw [Cnt, preS, hk]
 rfl
theorem preS_kon {f : List Str → Nat} {p : Pl} (hk : p.k = .any) (w : Str) (ws : List Str) : preS f p false (w :: ws) = if p.o.again = true then f ws + preS f p false ws else 0 := by
 rw [preS, hk]
 rfl
theorem wbg {f : List Str → Nat} {p : Pl} (hk : p.k = .any) (ha : p.o.again = true) : ∀ ws, preS f p true ws = preS f p false ws
 | [] => rfl
 | w :: ws => by rw [preS, preS, hk, ha]; rfl
theorem Cnt_due {o : Of} : ∀ {ps : List Pl} {ws : List Str}, (∀ p ∈ ps, p.k = .any ∧ p.o = o) → Cnt ps ws = dueN o ps.length ws.length := by
 cases o with
 | any_ =>
  have key : ∀ (ps : List Pl) (ws : List Str), (∀ p ∈ ps, p.k = .any ∧ p.o = .any_) → Cnt ps ws = if ps.length = 0 then (if ws.length = 0 then 1 else 0) else ch (ws.length + ps.length - 1) (ps.length - 1) := by
   intro ps
   induction ps with
   | nil => intro ws _; rw [Cnt]; cases ws <;> rfl
   | cons p ps ih =>
    intro ws h
    obtain ⟨hk, ho⟩ := h p List.mem_cons_self
    have hps := fun q m => h q (List.mem_cons_of_mem _ m)
    induction ws with
    | nil =>
     rw [Cnt, qz, ih [] hps, ho]
     cases ps with
     | nil => rfl
     | cons q ps => simp [Of.lack, ch_all]
    | cons w ws ihw =>
     have e1 : Cnt (p :: ps) (w :: ws) = Cnt ps (w :: ws) + Cnt (p :: ps) ws := by
      rw [kbe hk, Cnt, wbg hk (by rw [ho]; rfl), ho]
      rfl
     rw [e1, ihw, ih _ hps]
     cases ps with
     | nil => simp [qav]
     | cons q ps =>
      simp only [List.length_cons, Nat.add_one_ne_zero, if_false, Nat.add_sub_cancel]
      rw [show ws.length + 1 + (ps.length + 1) - 1 = ws.length + (ps.length + 1) by omega, show ws.length + (ps.length + 1 + 1) - 1 = ws.length + (ps.length + 1) by omega, show ws.length + 1 + (ps.length + 1 + 1) - 1 = (ws.length + (ps.length + 1)) + 1 by omega]
      rfl
  intro ps ws h
  exact key ps ws h
 | some_ =>
  have key : ∀ (ps : List Pl) (ws : List Str), (∀ p ∈ ps, p.k = .any ∧ p.o = .some_) → Cnt ps ws = if ps.length = 0 then (if ws.length = 0 then 1 else 0) else if 0 < ws.length then ch (ws.length - 1) (ps.length - 1) else 0 := by
   intro ps
   induction ps with
   | nil => intro ws _; rw [Cnt]; cases ws <;> rfl
   | cons p ps ih =>
    intro ws h
    obtain ⟨hk, ho⟩ := h p List.mem_cons_self
    have hps := fun q m => h q (List.mem_cons_of_mem _ m)
    induction ws with
    | nil => rw [Cnt, qz, ho]; rfl
    | cons w ws ihw =>
     have e1 : Cnt (p :: ps) (w :: ws) = Cnt ps ws + Cnt (p :: ps) ws := by
      rw [kbe hk, Cnt, wbg hk (by rw [ho]; rfl), ho]
      simp [Of.lack]
     rw [e1, ihw, ih _ hps]
     cases ps with
     | nil => cases ws <;> simp [qav]
     | cons q ps =>
      cases ws with
      | nil => rfl
      | cons v ws =>
       simp only [List.length_cons, Nat.add_one_ne_zero, if_false, Nat.add_sub_cancel, Nat.zero_lt_succ, if_true]
       rfl
  intro ps ws h
  exact key ps ws h
 | maybe =>
  have key : ∀ (ps : List Pl) (ws : List Str), (∀ p ∈ ps, p.k = .any ∧ p.o = .maybe) → Cnt ps ws = ch ps.length ws.length := by
   intro ps
   induction ps with
   | nil => intro ws _; rw [Cnt]; cases ws <;> rfl
   | cons p ps ih =>
    intro ws h
    obtain ⟨hk, ho⟩ := h p List.mem_cons_self
    have hps := fun q m => h q (List.mem_cons_of_mem _ m)
    cases ws with
    | nil => rw [Cnt, qz, ih [] hps, ho]; simp [Of.lack, qav]
    | cons w ws =>
     have e0 : preS (Cnt ps) p false ws = 0 := by
      cases ws with
      | nil => rfl
      | cons v ws => rw [preS_kon hk, ho]; rfl
     rw [kbe hk, e0, ih _ hps, ih _ hps, ho]
     show ch ps.length (ws.length + 1) + (ch ps.length ws.length + 0) = ch ps.length ws.length + ch ps.length (ws.length + 1)
     omega
  intro ps ws h
  rw [key ps ws h]
  unfold dueN
  by_cases c : ps.length = 0
  ·rw [if_pos c, c]
   by_cases d : ws.length = 0
   ·rw [d]; rfl
   ·rw [if_neg d]; exact kah (by omega)
  ·rw [if_neg c]
 | one =>
  have key : ∀ (ps : List Pl) (ws : List Str), (∀ p ∈ ps, p.k = .any ∧ p.o = .one) → Cnt ps ws = if ws.length = ps.length then 1 else 0 := by
   intro ps
   induction ps with
   | nil => intro ws _; rw [Cnt]; cases ws <;> rfl
   | cons p ps ih =>
    intro ws h
    obtain ⟨hk, ho⟩ := h p List.mem_cons_self
    have hps := fun q m => h q (List.mem_cons_of_mem _ m)
    cases ws with
    | nil => rw [Cnt, qz, ho]; rfl
    | cons w ws =>
     have e0 : preS (Cnt ps) p false ws = 0 := by
      cases ws with
      | nil => rfl
      | cons v ws => rw [preS_kon hk, ho]; rfl
     rw [kbe hk, e0, ih (w :: ws) hps, ih ws hps, ho]
     simp [Of.lack]
  intro ps ws h
  rw [key ps ws h]
  unfold dueN
  by_cases c : ps.length = 0
  ·rw [if_pos c, c]
  ·rw [if_neg c]
end LW
namespace LW
open PySem L2 PL SG
local macro_rules | `(tactic| walk_at "w") => `(tactic| (try simp only [PL.wp_seq, PL.wp_set, PL.za3, PL.zbb, PL.wp_op, PL.wp_un, PL.wp_var, PL.wp_c, PL.kaq, PL.vaq, PL.qam, PL.wal, PL.kal, PL.vr, PL.yal, PL.kam, PL.xam, PL.vam, PL.yap, PL.vap, PL.ya5, PL.va5, PL.wa5, PL.qaq, PL.wap, PL.qan, PL.ja8, PL.za8, PL.jan, PL.ja3, PL.vak, PL.wa3, PL.wp_brk, PL.qa5, PL.jar, PL.zap, PL.wad, PL.zz, PL.jz, PL.kz, PL.jad, PL.qad, PL.xab, PL.yab, PL.kab, List.set_cons_zero, List.set_cons_succ, List.length_cons, List.length_nil, PL.addD, PL.subD, PL.zak, PL.mulD, PL.modD, PL.xbi, PL.wp_run, List.cons_append, List.nil_append, List.replicate, List.getElem?_cons_zero, List.getElem?_cons_succ, PL.za4, PL.qac, PL.vz, PL.yam, PL.wba, PL.qbb, PL.isB_bl, PL.xbb, PL.wp_call, PL.v8, PL.qa3, PL.wp_ud, PL.wp_um, PL.xaa, PL.vaa, PL.kaa, PL.xae, PL.vae, PL.kae, PL.jaq, PL.xaq, PL.zaq, PL.wp_cb, PL.wp_nil, PL.ja5, PL.qab, PL.z9, PL.wa2, PL.kak, PL.wp_tup, PL.wp_lst, PL.waq, PL.wp_and, PL.wp_or, PL.wp_not, PL.ka5, PL.za6, PL.wp_ifE, PL.xal, PL.wp_m1, PL.wp_zno, PL.wp_zat, PL.wp_sl, PL.wp_sif, PL.y8, PL.x8, PL.wp_par, PL.wp_ext, PL.ja4, PL.zy, PL.qy, PL.v9, PL.jy, PL.va3, PL.ka3, PL.vn, PL.wam, PL.y9, PL.yao, PL.kbb, PL.wp_zip, PL.zab, PL.jab, PL.wbe, PL.qbp, PL.vbk, PL.zaf, PL.yaw, PL.ql, PL.xy, PL.qaa, PL.w9, PL.zao, PL.xao, PL.qba, PL.jao, PL.jbc, PL.wa8, PL.lt_int, PL.lt_str, PL.le_int, PL.gt_int, PL.ge_int, PL.va9, PL.za9, PL.wan, PL.yan, PL.ya9, PL.ja6, PL.qa6, PL.sl_lst, PL.sl_tup, PL.sl_ro, PL.sl_str, PL.neg_int, PL.is_bl, PL.yac, PL.is_none, PL.vq, PL.kan, PL.none_int, PL.none_str, PL.ya8, PL.van, PL.xan, PL.wbd, PL.qbe, PL.zaa, PL.yy, PL.jap, Nat.reduceAdd, Nat.reduceSub, Nat.zero_add, Bool.not_true, Bool.not_false, Bool.false_eq_true, if_true, if_false, PL.za5, PL.j7, PL.vg, decide_eq_true_eq, PL.vba, PL.ixw_ro, PL.xba, PL.kba, PL.atI_0, PL.atI_1, PL.wp_ky, PL.qap, PL.wao, PL.zac, PL.dv_bor, PL.dv_dic, PL.kbc, PL.xbc, PL.dvQ_dk, PL.dvQ_dt, PL.vbc, PL.dGet_k, PL.dGet_t, PL.jal, PL.qal, PL.vy, PL.wa4, PL.zal, PL.vao, PL.kao,  PL.ybg, PL.vbg, PL.va4, PL.j9, PL.w8, PL.qu, PL.ya7, PL.wak, PL.qa4, PL.qbi, PL.ya3, PL.yak, PL.ya4, List.take_succ_cons, List.take_zero, Option.map_some, Option.map_none, PL.kq, PL.jh, PL.wp_setF, PL.wp_make, PL.wp_bare, PL.wp_meth, PL.peek_ob, PL.cdat_ob, PL.wpG_ob, PL.borQ_ob, PL.obQ_ob, PL.madeQ_ob, PL.none_obj, PL.ka4, PL.wbh, PL.isSeq_ro, PL.wac, PL.wp_part, PL.wp_partL, List.map_cons, List.map_nil, PL.putG, PL.wp_raise, PL.vbe, PL.none_exc, PL.none_dic, PL.fDic0, PL.powD, PL.absD, PL.wp_setX, PL.wp_nnew, PL.wax, LW.v5, LW.xad, LW.w5, LW.zad, LW.y5, LW.xw, LW.w4, LW.vw, LW.jv, LW.zt, LW.jt, LW.vj, LW.wu, PL.wa0, PL.vz, LW.mq_holds_AnyWord_AnyWord, LW.yad, LW.vad, LW.yai, LW.kad, LW.z5, LW.vv, LW.j5, LW.xv, LW.yr]))
local macro_rules | `(tactic| walk_at "wph") => `(tactic| (try simp only [PL.wp_seq, PL.wp_set, PL.za3, PL.zbb, PL.wp_op, PL.wp_un, PL.wp_var, PL.wp_c, PL.kaq, PL.vaq, PL.qam, PL.wal, PL.kal, PL.vr, PL.yal, PL.kam, PL.xam, PL.vam, PL.yap, PL.vap, PL.ya5, PL.va5, PL.wa5, PL.qaq, PL.wap, PL.qan, PL.ja8, PL.za8, PL.jan, PL.ja3, PL.vak, PL.wa3, PL.wp_brk, PL.qa5, PL.jar, PL.zap, PL.wad, PL.zz, PL.jz, PL.kz, PL.jad, PL.qad, PL.xab, PL.yab, PL.kab, List.set_cons_zero, List.set_cons_succ, List.length_cons, List.length_nil, PL.addD, PL.subD, PL.zak, PL.mulD, PL.modD, PL.xbi, PL.wp_run, List.cons_append, List.nil_append, List.replicate, List.getElem?_cons_zero, List.getElem?_cons_succ, PL.za4, PL.qac, PL.vz, PL.yam, PL.wba, PL.qbb, PL.isB_bl, PL.xbb, PL.wp_call, PL.v8, PL.qa3, PL.wp_ud, PL.wp_um, PL.xaa, PL.vaa, PL.kaa, PL.xae, PL.vae, PL.kae, PL.jaq, PL.xaq, PL.zaq, PL.wp_cb, PL.wp_nil, PL.ja5, PL.qab, PL.z9, PL.wa2, PL.kak, PL.wp_tup, PL.wp_lst, PL.waq, PL.wp_and, PL.wp_or, PL.wp_not, PL.ka5, PL.za6, PL.wp_ifE, PL.xal, PL.wp_m1, PL.wp_zno, PL.wp_zat, PL.wp_sl, PL.wp_sif, PL.y8, PL.x8, PL.wp_par, PL.wp_ext, PL.ja4, PL.zy, PL.qy, PL.v9, PL.jy, PL.va3, PL.ka3, PL.vn, PL.wam, PL.y9, PL.yao, PL.kbb, PL.wp_zip, PL.zab, PL.jab, PL.wbe, PL.qbp, PL.vbk, PL.zaf, PL.yaw, PL.ql, PL.xy, PL.qaa, PL.w9, PL.zao, PL.xao, PL.qba, PL.jao, PL.jbc, PL.wa8, PL.lt_int, PL.lt_str, PL.le_int, PL.gt_int, PL.ge_int, PL.va9, PL.za9, PL.wan, PL.yan, PL.ya9, PL.ja6, PL.qa6, PL.sl_lst, PL.sl_tup, PL.sl_ro, PL.sl_str, PL.neg_int, PL.is_bl, PL.yac, PL.is_none, PL.vq, PL.kan, PL.none_int, PL.none_str, PL.ya8, PL.van, PL.xan, PL.wbd, PL.qbe, PL.zaa, PL.yy, PL.jap, Nat.reduceAdd, Nat.reduceSub, Nat.zero_add, Bool.not_true, Bool.not_false, Bool.false_eq_true, if_true, if_false, PL.za5, PL.j7, PL.vg, decide_eq_true_eq, PL.vba, PL.ixw_ro, PL.xba, PL.kba, PL.atI_0, PL.atI_1, PL.wp_ky, PL.qap, PL.wao, PL.zac, PL.dv_bor, PL.dv_dic, PL.kbc, PL.xbc, PL.dvQ_dk, PL.dvQ_dt, PL.vbc, PL.dGet_k, PL.dGet_t, PL.jal, PL.qal, PL.vy, PL.wa4, PL.zal, PL.vao, PL.kao,  PL.ybg, PL.vbg, PL.va4, PL.j9, PL.w8, PL.qu, PL.ya7, PL.wak, PL.qa4, PL.qbi, PL.ya3, PL.yak, PL.ya4, List.take_succ_cons, List.take_zero, Option.map_some, Option.map_none, PL.kq, PL.jh, PL.wp_setF, PL.wp_make, PL.wp_bare, PL.wp_meth, PL.peek_ob, PL.cdat_ob, PL.wpG_ob, PL.borQ_ob, PL.obQ_ob, PL.madeQ_ob, PL.none_obj, PL.ka4, PL.wbh, PL.isSeq_ro, PL.wac, PL.wp_part, PL.wp_partL, List.map_cons, List.map_nil, PL.putG, PL.wp_raise, PL.vbe, PL.none_exc, PL.none_dic, PL.fDic0, PL.powD, PL.absD, PL.wp_setX, PL.wp_nnew, PL.wax, LW.v5, LW.xad, LW.w5, LW.zad, LW.y5, LW.xw, LW.w4, LW.vw, LW.jv, LW.zt, LW.jt, LW.vj, LW.wu, PL.wa0, PL.vz, LW.mq_holds_AnyWord_AnyWord, LW.yad, LW.vad, LW.yai, LW.kad, LW.z5, LW.vv, LW.j5, LW.xv, LW.yr, true_and, and_true, and_self, List.nodup_nil, PL.okS, PL.qbo, beq_self_eq_true, decide_true, Int.cast_ofNat_Int, Int.reduceBEq, Int.reduceBNe, Int.reduceLT, Int.reduceLE, Int.reduceAdd, Int.reduceSub, Nat.reduceBEq, *]))
local macro_rules | `(tactic| walk_at "fin") => `(tactic| first | trivial | rfl | decide | (simp; done) | omega)
local macro_rules | `(tactic| walk_at "sd") => `(tactic| repeat (with_reducible refine And.intro ?_ ?_; (first | decide | trivial | (exact ⟨by decide, trivial⟩) | (exact ja (by decide)) | (exact ja (by omega)) | (exact jm (by omega) (by omega)) | (exact jm (by decide) (by decide)) | (exact ⟨jm (by omega) (by omega), jm (by omega) (by omega)⟩) | (simp; done))))
def Kd.obj (A : Ads) (_ : Kd) : D := kas A
section
variable {A : Ads} {Q : Rv → En → Prop} {QF : Fl → En → Prop} {E : Exn → En → Prop}
theorem kd_holds {k : Kd} {w : Str} (hk : k = .any) {QR : Rv → En → Prop} {r : En} {ga : PL.P (List PL.Arg)} (hg : wp ga (fun as r2 => as = [.inl (zs w)] ∧ QR (rvB (k.holds w)) r2) E r) : methQ "holds" 2 (zf A) ga QR E (k.obj A) r := by
 subst hk
 refine mq_holds_AnyWord_AnyWord.mpr (wp_mono hg (fun as r2 z => ?_) fun _ _ e => e)
 obtain ⟨rfl, z⟩ := z
 unfold yh kx
 walk_at "w"
 exact ⟨⟨by simp, trivial⟩, z⟩
end
def Pl.obj (A : Ads) (p : Pl) : D := ka8 A (zs p.name) (p.k.obj A) (zs p.o.s)
abbrev plD (A : Ads) (ps : List Pl) : D := .tup (ps.map (Pl.obj A))
abbrev tbD (A : Ads) (dw : D) (ps : List Pl) (db dn : D) : D := o_Table A dw (plD A ps) db dn
theorem of_again (o : Of) : inW o.s ["some", "any"] = o.again := by cases o <;> decide +kernel
theorem of_lack (o : Of) : inW o.s ["maybe", "any"] = o.lack := by cases o <;> decide +kernel
section
variable {A : Ads} {Q : Rv → En → Prop} {QF : Fl → En → Prop} {E : Exn → En → Prop} {dw db dn : D}
theorem again_ok {p : Pl} (h : Q (rvB p.o.again) [.dat (p.obj A)]) : wp (zr A) Q E [.dat (p.obj A)] := by
 unfold zr jaw Pl.obj
 walk_at "w"
 rw [show ([zs "some", zs "any"] : List D) = (["some", "any"] : List Str).map zs from rfl, in_tup, of_again]
 exact ⟨ja (by decide), h⟩
theorem zbn {p : Pl} (h : Q (rvB p.o.lack) [.dat (p.obj A)]) : wp (yp A) Q E [.dat (p.obj A)] := by
 unfold yp ka1 Pl.obj
 walk_at "w"
 rw [show ([zs "maybe", zs "any"] : List D) = (["maybe", "any"] : List Str).map zs from rfl, in_tup, of_lack]
 exact ⟨ja (by decide), h⟩
theorem pl_at {ps : List Pl} {i : Int} {p : Pl} (h0 : 0 ≤ i) (h : ps[i.toNat]? = some p) : atI (ps.map (Pl.obj A)) i = some (p.obj A) := by
 rw [yaj h0, List.getElem?_map, h]; rfl
theorem pfor_ok {ps : List Pl} {last : Int} {w : Str} (hl : ps.length ≤ 1000) (h0 : -1 ≤ last) (h1 : last < ps.length) (hp : ∀ p ∈ ps, p.k = .any) (h : Q (.new (.lst ((pfor ps last w).map zi))) [.dat (tbD A dw ps db dn), .dat (zi last), .dat (zs w)]) :
  wp (jg A) Q E [.dat (tbD A dw ps db dn), .dat (zi last), .dat (zs w)] := by
 unfold jg xaj
 rw [PL.wp_run]
 refine seq_ok (Q1 := fun r => r = [.dat (tbD A dw ps db dn), .dat (zi last), .dat (zs w), .own (.lst []), .no]) ?_ fun r hr => ?_
 ·walk_at "w"
  exact ⟨by walk_at "fin", by walk_at "fin", by walk_at "fin"⟩
 subst hr
 refine seq_ok (Q1 := fun r => r = [.dat (tbD A dw ps db dn), .dat (zi last), .dat (zs w), .own (.lst ((qp ps last w).map zi)), .no]) ?_ fun r hr => ?_
 ·walk_at "w"
  unfold qp
  by_cases c : 0 ≤ last
  ·rw [if_pos c, if_pos c]
   have hg := List.getElem?_eq_getElem (show last.toNat < ps.length by omega)
   rw [pl_at c hg, hg]
   walk_at "w"
   refine ⟨⟨by simp, trivial⟩, again_ok ?_⟩
   walk_at "w"
   cases ps[last.toNat].o.again with
   | false => walk_at "w"; exact ⟨by walk_at "fin", by walk_at "fin"⟩
   | true =>
    walk_at "w"
    rw [pl_at c hg]
    walk_at "w"
    unfold Pl.obj
    walk_at "w"
    refine kd_holds (w := w) (hp _ (List.getElem_mem _)) ?_
    walk_at "w"
    refine ⟨trivial, ?_⟩
    rw [Bool.true_and]
    cases ps[last.toNat].k.holds w with
    | false => walk_at "w"; exact ⟨by walk_at "fin", by walk_at "fin"⟩
    | true => walk_at "w"; exact ⟨by walk_at "fin", by walk_at "fin"⟩
  ·rw [if_neg c, if_neg c]
   exact ⟨trivial, rfl⟩
 subst hr
 have ho := yaf ps last w
 have hd : (last + 1).toNat ≤ ps.length := by omega
 walk_at "w"
 rw [List.length_map]
 refine ⟨⟨jm (by omega) (by omega), jm (by omega) (by omega)⟩, ?_⟩
 refine zo (fun i r => ∃ (acc : List Int) (c4 : Cell), r = [.dat (tbD A dw ps db dn), .dat (zi last), .dat (zs w), .own (.lst (acc.map zi)), c4] ∧ acc.length ≤ 1 + i ∧ acc ++ scan w (ps.drop ((last + 1).toNat + i)) ((last + 1).toNat + i) = pfor ps last w) ⟨_, _, rfl, ho, rfl⟩ (fun i d r hd0 hI => ?_) (fun r hI => ?_)
 ·obtain ⟨acc, c4, rfl, hal, hacc⟩ := hI
  obtain ⟨hi, rfl⟩ := waa hd0
  have hlt : (last + 1).toNat + i < ps.length := by omega
  have hg := List.getElem?_eq_getElem hlt
  have hn : (last + 1 + (i : Int)).toNat = (last + 1).toNat + i := by omega
  have e : (((last + 1).toNat + i : Nat) : Int) = last + 1 + (i : Int) := by omega
  rw [List.drop_eq_getElem_cons hlt, scan, e] at hacc
  clear hd0
  walk_at "w"
  have hpl : atI (ps.map (Pl.obj A)) (last + 1 + (i : Int)) = some (ps[(last + 1).toNat + i].obj A) := pl_at (by omega) (by rw [hn]; exact hg)
  rw [hpl]
  have hpk := hp _ (List.getElem_mem hlt)
  generalize ps[(last + 1).toNat + i] = p at *
  walk_at "w"
  unfold Pl.obj
  walk_at "w"
  refine ⟨by decide, kd_holds (w := w) hpk ?_⟩
  walk_at "w"
  refine ⟨trivial, ?_⟩
  have hz : acc.length < sizeLine := by rw [size_eq]; omega
  have e2 : (last + 1).toNat + (i + 1) = (last + 1).toNat + i + 1 := by omega
  cases hh : p.k.holds w with
  | false =>
   rw [hh] at hacc
   walk_at "w"
   rw [hpl]
   walk_at "w"
   refine ⟨by simp, zbn ?_⟩
   walk_at "w"
   cases hk : p.o.lack with
   | false =>
    rw [hk] at hacc
    walk_at "w"
    refine ⟨by decide, ?_⟩
    rw [show acc = pfor ps last w by simpa using hacc]
    exact h
   | true =>
    rw [hk] at hacc
    walk_at "w"
    exact ⟨acc, _, rfl, by omega, by rw [e2]; simpa using hacc⟩
  | true =>
   rw [hh] at hacc
   walk_at "w"
   rw [List.length_map]
   refine ⟨hz, ?_⟩
   rw [hpl]
   walk_at "w"
   refine ⟨by simp, zbn ?_⟩
   walk_at "w"
   cases hk : p.o.lack with
   | false =>
    rw [hk] at hacc
    walk_at "w"
    refine ⟨by decide, ?_⟩
    rw [show ([zi (last + 1 + (i : Int))] : List D) = [last + 1 + (i : Int)].map zi from rfl, ← List.map_append, show acc ++ [last + 1 + (i : Int)] = pfor ps last w by simpa using hacc]
    exact h
   | true =>
    rw [hk] at hacc
    walk_at "w"
    exact ⟨acc ++ [last + 1 + (i : Int)], _, by rw [List.map_append]; rfl, by rw [List.length_append]; simp; omega, by rw [e2]; simpa using hacc⟩
 ·obtain ⟨acc, c4, rfl, hal, hacc⟩ := hI
  rw [wk, List.drop_eq_nil_of_le (by omega), scan, List.append_nil] at hacc
  subst hacc
  walk_at "w"
  exact ⟨by decide, h⟩
theorem close_ok {ps : List Pl} {last : Int} (hl : ps.length ≤ 1000) (h0 : -1 ≤ last) (h1 : last < ps.length) (h : Q (rvB (vk ps last)) [.dat (tbD A dw ps db dn), .dat (zi last)]) : wp (ym A) Q E [.dat (tbD A dw ps db dn), .dat (zi last)] := by
 unfold ym qaw
 walk_at "w"
 rw [cutG_dropI (by omega), ← List.map_drop]
 rw [PL.yw (ps.drop (last + 1).toNat) (Pl.obj A) (fun p => zb p.o.lack) (ja (by rw [List.length_drop]; omega)) fun p m => ?_]
 ·walk_at "w"
  rw [PL.all_map]
  walk_at "w"
  exact h
 ·walk_at "w"
  refine ⟨by decide, by simp, zbn ?_⟩
  walk_at "w"
  exact ⟨by walk_at "fin", by walk_at "fin"⟩
theorem zi_sh {is : List Int} : ∀ d ∈ is.map zi, Sh 0 d := fun d m => by
 obtain ⟨i, _, rfl⟩ := List.mem_map.mp m
 exact Sh.int
theorem last_ok {way : List Int} (h : Q (rvI (lastOf way)) [.dat (.tup (way.map zi))]) : wp (qq A) Q E [.dat (.tup (way.map zi))] := by
 unfold qq wbj
 walk_at "w"
 refine ⟨ja (by decide), ?_⟩
 rw [ne_tup0 zi_sh (by decide), atI_end, List.getLast?_map]
 walk_at "w"
 unfold lastOf at h
 cases q : way.getLast? with
 | none =>
  rw [q] at h
  obtain rfl := List.getLast?_eq_none_iff.mp q
  walk_at "w"
  simpa using h
 | some n =>
  rw [q] at h
  have : way ≠ [] := fun z => by rw [z] at q; cases q
  cases way with
  | nil => exact absurd rfl this
  | cons a r => walk_at "w"; simpa using h
abbrev tupI (y : List Int) : D := .tup (y.map zi)
theorem xm {α : Type} {ws : List α} {i : Nat} {w : α} (h : ws[i]? = some w) : ws.take (i + 1) = ws.take i ++ [w] := by
 rw [List.take_add_one, h]
 rfl
theorem way_one {ps : List Pl} {way : List Int} {w : Str} {c1 c2 : Cell} {acc : List D} (hl : ps.length ≤ 1000) (hn : way.length ≤ 900) (hi : qj ps way) (hp : ∀ p ∈ ps, p.k = .any) (hz : acc.length + (ps.length + 1) ≤ 1000000)
  {R : Rv → En → Prop} (h : R (.dat (.s .non)) [.dat (tbD A dw ps db dn), c1, c2, .dat (zs w), .own (.lst (acc ++ (jax ps w way).map tupI)), .dat (tupI way), .no]) :
  wp (qah 4 (ko [6] (qr (zc 3 (jg A) (uD (fVar 0) (uD (zc 1 (qq A) (uD (fVar 5) uNil)) (uD (fVar 3) uNil))))) (aN 6) fYes (fOp addD (fVar 5) (fTup (jb (fVar 6) vNil))))) R E
   [.dat (tbD A dw ps db dn), c1, c2, .dat (zs w), .own (.lst acc), .dat (tupI way), .no] := by
 walk_at "w"
 refine ⟨⟨by simp, trivial⟩, last_ok ?_⟩
 walk_at "w"
 refine ⟨⟨by simp, trivial⟩, pfor_ok hl hi.1 hi.2 hp ?_⟩
 walk_at "w"
 have hpl := pfor_len ps (lastOf way) w
 rw [PL.yw (pfor ps (lastOf way) w) zi (fun n => tupI (way ++ [n])) (ja (by omega)) fun n m => ?_]
 ·walk_at "w"
  have e : (pfor ps (lastOf way) w).map (fun n => tupI (way ++ [n])) = (jax ps w way).map tupI := by unfold jax; rw [List.map_map]; rfl
  rw [e]
  refine ⟨?_, h⟩
  unfold jax
  rw [List.length_map, List.length_map]
  exact ja (by omega)
 ·walk_at "w"
  refine ⟨by decide, ja (by decide), ?_⟩
  rw [List.length_map]
  exact ⟨ja (by omega), by show D.tup (way.map zi ++ [n].map zi) = _; rw [← List.map_append], by walk_at "fin"⟩
theorem lays_ok {ps : List Pl} {ws : List Str} (hl : ps.length ≤ 1000) (hn : ws.length ≤ 900) (hp : ∀ p ∈ ps, p.k = .any) (hb : ∀ j, j ≤ ws.length → (yi ps (ws.take j)).length * (ps.length + 1) ≤ 900000) (h : Q (.new (.lst ((jac ps ws).map tupI))) [.dat (tbD A dw ps db dn), .dat (.lst (ws.map zs))]) :
  wp (F_lays A) Q E [.dat (tbD A dw ps db dn), .dat (.lst (ws.map zs))] := by
 unfold F_lays b_lays
 walk_at "w"
 refine ⟨ja (by decide), ja (by decide), by decide, ?_⟩
 refine zo (fun i r => ∃ (c3 c4 c5 : Cell), r = [.dat (tbD A dw ps db dn), .dat (.lst (ws.map zs)), .dat (.lst ((yi ps (ws.take i)).map tupI)), c3, c4, c5, .no]) ⟨_, _, _, rfl⟩ (fun i d r hd hI => ?_) (fun r hI => ?_)
 ·obtain ⟨c3, c4, c5, rfl⟩ := hI
  rw [List.getElem?_map] at hd
  obtain ⟨w, hwi, rfl⟩ := Option.map_eq_some_iff.mp hd
  have hi := (List.getElem?_eq_some_iff.mp hwi).1
  have hb' := hb i (by omega)
  walk_at "w"
  refine ⟨by decide, ja (by decide), by decide, ?_⟩
  refine zo (fun j r => ∃ (c5 : Cell), r = [.dat (tbD A dw ps db dn), .dat (.lst (ws.map zs)), .dat (.lst ((yi ps (ws.take i)).map tupI)), .dat (zs w), .own (.lst ((((yi ps (ws.take i)).take j).flatMap (jax ps w)).map tupI)), c5, .no]) ⟨_, rfl⟩ (fun j d r hd hI => ?_) (fun r hI => ?_)
  ·obtain ⟨c5, rfl⟩ := hI
   rw [List.getElem?_map] at hd
   obtain ⟨y, hy, rfl⟩ := Option.map_eq_some_iff.mp hd
   have hyi := wbk y (List.mem_of_getElem? hy)
   have hj := (List.getElem?_eq_some_iff.mp hy).1
   rw [List.length_take] at hyi
   simp only [PL.qbp, List.length_cons, List.length_nil, List.set_cons_succ, List.set_cons_zero, PL.jar]
   refine ⟨by decide, way_one hl (by omega) hyi.1 hp ?_ ?_⟩
   ·have := zar (ps := ps) (w := w) ((yi ps (ws.take i)).take j)
    unfold xf at this
    rw [List.length_map]
    rw [List.length_take] at this
    have h2 : min j (yi ps (ws.take i)).length * (ps.length + 1) ≤ (yi ps (ws.take i)).length * (ps.length + 1) := Nat.mul_le_mul_right _ (by omega)
    omega
   ·rw [PL.ql]
    refine ⟨.dat (tupI y), ?_⟩
    rw [xm hy, List.flatMap_append, List.map_append]
    simp
  ·obtain ⟨c5, rfl⟩ := hI
   rw [List.length_map, List.take_length]
   walk_at "w"
   exact ⟨by decide, _, _, _, by rw [qbl hwi]; rfl⟩
 ·obtain ⟨c3, c4, c5, rfl⟩ := hI
  rw [List.length_map, List.take_length]
  walk_at "w"
  have hbl := hb ws.length (Nat.le_refl _)
  rw [List.take_length] at hbl
  have : (yi ps ws).length ≤ 900000 := Nat.le_trans (Nat.le_mul_of_pos_right _ (by omega)) hbl
  rw [PL.vau (yi ps ws) tupI (fun y => vk ps (lastOf y)) tupI (ja (by omega)) fun y m => ?_]
  ·walk_at "w"
   exact h
  ·have hyi := wbk y m
   walk_at "w"
   refine ⟨by decide, by simp, last_ok ?_⟩
   walk_at "w"
   refine ⟨by simp, close_ok hl hyi.1.1 hyi.1.2 ?_⟩
   walk_at "w"
   refine ⟨by walk_at "fin", ?_⟩
   cases vk ps (lastOf y) with
   | false => walk_at "w"
   | true => walk_at "w"; exact ⟨trivial, trivial⟩
end
abbrev toKv (cs : List (Int × Nat)) : List (Key × D) := cs.map fun c => (.inl c.1, zi (c.2 : Int))
def valC (cs : List (Int × Nat)) (k : Int) : Nat := ((cs.find? fun c => decide (c.1 = k)).map (·.2)).getD 0
theorem get_kv (cs : List (Int × Nat)) (k : Int) : (getK (toKv cs) (.inl k)).getD (zi 0) = zi (valC cs k : Int) := by
 unfold getK valC
 induction cs with
 | nil => rfl
 | cons c cs ih =>
  rw [toKv, List.map_cons, List.find?_cons, List.find?_cons]
  by_cases h : c.1 = k
  ·simp [h]
  ·have h2 : ¬ ((.inl c.1 : Key) = .inl k) := fun z => h (Sum.inl.inj z)
   simp only [h, h2, decide_false]
   exact ih
theorem any_kv (cs : List (Int × Nat)) (k : Int) : ((toKv cs).any fun kv => decide (kv.1 = .inl k)) = cs.any fun c => decide (c.1 = k) := by
 rw [List.any_map]
 congr 1
 funext c
 simp
theorem val_of {cs : List (Int × Nat)} {k : Int} (h : (cs.map (·.1)).Nodup) : ∀ c ∈ cs, c.1 = k → valC cs k = c.2 := fun c m e => by
 unfold valC
 induction cs with
 | nil => cases m
 | cons d cs ih =>
  rw [List.map_cons, List.nodup_cons] at h
  rw [List.find?_cons]
  rcases List.mem_cons.mp m with rfl | m
  ·simp [e]
  ·have : ¬ d.1 = k := fun z => h.1 (by rw [z, ← e]; exact List.mem_map_of_mem m)
   simp only [this, decide_false]
   exact ih h.2 m
theorem val_none {cs : List (Int × Nat)} {k : Int} (h : (cs.any fun c => decide (c.1 = k)) = false) : valC cs k = 0 := by
 unfold valC
 rw [List.find?_eq_none.mpr fun c m => by
  rw [List.any_eq_false] at h
  exact h c m]
 rfl
theorem set_kv {cs : List (Int × Nat)} (k : Int) (m : Nat) (h : (cs.map (·.1)).Nodup) : setK (toKv cs) (.inl k) (zi ((valC cs k : Int) + (m : Int))) = toKv (addC cs k m) := by
 unfold setK addC
 rw [any_kv]
 split
 ·rw [List.map_map, toKv, List.map_map]
  refine List.map_congr_left fun c hc => ?_
  simp only [Function.comp_apply, Sum.inl.injEq]
  split
  ·rename_i e
   rw [val_of h c hc e]
   simp
  ·rfl
 ·rename_i q
  rw [val_none (Bool.eq_false_iff.mpr q)]
  simp [toKv]
theorem items_kv (cs : List (Int × Nat)) : vac (toKv cs) = cs.map fun c => .tup [zi c.1, zi (c.2 : Int)] := by
 unfold vac
 rw [List.map_map]
 rfl
section
variable {A : Ads} {Q : Rv → En → Prop} {QF : Fl → En → Prop} {E : Exn → En → Prop} {dw db dn : D}
theorem put_one {ps : List Pl} {w : Str} {c1 c2 c7 : Cell} {c : Int × Nat} {acc : List (Int × Nat)} (hl : ps.length ≤ 1000) (hk : qi ps.length acc) (hc : -1 ≤ c.1 ∧ c.1 < ps.length) (hp : ∀ p ∈ ps, p.k = .any)
  (h : ∀ c7, QF .next [.dat (tbD A dw ps db dn), c1, c2, .dat (zs w), .own (.dk (toKv (vbo ps w acc c))), .dat (zi c.1), .dat (zi c.2), c7]) :
  wp (sFor (qr (zc 3 (jg A) (uD (fVar 0) (uD (fVar 5) (uD (fVar 3) uNil))))) (aN 7)
   (xay 4 (fKy (fVar 7)) (fOp addD (za0 (fVar 4) (fKy (fVar 7)) (fC (.s (.int 0)))) (fVar 6)))) QF E
   [.dat (tbD A dw ps db dn), c1, c2, .dat (zs w), .own (.dk (toKv acc)), .dat (zi c.1), .dat (zi c.2), c7] := by
 walk_at "w"
 refine ⟨⟨by simp, trivial⟩, pfor_ok hl hc.1 hc.2 hp ?_⟩
 walk_at "w"
 have hall := fun i => vaw (fun _ => 0) (m := c.2) (ns := (pfor ps c.1 w).take i) hk fun k m => by have := wa7 hc.1 hc.2 (List.mem_of_mem_take m); omega
 refine zo (fun i r => ∃ c7, r = [.dat (tbD A dw ps db dn), c1, c2, .dat (zs w), .own (.dk (toKv (kbk c.2 acc ((pfor ps c.1 w).take i)))), .dat (zi c.1), .dat (zi c.2), c7]) ⟨_, rfl⟩ (fun i d r hd hI => ?_) (fun r hI => ?_)
 ·obtain ⟨c7, rfl⟩ := hI
  rw [List.getElem?_map] at hd
  obtain ⟨n, hn, rfl⟩ := Option.map_eq_some_iff.mp hd
  have ha := (hall i).1
  have hlen := keys_len ha
  walk_at "w"
  refine ⟨by decide, ?_⟩
  rw [get_kv]
  walk_at "w"
  rw [List.length_map]
  refine ⟨Nat.lt_of_le_of_lt hlen (by rw [size_eq]; omega), ?_⟩
  rw [set_kv n c.2 ha.1]
  refine ⟨.dat (zi n), ?_⟩
  rw [xm hn]
  unfold kbk
  rw [List.foldl_append]
  rfl
 ·obtain ⟨c7, rfl⟩ := hI
  rw [List.length_map, List.take_length]
  exact h c7
theorem many_ok {ps : List Pl} {ws : List Str} (hl : ps.length ≤ 1000) (hp : ∀ p ∈ ps, p.k = .any) (h : Q (rvI (manyP ps ws : Nat)) [.dat (tbD A dw ps db dn), .dat (.lst (ws.map zs))]) :
  wp (xr A) Q E [.dat (tbD A dw ps db dn), .dat (.lst (ws.map zs))] := by
 unfold xr zaw
 walk_at "w"
 refine ⟨by decide, by decide, ?_⟩
 have hks := fun i => (xat (ps := ps) (ws.take i) (start_ok ps.length)).1
 refine zo (fun i r => ∃ (c3 c5 c6 c7 : Cell), r = [.dat (tbD A dw ps db dn), .dat (.lst (ws.map zs)), .own (.dk (toKv (zae ps (ws.take i)))), c3, .no, c5, c6, c7]) ⟨_, _, _, _, rfl⟩ (fun i d r hd hI => ?_) (fun r hI => ?_)
 ·obtain ⟨c3, c5, c6, c7, rfl⟩ := hI
  rw [List.getElem?_map] at hd
  obtain ⟨w, hwi, rfl⟩ := Option.map_eq_some_iff.mp hd
  have hk : qi ps.length (zae ps (ws.take i)) := hks i
  walk_at "w"
  refine ⟨by decide, by decide, ?_⟩
  rw [items_kv]
  refine zo (fun j r => ∃ (c5 c6 c7 : Cell), r = [.dat (tbD A dw ps db dn), .dat (.lst (ws.map zs)), .dat (.dic (toKv (zae ps (ws.take i)))), .dat (zs w), .own (.dk (toKv (((zae ps (ws.take i)).take j).foldl (vbo ps w) []))), c5, c6, c7]) ⟨_, _, _, rfl⟩ (fun j d r hd hI => ?_) (fun r hI => ?_)
  ·obtain ⟨c5, c6, c7, rfl⟩ := hI
   rw [List.getElem?_map] at hd
   obtain ⟨c, hc, rfl⟩ := Option.map_eq_some_iff.mp hd
   have hcm := hk.2 c.1 (List.mem_map_of_mem (List.mem_of_getElem? hc))
   have hacc : qi ps.length (((zae ps (ws.take i)).take j).foldl (vbo ps w) []) := by
    refine (vbb (ws := []) ⟨by simp, fun k m => by simp at m⟩ ⟨?_, fun k m => ?_⟩).1
    ·have := hk.1
     rw [List.map_take]
     exact List.Nodup.sublist (List.take_sublist _ _) this
    ·rw [List.map_take] at m
     exact hk.2 k (List.mem_of_mem_take m)
   simp only [PL.vbk, PL.zaf, PL.yaw, PL.qbp, List.length_cons, List.length_nil, List.set_cons_succ, List.set_cons_zero]
   refine ⟨by decide, by decide, by decide, put_one hl hacc hcm hp fun c7 => ?_⟩
   rw [PL.ql]
   refine ⟨.dat (zi c.1), .dat (zi c.2), c7, ?_⟩
   rw [xm hc, List.foldl_append]
   rfl
  ·obtain ⟨c5, c6, c7, rfl⟩ := hI
   rw [List.length_map, List.take_length]
   walk_at "w"
   refine ⟨⟨by decide, by decide⟩, ?_⟩
   refine ⟨.dat (zs w), c5, c6, c7, ?_⟩
   have e : zae ps (ws.take (i + 1)) = (zae ps (ws.take i)).foldl (vbo ps w) [] := by
    unfold zae
    rw [xm hwi, List.foldl_append]
    rfl
   rw [e]
 ·obtain ⟨c3, c5, c6, c7, rfl⟩ := hI
  rw [List.length_map, List.take_length]
  have hk : qi ps.length (zae ps ws) := by
   have := hks ws.length
   rw [List.take_length] at this
   exact this
  have hlen := keys_len hk
  walk_at "w"
  rw [items_kv]
  rw [PL.vau (zae ps ws) (fun c => .tup [zi c.1, zi (c.2 : Int)]) (fun c => vk ps c.1) (fun c => zi (c.2 : Int)) (ja (by omega)) fun c m => ?_]
  ·walk_at "w"
   rw [PL.sum_map]
   walk_at "w"
   have e : (((zae ps ws).filter fun c => vk ps c.1).map fun x => (x.2 : Int)).sum = (manyP ps ws : Int) := by
    unfold manyP
    generalize (zae ps ws).filter (fun c => vk ps c.1) = l
    induction l with
    | nil => rfl
    | cons c l ih => rw [List.map_cons, List.sum_cons, ih, List.map_cons, List.sum_cons]; omega
   rw [e]
   exact h
  ·have hcm := hk.2 c.1 (List.mem_map_of_mem m)
   walk_at "w"
   refine ⟨by decide, by decide, by decide, by simp, close_ok hl hcm.1 hcm.2 ?_⟩
   walk_at "w"
   refine ⟨by walk_at "fin", ?_⟩
   cases vk ps c.1 with
   | false => walk_at "w"
   | true => walk_at "w"; exact ⟨trivial, trivial⟩
end
section
variable {A : Ads} {Q : Rv → En → Prop} {QF : Fl → En → Prop} {E : Exn → En → Prop} {dw db dn : D}
theorem letters_ok {z : Str} {a b : Int} (hk : okS z) (hl : z.length ≤ 200) (h : Q (rvB ((decide (a ≤ (z.length : Int)) && decide ((z.length : Int) ≤ b)) && kh lettersS z)) [.dat (zs z), .dat (zi a), .dat (zi b)]) : wp (vh A) Q E [.dat (zs z), .dat (zi a), .dat (zi b)] := by
 unfold vh qaf
 walk_at "w"
 refine ⟨ja (by omega), ?_⟩
 by_cases c1 : a ≤ (z.length : Int)
 ·rw [if_pos c1]
  rw [decide_eq_true c1] at h
  by_cases c2 : (z.length : Int) ≤ b
  ·rw [if_pos c2]
   rw [decide_eq_true c2] at h
   refine ⟨ja (by omega), ?_⟩
   rw [qbo (okS_strip _ hk) okS_empty, strip_none]
   walk_at "w"
   exact h
  ·rw [if_neg c2]
   rw [decide_eq_false c2] at h
   exact h
 ·rw [if_neg c1]
  rw [decide_eq_false c1] at h
  exact h
def nameOk (z : Str) : Prop := (2 ≤ z.length ∧ z.length ≤ 8) ∧ kh lettersS z = true
def okPl (p : Pl) : Prop := nameOk p.name ∧ p.k = .any
theorem kd_isi {k : Kd} : isiD A.K A.cs [k.obj A, .s (.ref A.c_Kind)] = some (rvB true) := vj
theorem of_in (o : Of) : inW o.s ["one", "maybe", "some", "any"] = true := by cases o <;> decide +kernel
theorem named_ok {d : D} {name : Str} {names : List Str} (hd : ∀ R : Rv → Prop, R (.dat (zs name)) → wpO (fldD (ki A) "name" d) R) (hn : nameOk name) (h : Q (rvB (!inW name names)) [.dat d, .dat (.lst (names.map zs))]) : wp (jq A) Q E [.dat d, .dat (.lst (names.map zs))] := by
 obtain ⟨⟨h1, h2⟩, h3⟩ := hn
 unfold jq qa2
 walk_at "w"
 refine hd _ ?_
 walk_at "w"
 refine ⟨⟨by simp, trivial⟩, letters_ok (jbn h3) (by omega) ?_⟩
 walk_at "w"
 rw [decide_eq_true (show (2 : Int) ≤ (name.length : Int) by omega), decide_eq_true (show (name.length : Int) ≤ 8 by omega), h3]
 walk_at "w"
 refine hd _ ?_
 walk_at "w"
 rw [notIn_lst]
 walk_at "w"
 exact h
theorem place_ok {p : Pl} {names : List Str} (hp : okPl p) (hn : p.name ∉ names) (h : Q (rvB true) [.dat (p.obj A), .dat (.lst (names.map zs))]) : wp (wz A) Q E [.dat (p.obj A), .dat (.lst (names.map zs))] := by
 unfold wz wa1 Pl.obj
 walk_at "w"
 refine ⟨by simp, named_ok (name := p.name) (fun R h => ?_) hp.1 ?_⟩
 ·walk_at "w"; exact h
 walk_at "w"
 rw [show inW p.name names = false from by rw [Bool.eq_false_iff]; exact fun z => hn (inW_iff.mp z)]
 walk_at "w"
 rw [kd_isi]
 walk_at "w"
 rw [show ([zs "one", zs "maybe", zs "some", zs "any"] : List D) = (["one", "maybe", "some", "any"] : List Str).map zs from rfl, in_tup, of_in]
 walk_at "w"
 exact h
theorem npGo_all {G : D → List D → Option Bool} {most : Int} {ds : List D} : ∀ n, n ≤ ds.length → (∀ (i : Nat) (d : D), i < n → ds[i]? = some d → (i : Int) ≠ most ∧ G d (ds.take i) = some true) → npGo G most ds n = some true
 | 0, _, _ => rfl
 | n + 1, hl, h => by
  unfold npGo
  rw [npGo_all n (by omega) fun i d hi hd => h i d (by omega) hd]
  have hg := List.getElem?_eq_getElem (show n < ds.length by omega)
  have := h n _ (by omega) hg
  dsimp only
  rw [if_neg this.1, hg]
  dsimp only
  rw [this.2]
theorem zan {G : D → List D → Option Bool} {p : Str} {most : Int} {ds : List D} (h : ∀ (i : Nat) (d : D), ds[i]? = some d → (i : Int) ≠ most ∧ G d (ds.take i) = some true) : npOk G [.s (.str p), .tup ds, .s (.int most)] = some none := by
 show (match npGo G most ds ds.length with | some true => some none | _ => none) = _
 rw [npGo_all ds.length (Nat.le_refl _) fun i d _ hd => h i d hd]
theorem boolF_of {F : PL.P Rv} {cs : List Cell} {b : Bool} (h : wp F (fun v _ => v = rvB b) EF cs) : kax F cs = some b := by
 obtain ⟨a, r, h1, rfl⟩ := yax h
 unfold kax
 rw [h1]
theorem places_np {ps : List Pl} {nm : List Str} (hl : ps.length ≤ 4) (hnl : nm.length ≤ 1000) (hk : ∀ p ∈ ps, okPl p) (hn : (nm ++ ps.map (·.name)).Nodup) : wd A (.lst (nm.map zs)) [zs "places", plD A ps, zi 4] = some none := by
 unfold wd
 refine zan fun i d hd => ?_
 rw [List.getElem?_map] at hd
 obtain ⟨p, hp, rfl⟩ := Option.map_eq_some_iff.mp hd
 have hi := (List.getElem?_eq_some_iff.mp hp).1
 refine ⟨by omega, boolF_of ?_⟩
 unfold yo
 walk_at "w"
 rw [← List.map_take]
 rw [PL.yw (ps.take i) (Pl.obj A) (fun p => zs p.name) (ja (by rw [List.length_take]; omega)) fun p m => ?_]
 ·walk_at "w"
  have e : nm.map zs ++ (ps.take i).map (fun p => zs p.name) = (nm ++ (ps.take i).map (·.name)).map zs := by rw [List.map_append, List.map_map]; rfl
  rw [e]
  refine ⟨?_, by simp, place_ok (hk p (List.mem_of_getElem? hp)) (fun m => ?_) ?_⟩
  ·rw [List.length_map, List.length_map, List.length_take]
   exact ja (by have : min i ps.length ≤ ps.length := Nat.min_le_right _ _; omega)
  ·have h1 := xm hp
   have h2 : ((nm ++ ((ps.take (i + 1)).map (·.name)))).Nodup := List.Nodup.sublist (List.Sublist.append_left (List.Sublist.map _ (List.take_sublist _ _)) _) hn
   rw [h1, List.map_append, ← List.append_assoc, List.nodup_append] at h2
   exact h2.2.2 _ m _ (by simp) rfl
  ·walk_at "w"
 ·unfold Pl.obj
  walk_at "w"
  exact ⟨by decide, by walk_at "fin", by walk_at "fin"⟩
theorem wishes0_np : qm A [zs "wishes", .tup [], zi 5] = some none := by
 unfold qm
 exact zan fun i d hd => by simp at hd
theorem bars0_np {d : D} : qf A d [zs "bars", .tup [], zi 4] = some none := by
 unfold qf
 exact zan fun i d hd => by simp at hd
theorem needs0_np {d : D} : we A d [zs "needs", .tup [], zi 4] = some none := by
 unfold we
 exact zan fun i d hd => by simp at hd
theorem tab0_ok {ps : List Pl} (hl : ps.length ≤ 4) (hk : ∀ p ∈ ps, okPl p) (hn : (ps.map (·.name)).Nodup) (h : ∀ r, Q (.dat (.s .non)) (.own (.ob A.c_Table [("wishes", .tup []), ("places", plD A ps), ("bars", .tup []), ("needs", .tup [])]) :: r)) :
  wp (jo A) Q E [.own (.ob A.c_Table []), .dat (.tup []), .dat (plD A ps), .dat (.tup []), .dat (.tup [])] := by
 unfold jo kaj
 walk_at "w"
 rw [wishes0_np]
 walk_at "w"
 rw [show ∀ (ρ : En), vt [6] (aN 6) fYes (fUn (fldD (ki A) "name") (fVar 6)) [] [] ρ = some ([], ρ) from fun _ => rfl]
 walk_at "w"
 refine ⟨by decide, ?_⟩
 rw [show wd A (.lst []) [zs "places", plD A ps, zi 4] = some none from places_np (nm := []) hl (by decide) hk hn]
 walk_at "w"
 rw [bars0_np]
 walk_at "w"
 rw [needs0_np]
 walk_at "w"
 exact ⟨⟨trivial, by decide⟩, ⟨trivial, by decide⟩, ⟨trivial, by decide⟩, ⟨trivial, by decide⟩, by decide, h _⟩
end
def Dr (δ : M) : Prop := ∃ c n : Int, δ = .lst [zi c, zi n]
section
variable {A : Ads} {Q : Rv → En → Prop} {E : Exn → En → Prop}
theorem ja9 {c k : Int} (h : Q (rvI (mixedZ c k)) [.dat (zi c), .dat (zi k)]) : wp (vx A) Q E [.dat (zi c), .dat (zi k)] := by
 unfold vx qbk
 walk_at "w"
 have h1 : (0 : Int) ≤ (c + 7919 * k + 11) * 48271 % 2147483647 := Int.emod_nonneg _ (by decide)
 have h2 : (c + 7919 * k + 11) * 48271 % 2147483647 < 2147483647 := Int.emod_lt_of_pos _ (by decide)
 exact ⟨qa9 (by decide), mulIB_r (by decide), by decide, by decide, qa9 (by omega), qa9 (by decide), by decide, h⟩
theorem yg {δ : M} (hδ : Dr δ) {size : Int} (h0 : 0 < size ∧ size ≤ 1000000) (h : ∀ r δ, 0 ≤ r → r < size → Dr δ → Q (rvI r) [.own δ, .dat (zi size)]) : wp (qc A) Q E [.own δ, .dat (zi size)] := by
 obtain ⟨c, n, rfl⟩ := hδ
 obtain ⟨h0, h9⟩ := h0
 unfold qc b_l_next
 walk_at "w"
 refine ⟨⟨by decide, by decide⟩, ja9 ?_⟩
 walk_at "w"
 exact ⟨by decide, h0, by decide, h _ _ (Int.emod_nonneg _ (by omega)) (Int.emod_lt_of_pos _ h0) ⟨_, _, rfl⟩⟩
end
structure Lt (z : Str) : Prop where
 a : kh lettersS z = true
 l0 : 1 ≤ z.length
 l1 : z.length ≤ 6
structure PoolOk (ws : List Str) : Prop where
 len : ws.length = 12
 good : ∀ w ∈ ws, goodW w = true
 p0 : ∃ z, ws[0]? = some z ∧ Lt z
 p1 : ∃ z, ws[1]? = some z ∧ Lt z
 p2 : ∃ z, ws[2]? = some z ∧ Lt z
 p3 : ∃ (z : Str) (n : Int), ws[3]? = some z ∧ 0 ≤ n ∧ n ≤ 9999 ∧ intD [zs z] = some (rvI n)
theorem qg {z a b : Str} : kh z (a ++ b) = (kh z a && kh z b) := by
 unfold kh
 rw [show (a ++ b).cps.toList = a.cps.toList ++ b.cps.toList from Array.toList_append, List.all_append]
theorem jaf {y z w : Str} (h : ∀ c, inS y c = true → inS z c = true) (k : kh y w = true) : kh z w = true := List.all_eq_true.mpr fun c m => h c (List.all_eq_true.mp k c m)
theorem wa9 : ∀ c, inS lettersS c = true → inS signsS c = true := fun c h => by
 have : ∀ c ∈ lettersS.cps.toList, inS signsS c = true := by decide +kernel
 exact this c (in_mem h)
theorem fig_sign : ∀ c, inS figsS c = true → inS signsS c = true := fun c h => by
 have : ∀ c ∈ figsS.cps.toList, inS signsS c = true := by decide +kernel
 exact this c (in_mem h)
theorem xo {w : Str} (h1 : 1 ≤ w.length) (h2 : w.length ≤ 60) (h : kh signsS w = true) : goodW w = true := good_iff.mpr ⟨⟨h1, h2⟩, h⟩
theorem num_txt {n : Nat} (h : n < 100000) : ∃ z, strD [zi (n : Int)] = some (rvS z) ∧ kh figsS z = true ∧ 1 ≤ z.length ∧ z.length ≤ 5 ∧ intD [zs z] = some (rvI n) := by
 have e : (Str.ofString (toString ((n : Nat) : Int))).cps.toList = TL.numL n := TL.tl_num n
 have hl : (Str.ofString (toString ((n : Nat) : Int))).length ≤ 5 := by
  rw [← len_list, e]
  exact TL.numL_len (by decide) (by omega)
 have hne : (Str.ofString (toString ((n : Nat) : Int))).cps.toList ≠ [] := by rw [e]; exact TL.numL_ne n
 refine ⟨Str.ofString (toString ((n : Nat) : Int)), ?_, ?_, ?_, hl, ?_⟩
 ·show (if ((n : Int)).natAbs.log2 < 1920 then some (rvS (toString (n : Int))) else none) = _
  rw [if_pos]
  rw [Int.natAbs_natCast]
  rcases Nat.eq_zero_or_pos n with rfl | hp
  ·decide
  ·exact Nat.lt_trans ((Nat.log2_lt (k := 17) (by omega)).mpr (by omega)) (by decide)
 ·refine List.all_eq_true.mpr fun c m => in_of (fig_in ?_)
  rw [e] at m
  have := TL.numL_digits n c m
  omega
 ·rw [← len_list]
  exact List.length_pos_iff.mpr hne
 ·rw [int_figs (fun c m => by rw [e] at m; have := TL.numL_digits n c m; omega) hne (by omega), e, TL.numL_val]
theorem dash_sign : kh signsS "-" = true ∧ kh signsS "--" = true ∧ kh signsS "=" = true ∧ kh signsS "0" = true ∧ ("-" : Str).length = 1 ∧ ("--" : Str).length = 2 ∧ ("=" : Str).length = 1 ∧ ("0" : Str).length = 1 := by decide +kernel
section
variable {A : Ads} {Q : Rv → En → Prop} {QF : Fl → En → Prop} {E : Exn → En → Prop}
theorem vbh {r : Int} {R : Nat → Prop} (h0 : 0 ≤ r) (h1 : r < 26) (h : ∀ c, Lt ⟨#[c]⟩ → (⟨#[c]⟩ : Str).length = 1 → R c) : wpO (atI (Str.ofString "abcdefghijklmnopqrstuvwxyz").cps.toList r) R := by
 refine jbk h0 (by rw [show (Str.ofString "abcdefghijklmnopqrstuvwxyz").cps.toList.length = 26 from by decide +kernel]; exact h1) fun c m => h _ ⟨?_, ?_, ?_⟩ rfl
 ·show List.all [c] (inS lettersS) = true
  rw [List.all_cons, List.all_nil, Bool.and_true]
  exact in_of m
 ·show 1 ≤ 1; decide
 ·show 1 ≤ 6; decide
theorem pool_ok {δ : M} (hδ : Dr δ) (h : ∀ ws δ, Dr δ → PoolOk ws → Q (.new (.lst (ws.map zs))) [.own δ]) : wp (yaq A) Q E [.own δ] := by
 unfold yaq b_l_pool
 have hL : (Str.ofString "abcdefghijklmnopqrstuvwxyz").length ≤ sizeLine := by
  rw [show (Str.ofString "abcdefghijklmnopqrstuvwxyz").length = 26 from by decide +kernel]
  exact ja (by decide)
 walk_at "w"
 refine ⟨by decide, ⟨by decide, trivial⟩, yg hδ (by decide) fun r1 δ a1 b1 hδ => ?_⟩
 walk_at "w"
 refine ⟨hL, vbh a1 b1 fun x0 hx lx => ?_⟩
 generalize (⟨#[x0]⟩ : Str) = x at *
 walk_at "w"
 refine ⟨by decide, ⟨by decide, trivial⟩, yg hδ (by decide) fun r2 δ a2 b2 hδ => ?_⟩
 walk_at "w"
 refine ⟨hL, vbh a2 b2 fun y0 hy ly => ?_⟩
 generalize (⟨#[y0]⟩ : Str) = y at *
 walk_at "w"
 refine ⟨by decide, ⟨by decide, trivial⟩, yg hδ (by decide) fun r3 δ a3 b3 hδ => ?_⟩
 walk_at "w"
 refine ⟨⟨by decide, trivial⟩, yg hδ (by decide) fun r4 δ a4 b4 hδ => ?_⟩
 walk_at "w"
 refine ⟨ja (by decide), ⟨by decide, trivial⟩, yg hδ (by decide) fun r5 δ a5 b5 hδ => ?_⟩
 walk_at "w"
 refine jbk a5 (by exact b5) fun d hd => ?_
 obtain ⟨m, rfl, hm⟩ : ∃ m : Nat, d = zi m ∧ m < 10000 := by
  simp only [List.mem_cons, List.not_mem_nil, or_false] at hd
  rcases hd with rfl | rfl
  ·exact ⟨r3.toNat, by rw [Int.toNat_of_nonneg a3], by omega⟩
  ·exact ⟨r4.toNat, by rw [Int.toNat_of_nonneg a4], by omega⟩
 obtain ⟨z, e1, f1, f2, f3, f4⟩ := num_txt (n := m) (by omega)
 obtain ⟨z2, e2, g1, g2, g3, g4⟩ := num_txt (n := m + 1) (by omega)
 have e2 : strD [D.s (.int ((m : Int) + 1))] = some (rvS z2) := e2
 walk_at "w"
 rw [e1]
 walk_at "w"
 rw [e2]
 walk_at "w"
 rw [e1]
 walk_at "w"
 rw [e1]
 walk_at "w"
 obtain ⟨d1, d2, d3, d4, d5, d6, d7, d8⟩ := dash_sign
 have d5 : (Str.ofString "-").length = 1 := d5
 have d6 : (Str.ofString "--").length = 2 := d6
 have d8 : (Str.ofString "0").length = 1 := d8
 have sx := jaf wa9 hx.a
 have sy := jaf wa9 hy.a
 have sz := jaf fig_sign f1
 have sz2 := jaf fig_sign g1
 have gx : goodW x = true := xo (by omega) (by omega) sx
 have gxy : goodW (x ++ y) = true := xo (by rw [len_app]; omega) (by rw [len_app]; omega) (by rw [qg, sx, sy]; rfl)
 have gxx : goodW (x ++ x) = true := xo (by rw [len_app]; omega) (by rw [len_app]; omega) (by rw [qg, sx]; rfl)
 have gz : goodW z = true := xo (by omega) (by omega) sz
 have g0 : goodW "0" = true := by decide +kernel
 have gz2 : goodW z2 = true := xo (by omega) (by omega) sz2
 have gxz : goodW (x ++ z) = true := xo (by rw [len_app]; omega) (by rw [len_app]; omega) (by rw [qg, sx, sz]; rfl)
 have gmx : goodW ("-" ++ x) = true := xo (by rw [len_app]; omega) (by rw [len_app]; omega) (by rw [qg, d1, sx]; rfl)
 have gmm : goodW ("--" ++ x ++ y) = true := xo (by rw [len_app, len_app]; omega) (by rw [len_app, len_app]; omega) (by rw [qg, qg, d2, sx, sy]; rfl)
 have ge : goodW "=" = true := by decide +kernel
 have g0z : goodW ("0" ++ z) = true := xo (by rw [len_app]; omega) (by rw [len_app]; omega) (by rw [qg, d4, sz]; rfl)
 have gyx : goodW (y ++ x ++ x) = true := xo (by rw [len_app, len_app]; omega) (by rw [len_app, len_app]; omega) (by rw [qg, qg, sy, sx]; rfl)
 have hP : PoolOk [x, x ++ y, x ++ x, z, "0", z2, x ++ z, "-" ++ x, "--" ++ x ++ y, "=", "0" ++ z, y ++ x ++ x] :=
  ⟨rfl, all_cons gx (all_cons gxy (all_cons gxx (all_cons gz (all_cons g0 (all_cons gz2 (all_cons gxz (all_cons gmx (all_cons gmm (all_cons ge (all_cons g0z (all_cons gyx all_nil))))))))))),
   ⟨x, rfl, hx⟩, ⟨x ++ y, rfl, ⟨by rw [qg, hx.a, hy.a]; rfl, by rw [len_app]; omega, by rw [len_app]; omega⟩⟩, ⟨x ++ x, rfl, ⟨by rw [qg, hx.a]; rfl, by rw [len_app]; omega, by rw [len_app]; omega⟩⟩, ⟨z, m, rfl, by omega, by omega, f4⟩⟩
 refine ⟨by decide, ja ?_, ja ?_, ja ?_, ja ?_, ja ?_, by decide, ja ?_, ja ?_, ja ?_, ja ?_, ja ?_, ja ?_, ja ?_, by decide, h _ _ hδ hP⟩ <;> (try rw [len_app]) <;> omega
end
abbrev sgn (c : Nat) : Str := ⟨#[c]⟩
abbrev letL : List Nat := lettersS.cps.toList
theorem qao : letL.length = 26 := by decide +kernel
theorem letL_inj : ∀ i < 26, ∀ j < 26, letL[i]? = letL[j]? → i = j := by decide +kernel
theorem sum_len (bs : List Nat) : ((bs.map sgn).map (·.length)).sum = bs.length := by
 induction bs with
 | nil => rfl
 | cons b bs ih => rw [List.map_cons, List.map_cons, List.sum_cons, ih, List.length_cons]; show 1 + _ = _; omega
def nameAt (size place : Nat) (t : Nat) (z : Str) : Prop := z.length = size ∧ kh lettersS z = true ∧ z.cps.toList[place]? = letL[t % 26]?
section
variable {A : Ads} {Q : Rv → En → Prop} {QF : Fl → En → Prop} {E : Exn → En → Prop}
theorem base_ok {δ : M} (hδ : Dr δ) {size : Nat} {rest : En} (hs : size ≤ 100) (hr : ∃ c3 c4 c5 c6 c7, rest = [.dat (zs "abcdefghijklmnopqrstuvwxyz"), c3, c4, c5, c6, c7, .no]) {t : Cell} :
  ∃ (bs : List Nat) (δ' : M), vt [8] (aN 8) fYes (fOp ixD (fVar 2) (zc 2 (qc A) (uM 0 (uD (fC (.s (.int 26))) uNil)))) (rngD 0 size) [] (.own δ :: t :: rest) = some (bs.map fun c => zs (sgn c), .own δ' :: t :: rest) ∧ Dr δ' ∧ bs.length = size ∧ ∀ b ∈ bs, b ∈ letL := by
 obtain ⟨c3, c4, c5, c6, c7, rfl⟩ := hr
 obtain ⟨acc, r, h1, h2⟩ := PL.kau (vs := [8]) (a := aN 8) (tests := fYes) (elt := fOp ixD (fVar 2) (zc 2 (qc A) (uM 0 (uD (fC (.s (.int 26))) uNil)))) (ds := rngD 0 size) (acc0 := []) (ρ := .own δ :: t :: [.dat (zs "abcdefghijklmnopqrstuvwxyz"), c3, c4, c5, c6, c7, .no])
  (fun i acc r => ∃ (bs : List Nat) (δ : M), acc = bs.map (fun c => zs (sgn c)) ∧ r = .own δ :: t :: [.dat (zs "abcdefghijklmnopqrstuvwxyz"), c3, c4, c5, c6, c7, .no] ∧ Dr δ ∧ bs.length = i ∧ ∀ b ∈ bs, b ∈ letL) ⟨[], δ, rfl, rfl, hδ, rfl, fun b m => by cases m⟩ (fun i d acc r hd hI => by
   obtain ⟨bs, δ, rfl, rfl, hδ, hb, hl⟩ := hI
   have hi := (List.getElem?_eq_some_iff.mp hd).1
   rw [wk] at hi
   walk_at "w"
   refine ⟨by decide, ?_⟩
   show wp (P.ret true) _ EF _
   rw [PL.qk]
   walk_at "w"
   refine ⟨⟨by decide, trivial⟩, yg hδ (by decide) fun r1 δ a1 b1 hδ => ?_⟩
   walk_at "w"
   refine ⟨?_, jbk a1 (by rw [show (Str.ofString "abcdefghijklmnopqrstuvwxyz").cps.toList.length = 26 from by decide +kernel]; exact b1) fun x hx => ⟨?_, bs ++ [x], δ, ?_, rfl, hδ, ?_, ?_⟩⟩
   ·rw [show (Str.ofString "abcdefghijklmnopqrstuvwxyz").length = 26 from by decide +kernel]; exact ja (by decide)
   ·rw [List.length_map, hb, size_eq]; omega
   ·rw [List.map_append]; rfl
   ·rw [List.length_append, hb]; rfl
   ·intro b hb2
    rcases List.mem_append.mp hb2 with q | q
    ·exact hl b q
    ·rw [List.mem_singleton.mp q]; exact hx)
 obtain ⟨bs, δ', rfl, rfl, hδ', hb, hl⟩ := h2
 rw [wk] at hb
 exact ⟨bs, δ', h1, hδ', hb, hl⟩
theorem titles_ok {δ : M} (hδ : Dr δ) {k : Nat} (hk : k ≤ 20) (h : ∀ (ns : List Str) (δ : M), Dr δ → ns.length = k → (∀ z ∈ ns, nameOk z) → ns.Nodup → Q (.new (.lst (ns.map zs))) [.own δ, .dat (zi k)]) : wp (yz A) Q E [.own δ, .dat (zi k)] := by
 unfold yz va1
 walk_at "w"
 refine ⟨by decide, ⟨by decide, trivial⟩, yg hδ (by decide) fun r1 δ a1 b1 hδ => ?_⟩
 walk_at "w"
 obtain ⟨s, hs⟩ := Int.eq_ofNat_of_zero_le (show 0 ≤ 2 + r1 by omega)
 rw [hs]
 refine ⟨by decide, ⟨by decide, trivial⟩, yg hδ (by omega) fun r2 δ a2 b2 hδ => ?_⟩
 walk_at "w"
 obtain ⟨p, rfl⟩ := Int.eq_ofNat_of_zero_le a2
 refine ⟨by decide, jm (by omega) (by omega), ?_⟩
 rw [Int.toNat_natCast]
 obtain ⟨bs, δ2, e1, hδ2, hb, hl⟩ := base_ok (A := A) (δ := δ) hδ (size := s) (t := .dat (zi k)) (rest := [.dat (zs "abcdefghijklmnopqrstuvwxyz"), .dat (zi s), .dat (zi p), .no, .no, .no, .no]) (by omega) ⟨_, _, _, _, _, rfl⟩
 rw [show [Cell.own δ, Cell.dat (zi k), Cell.dat (D.s (V.str (Str.ofString "abcdefghijklmnopqrstuvwxyz"))), Cell.dat (D.s (V.int (s : Int))), Cell.dat (D.s (V.int (p : Int))), Cell.no, Cell.no, Cell.no, Cell.no] = .own δ :: .dat (zi k) :: [.dat (zs "abcdefghijklmnopqrstuvwxyz"), .dat (zi s), .dat (zi p), .no, .no, .no, .no] from rfl, e1]
 walk_at "w"
 refine ⟨by decide, ⟨by decide, trivial⟩, yg hδ2 (by decide) fun r3 δ a3 b3 hδ => ?_⟩
 obtain ⟨sh, rfl⟩ := Int.eq_ofNat_of_zero_le a3
 walk_at "w"
 refine ⟨by decide, ja (by decide), by decide, jm (by omega) (by omega), ?_⟩
 rw [Int.toNat_natCast]
 have hL : (Str.ofString "abcdefghijklmnopqrstuvwxyz").length ≤ sizeLine := by rw [show (Str.ofString "abcdefghijklmnopqrstuvwxyz").length = 26 from by decide +kernel]; exact ja (by decide)
 refine zo (fun i r => ∃ (bs : List Nat) (ns : List Str) (c8 : Cell), r = [.own δ, .dat (zi k), .dat (zs "abcdefghijklmnopqrstuvwxyz"), .dat (zi s), .dat (zi p), .own (.lst (bs.map fun c => zs (sgn c))), .dat (zi sh), .own (.lst (ns.map zs)), c8] ∧
  bs.length = s ∧ (∀ b ∈ bs, b ∈ letL) ∧ ns.length = i ∧ ∀ (j : Nat) (z : Str), ns[j]? = some z → nameAt s p (sh + 5 * j) z) ⟨bs, [], _, rfl, hb, hl, rfl, fun j z q => by simp at q⟩ (fun i d r hd hI => ?_) (fun r hI => ?_)
 ·obtain ⟨bs, ns, c8, rfl, hb, hl, hn, hz⟩ := hI
  obtain ⟨hi, rfl⟩ := waa hd
  have hidx : ((sh : Int) + 5 * (0 + (i : Int))) % 26 = ((sh + 5 * i) % 26 : Nat) := by omega
  have hlt : (sh + 5 * i) % 26 < 26 := Nat.mod_lt _ (by decide)
  clear hd h
  walk_at "w"
  rw [hidx, yaj (by omega), Int.toNat_natCast, show (Str.ofString "abcdefghijklmnopqrstuvwxyz").cps.toList = letL from rfl, List.getElem?_eq_getElem (by rw [qao]; exact hlt)]
  have hmem : letL[(sh + 5 * i) % 26]'(by rw [qao]; exact hlt) ∈ letL := List.getElem_mem _
  have hget : letL[(sh + 5 * i) % 26]? = some (letL[(sh + 5 * i) % 26]'(by rw [qao]; exact hlt)) := List.getElem?_eq_getElem _
  generalize letL[(sh + 5 * i) % 26]'(by rw [qao]; exact hlt) = x at *
  walk_at "w"
  rw [Int.toNat_natCast, List.length_map, hb]
  refine ⟨by decide, qa9 (by decide), by decide, hL, ⟨by omega, by omega, by omega⟩, ?_⟩
  have hset : (bs.map fun c => zs (sgn c)).set p (D.s (V.str { cps := #[x] })) = (bs.set p x).map (fun c => zs (sgn c)) := List.map_set.symm
  rw [hset]
  have hl2 : ∀ b ∈ bs.set p x, b ∈ letL := fun b m => by
   rcases List.mem_or_eq_of_mem_set m with q | q
   ·exact hl b q
   ·rw [q]; exact hmem
  have hb2 : (bs.set p x).length = s := by rw [List.length_set]; exact hb
  have hgp : (bs.set p x)[p]? = some x := by rw [List.getElem?_set_self (by omega)]
  generalize bs.set p x = b2 at *
  rw [show (b2.map fun c => zs (sgn c)) = (b2.map sgn).map (fun y => D.s (.str y)) by rw [List.map_map]; rfl, join_lst]
  walk_at "w"
  have hj : (Txt.join "" (b2.map sgn)).cps.toList = b2 := join_signs b2
  rw [sum_len, List.length_map, List.length_map, hn, show ("" : Str).length = 0 from rfl]
  refine ⟨by omega, Nat.lt_of_le_of_lt (show i ≤ 20 by omega) (by rw [size_eq]; decide), b2, ns ++ [Txt.join "" (b2.map sgn)], .dat (zi (0 + (i : Int))), ?_, hb2, hl2, by rw [List.length_append, hn]; rfl, fun j z q => ?_⟩
  ·rw [List.map_append, List.map_map]; rfl
  ·rcases snoc_get q with ⟨hj2, q⟩ | ⟨rfl, rfl⟩
   ·exact hz j z q
   ·refine ⟨?_, ?_, ?_⟩
    ·rw [← len_list, hj, hb2]
    ·unfold kh; rw [hj]; exact List.all_eq_true.mpr fun a m => in_of (hl2 a m)
    ·rw [hj, hgp, hn, hget]
 ·obtain ⟨bs, ns, c8, rfl, hb, hl, hn, hz⟩ := hI
  rw [wk] at hn
  walk_at "w"
  refine ⟨by decide, by decide, h ns _ hδ hn (fun z m => ?_) ?_⟩
  ·obtain ⟨j, hj⟩ := List.getElem?_of_mem m
   obtain ⟨h1, h2, _⟩ := hz j z hj
   exact ⟨⟨by omega, by omega⟩, h2⟩
  ·unfold List.Nodup
   rw [List.pairwise_iff_getElem]
   intro i j hi hj hij e
   obtain ⟨_, _, h1⟩ := hz i _ (List.getElem?_eq_getElem hi)
   obtain ⟨_, _, h2⟩ := hz j _ (List.getElem?_eq_getElem hj)
   rw [e, h2] at h1
   have := letL_inj _ (Nat.mod_lt _ (by decide)) _ (Nat.mod_lt _ (by decide)) h1
   omega
end
section
variable {A : Ads} {Q : Rv → En → Prop} {QF : Fl → En → Prop} {E : Exn → En → Prop}
theorem cell_ok {ns : List Int} {k : Nat} (h : ∀ c, Q (rvI c) [.dat (.ro (ns.map zi)), .dat (zi k)]) : wp (kr A) Q E [.dat (.ro (ns.map zi)), .dat (zi k)] := by
 unfold kr xaw
 walk_at "w"
 refine ⟨by decide, ?_⟩
 simp only [List.length_map]
 by_cases c : k < ns.length
 ·rw [if_pos (by omega)]
  rw [yaj (by omega)]
  have e : (ns.map zi)[((k : Nat) : Int).toNat]? = some (zi ns[k]) := by
   rw [Int.toNat_natCast, List.getElem?_map, List.getElem?_eq_getElem c]; rfl
  rw [e]
  walk_at "w"
  refine ⟨by decide, ⟨by decide, trivial⟩, ja9 ?_⟩
  walk_at "w"
  exact h _
 ·rw [if_neg (by omega)]
  refine ⟨⟨by decide, trivial⟩, ja9 ?_⟩
  walk_at "w"
  exact h _
end
theorem zipD_zip : ∀ (xs ys : List Nat), zipD (xs.map fun (n : Nat) => zi (n : Int)) (ys.map fun (n : Nat) => zi (n : Int)) = (xs.zip ys).map fun p => D.tup [zi (p.1 : Nat), zi (p.2 : Nat)]
 | [], ys => by cases ys <;> rfl
 | x :: xs, [] => rfl
 | x :: xs, y :: ys => by
  rw [List.map_cons, List.map_cons, List.zip_cons_cons, List.map_cons, ← zipD_zip xs ys]
  rfl
section
variable {A : Ads} {Q : Rv → En → Prop} {QF : Fl → En → Prop} {E : Exn → En → Prop}
theorem wau {n s : Nat} (hn : n ≤ 40) (hs : s ≤ 40) (h : Q (rvI (ch n s : Nat)) [.dat (zi n), .dat (zi s)]) : wp (jl A) Q E [.dat (zi n), .dat (zi s)] := by
 unfold jl ya1
 rw [PL.wp_run]
 walk_at "w"
 rw [Int.toNat_natCast]
 refine ⟨ja (by decide), by decide, jm (by omega) (by omega), ?_⟩
 refine zo (fun i r => ∃ (c3 : Cell), r = [.dat (zi n), .dat (zi s), .dat (.lst ((rowL i).map fun (n : Nat) => zi (n : Int))), c3, .no, .no]) ⟨_, rfl⟩ (fun i d r hd hI => ?_) (fun r hI => ?_)
 ·obtain ⟨c3, rfl⟩ := hI
  obtain ⟨hi, rfl⟩ := waa hd
  clear hd
  walk_at "w"
  have hlen : ((rowL i).map fun (n : Nat) => zi (n : Int)).length ≤ 42 := by rw [List.length_map, zq]; omega
  refine ⟨by decide, ja (by decide), ja (by omega), ja (by decide), ja (by omega), ?_⟩
  have hz : zipD (D.s (V.int 0) :: (rowL i).map fun (n : Nat) => zi (n : Int)) (((rowL i).map fun (n : Nat) => zi (n : Int)) ++ [D.s (V.int 0)]) = ((0 :: rowL i).zip (rowL i ++ [0])).map fun p => D.tup [zi (p.1 : Nat), zi (p.2 : Nat)] := by
   rw [← zipD_zip, List.map_cons, List.map_append]
   rfl
  rw [hz]
  have hzl : ((0 :: rowL i).zip (rowL i ++ [0])).length ≤ 43 := by rw [List.length_zip, List.length_cons, zq]; omega
  refine wpO_eq (PL.yw (vs := [4, 5]) ((0 :: rowL i).zip (rowL i ++ [0])) (fun p => D.tup [zi (p.1 : Nat), zi (p.2 : Nat)]) (fun p => zi ((p.1 + p.2 : Nat) : Int)) (ja (by omega)) fun p m => ?_) ?_
  ·walk_at "w"
   exact ⟨trivial, by decide, by decide, by rw [Int.natCast_add], by walk_at "fin"⟩
  ·rw [show (((0 :: rowL i).zip (rowL i ++ [0])).map fun p => zi ((p.1 + p.2 : Nat) : Int)) = (rowL (i + 1)).map fun (n : Nat) => zi (n : Int) by rw [← rowL_next, List.map_map]; rfl]
   walk_at "w"
   exact ⟨by decide, _, rfl⟩
 ·obtain ⟨c3, rfl⟩ := hI
  rw [wk]
  walk_at "w"
  rw [if_pos (by omega)]
  by_cases c : s ≤ n
  ·rw [if_pos (by omega), yaj (by omega), Int.toNat_natCast, List.getElem?_map, va7 c]
   exact h
  ·rw [if_neg (by omega)]
   rw [kah (by omega)] at h
   exact h
theorem ka0 {a b : Str} (ha : okS a) (hb : okS b) : eqD (zs a) (D.s (V.str b)) = some (rvB (a == b)) := qbo ha hb
theorem due_ok {o : Of} {k n : Nat} (hk : k ≤ 4) (hn : n ≤ 30) (h : Q (rvI (dueN o k n : Nat)) [.dat (zs o.s), .dat (zi k), .dat (zi n)]) : wp (xbe A) Q E [.dat (zs o.s), .dat (zi k), .dat (zi n)] := by
 have ho : okS o.s := by cases o <;> decide +kernel
 unfold xbe b_l_due
 walk_at "w"
 by_cases ck : k = 0
 ·subst ck
  rw [if_pos (by rfl)]
  have e : intD [D.s (V.bl ((n : Int) == 0))] = some (rvI (dueN o 0 n : Nat)) := by
   unfold dueN
   rw [if_pos rfl]
   show some (rvI (if ((n : Int) == 0) = true then 1 else 0)) = _
   by_cases cn : n = 0
   ·subst cn; rfl
   ·rw [if_neg cn, if_neg (by simpa using cn)]; rfl
  rw [e]
  walk_at "w"
  exact h
 ·rw [if_neg (by simpa using ck)]
  have e1 : ((k : Int) - 1) = ((k - 1 : Nat) : Int) := by omega
  have e2 : ((n : Int) + (k : Int) - 1) = ((n + k - 1 : Nat) : Int) := by omega
  unfold dueN at h
  rw [if_neg ck] at h
  rw [ka0 ho (by decide +kernel)]
  cases o with
  | any_ =>
   rw [show (Of.any_.s == Str.ofString "any") = true by decide +kernel]
   walk_at "w"
   rw [e1, e2]
   refine ⟨⟨by decide, trivial⟩, wau (by omega) (by omega) ?_⟩
   walk_at "w"
   exact h
  | some_ =>
   rw [show (Of.some_.s == Str.ofString "any") = false by decide +kernel]
   walk_at "w"
   rw [ka0 ho (by decide +kernel), show (Of.some_.s == Str.ofString "some") = true by decide +kernel]
   walk_at "w"
   dsimp only at h
   by_cases cn : 0 < n
   ·rw [if_pos cn] at h
    rw [if_pos (by omega), e1, show ((n : Int) - 1) = ((n - 1 : Nat) : Int) by omega]
    refine ⟨⟨by decide, trivial⟩, wau (by omega) (by omega) ?_⟩
    walk_at "w"
    exact h
   ·rw [if_neg cn] at h
    rw [if_neg (by omega)]
    exact h
  | maybe =>
   rw [show (Of.maybe.s == Str.ofString "any") = false by decide +kernel]
   walk_at "w"
   rw [ka0 ho (by decide +kernel), show (Of.maybe.s == Str.ofString "some") = false by decide +kernel]
   walk_at "w"
   rw [ka0 ho (by decide +kernel), show (Of.maybe.s == Str.ofString "maybe") = true by decide +kernel]
   walk_at "w"
   refine ⟨⟨by decide, trivial⟩, wau (by omega) (by omega) ?_⟩
   walk_at "w"
   exact h
  | one =>
   rw [show (Of.one.s == Str.ofString "any") = false by decide +kernel]
   walk_at "w"
   rw [ka0 ho (by decide +kernel), show (Of.one.s == Str.ofString "some") = false by decide +kernel]
   walk_at "w"
   rw [ka0 ho (by decide +kernel), show (Of.one.s == Str.ofString "maybe") = false by decide +kernel]
   walk_at "w"
   have e : intD [D.s (V.bl ((n : Int) == (k : Int)))] = some (rvI ((if n = k then 1 else 0 : Nat) : Int)) := by
    show some (rvI (if ((n : Int) == (k : Int)) = true then 1 else 0)) = _
    by_cases cn : n = k
    ·subst cn; rw [if_pos rfl, if_pos (by simp)]; rfl
    ·rw [if_neg cn, if_neg (by rw [beq_iff_eq]; omega)]; rfl
   rw [e]
   walk_at "w"
   exact h
end
theorem ws_at {ws : List Str} {i : Int} {z : Str} (h0 : 0 ≤ i) (h : ws[i.toNat]? = some z) : atI (ws.map zs) i = some (zs z) := by
 rw [yaj h0, List.getElem?_map, h]; rfl
theorem lay_shI (ps : List Pl) (ws : List Str) : Sh 2 (.lst ((jac ps ws).map tupI)) := Sh.lst (n := 1) (fun d m => by
 obtain ⟨y, _, rfl⟩ := List.mem_map.mp m
 exact Sh.tup (zi_shp y) (by decide)) (by decide)
section
variable {A : Ads} {Q : Rv → En → Prop} {QF : Fl → En → Prop} {E : Exn → En → Prop}
theorem draw_words {δ : M} (hδ : Dr δ) {ws : List Str} {c0 c1 c4 c5 c6 c7 c8 c9 c10 c11 c12 : Cell} {k : Nat} (hw : PoolOk ws) (hk : k ≤ 100) :
  ∃ (us : List Str) (δ' : M), Dr δ' ∧ vt [13] (aN 13) fYes (fOp ixD (fVar 3) (zc 2 (qc A) (uM 2 (uD (fC (.s (.int 12))) uNil)))) (rngD 0 k) []
   [c0, c1, .own δ, .dat (.lst (ws.map zs)), c4, c5, c6, c7, c8, c9, c10, c11, c12, .no] = some (us.map zs, [c0, c1, .own δ', .dat (.lst (ws.map zs)), c4, c5, c6, c7, c8, c9, c10, c11, c12, .no]) ∧ us.length = k ∧ ∀ u ∈ us, u ∈ ws := by
 obtain ⟨acc, r, h1, h2⟩ := PL.kau (vs := [13]) (a := aN 13) (tests := fYes) (elt := fOp ixD (fVar 3) (zc 2 (qc A) (uM 2 (uD (fC (.s (.int 12))) uNil)))) (ds := rngD 0 k) (acc0 := []) (ρ := [c0, c1, .own δ, .dat (.lst (ws.map zs)), c4, c5, c6, c7, c8, c9, c10, c11, c12, .no])
  (fun i acc r => ∃ (us : List Str) (δ' : M), Dr δ' ∧ acc = us.map zs ∧ r = [c0, c1, .own δ', .dat (.lst (ws.map zs)), c4, c5, c6, c7, c8, c9, c10, c11, c12, .no] ∧ us.length = i ∧ ∀ u ∈ us, u ∈ ws) ⟨[], δ, hδ, rfl, rfl, rfl, fun b m => by cases m⟩ (fun i d acc r hd hI => by
   obtain ⟨us, δ', hδ, rfl, rfl, hb, hl⟩ := hI
   have hi := (List.getElem?_eq_some_iff.mp hd).1
   rw [wk] at hi
   walk_at "w"
   refine ⟨by decide, ?_⟩
   show wp (P.ret true) _ EF _
   rw [PL.qk]
   walk_at "w"
   refine ⟨⟨by decide, trivial⟩, yg hδ (by decide) fun r2 δ2 a2 b2 hδ2 => ?_⟩
   walk_at "w"
   obtain ⟨u, hu⟩ : ∃ u, ws[r2.toNat]? = some u := ⟨_, List.getElem?_eq_getElem (by rw [hw.len]; omega)⟩
   rw [ws_at a2 hu]
   walk_at "w"
   refine ⟨by rw [List.length_map, hb, size_eq]; omega, us ++ [u], δ2, hδ2, by rw [List.map_append]; rfl, rfl, by rw [List.length_append, hb]; rfl, fun v hv => ?_⟩
   rcases List.mem_append.mp hv with q | q
   ·exact hl v q
   ·rw [List.mem_singleton.mp q]; exact List.mem_of_getElem? hu)
 obtain ⟨us, δ', hδ', rfl, rfl, hb, hl⟩ := h2
 rw [wk] at hb
 exact ⟨us, δ', hδ', h1, hb, hl⟩
theorem law_true {ns : List Int} (hn : ns.length ≤ 63) : wp (F_law A) (fun r _ => r = rvB true) EF [.dat (.ro (ns.map fun i => D.s (.int i)))] := by
 unfold F_law b_law
 rw [PL.wp_run]
 refine seq_or (fun r => ∃ c1 c2 c3 c4 c5 c6 c7 c8 c9 c10 c11, r = [.dat (.ro (ns.map zi)), c1, c2, c3, c4, c5, c6, c7, c8, c9, c10, c11, .no, .no]) ?_ fun r hr => ?_
 ·rw [PL.wbe]
  walk_at "w"
  rw [List.length_map]
  refine ⟨?_, ?_⟩
  ·split <;> exact jm (by omega) (by omega)
  obtain ⟨K, hK, hK2⟩ : ∃ K : Nat, (if (ns.length : Int) > 1 then (ns.length : Int) else 1).toNat = K ∧ K ≤ 63 := ⟨_, rfl, by split <;> omega⟩
  rw [hK]
  refine zo (fun i r => ∃ c1 c2 c3 c4 c5 c6 c7 c8 c9 c10 c11, r = [.dat (.ro (ns.map zi)), c1, c2, c3, c4, c5, c6, c7, c8, c9, c10, c11, .no, .no]) ⟨_, _, _, _, _, _, _, _, _, _, _, rfl⟩ (fun i d r hd hI => ?_) (fun r hI => ?_)
  ·obtain ⟨c1, c2, c3, c4, c5, c6, c7, c8, c9, c10, c11, rfl⟩ := hI
   obtain ⟨hi, rfl⟩ := waa hd
   have h0i : (0 : Int) + (i : Int) = ((i : Nat) : Int) := by omega
   rw [h0i, PL.qbp]
   clear hd
   refine ⟨by simp, ?_⟩
   walk_at "w"
   refine ⟨⟨by decide, trivial⟩, cell_ok fun c => ?_⟩
   walk_at "w"
   have hδ : Dr (.lst [zi c, zi 0]) := ⟨_, _, rfl⟩
   refine ⟨ja (by decide), by decide, ⟨by decide, trivial⟩, pool_ok hδ fun ws δ hδ hw => ?_⟩
   walk_at "w"
   refine ⟨by decide, ja (by decide), ⟨by decide, trivial⟩, yg hδ (by decide) fun r1 δ x0 x1 hδ => ?_⟩
   walk_at "w"
   refine jbk x0 (by exact x1) fun d hd => ?_
   obtain ⟨o, rfl⟩ : ∃ o : Of, d = zs o.s := by
    simp only [List.mem_cons, List.not_mem_nil, or_false] at hd
    rcases hd with rfl | rfl | rfl | rfl
    ·exact ⟨.any_, rfl⟩
    ·exact ⟨.some_, rfl⟩
    ·exact ⟨.maybe, rfl⟩
    ·exact ⟨.one, rfl⟩
   clear hd x0 x1
   walk_at "w"
   refine ⟨by decide, ⟨by decide, trivial⟩, yg hδ (by decide) fun r2 δ y0 y1 hδ => ?_⟩
   obtain ⟨k, rfl⟩ := Int.eq_ofNat_of_zero_le y0
   walk_at "w"
   refine ⟨by decide, ⟨by decide, trivial⟩, titles_ok (k := 4) hδ (by decide) fun nm δ hδ hnl hno hnd => ?_⟩
   walk_at "w"
   rw [xau (by rw [List.length_map]; omega), ← List.map_take]
   have hk5 : k ≤ 4 := by omega
   clear y0 y1
   obtain ⟨ps, hps⟩ : ∃ ps, ps = (nm.take k).map fun z => (⟨z, .any, o⟩ : Pl) := ⟨_, rfl⟩
   have hpl : ps.length = k := by rw [hps, List.length_map, List.length_take]; omega
   have hpc : ∀ p ∈ ps, p.k = .any ∧ p.o = o := fun p m => by
    rw [hps] at m
    obtain ⟨z, _, rfl⟩ := List.mem_map.mp m
    exact ⟨rfl, rfl⟩
   have hpo : ∀ p ∈ ps, okPl p := fun p m => by
    rw [hps] at m
    obtain ⟨z, hz, rfl⟩ := List.mem_map.mp m
    exact ⟨hno z (List.mem_of_mem_take hz), rfl⟩
   have hpn : (ps.map (·.name)).Nodup := by
    rw [hps, List.map_map]
    rw [show ((fun x : Pl => x.name) ∘ fun z => (⟨z, .any, o⟩ : Pl)) = id from rfl, List.map_id]
    exact List.Nodup.sublist (List.take_sublist _ _) hnd
   have hpa : ∀ p ∈ ps, p.k = .any := fun p m => (hpc p m).1
   refine wpO_eq (PL.yw (vs := [12]) (nm.take k) zs (fun z => Pl.obj A ⟨z, .any, o⟩) (ja (by rw [List.length_take]; omega)) fun z m => ?_) ?_
   ·walk_at "w"
    refine ⟨by decide, trivial, ?_⟩
    unfold yx vaj
    walk_at "w"
    exact ⟨⟨trivial, by decide⟩, ⟨trivial, by decide⟩, ⟨trivial, by decide⟩, by decide, rfl, trivial⟩
   rw [show (nm.take k).map (fun z => Pl.obj A ⟨z, .any, o⟩) = ps.map (Pl.obj A) by rw [hps, List.map_map]; rfl]
   clear hps hnl hno hnd
   walk_at "w"
   refine ⟨by decide, ja (by decide), ja (by decide), ja (by decide), trivial, tab0_ok (by omega) hpo hpn fun r => ?_⟩
   walk_at "w"
   refine ⟨by decide, ⟨by decide, trivial⟩, yg hδ (by decide) fun r2 δ y0 y1 hδ => ?_⟩
   walk_at "w"
   refine ⟨⟨by decide, trivial⟩, yg hδ (by decide) fun r3 δ z0 z1 hδ => ?_⟩
   walk_at "w"
   refine ⟨⟨by decide, trivial⟩, yg hδ (by decide) fun r4 δ u0 u1 hδ => ?_⟩
   walk_at "w"
   refine ⟨ja (by decide), ⟨by decide, trivial⟩, yg hδ (by decide) fun r5 δ v0 v1 hδ => ?_⟩
   walk_at "w"
   refine jbk v0 (by exact v1) fun d hd => ?_
   obtain ⟨s, rfl, hs⟩ : ∃ s : Nat, d = zi s ∧ s ≤ 30 := by
    simp only [List.mem_cons, List.not_mem_nil, or_false] at hd
    rcases hd with rfl | rfl | rfl
    ·exact ⟨r2.toNat, by rw [Int.toNat_of_nonneg y0], by omega⟩
    ·exact ⟨r3.toNat, by rw [Int.toNat_of_nonneg z0], by omega⟩
    ·exact ⟨r4.toNat, by rw [Int.toNat_of_nonneg u0], by omega⟩
   clear hd v0 v1 y0 y1 z0 z1 u0 u1
   walk_at "w"
   rw [Int.toNat_natCast]
   refine ⟨by decide, jm (by omega) (by omega), ?_⟩
   obtain ⟨us, δ', hδ', e1, hul, hum⟩ := draw_words (A := A) hδ (c0 := .dat (.ro (ns.map zi))) (c1 := .dat (zi i)) (c4 := .dat (zs o.s)) (c5 := .dat (zi k)) (c6 := .dat (.lst (ps.map (Pl.obj A)))) (c7 := .dat (tbD A (.tup []) ps (.tup []) (.tup []))) (c8 := .dat (zi s)) (c9 := c9) (c10 := c10) (c11 := c11) (c12 := .no) (k := s) hw (by omega)
   refine wpO_eq e1 ?_
   walk_at "w"
   refine ⟨by decide, ⟨by decide, trivial⟩, due_ok hk5 hs ?_⟩
   walk_at "w"
   have hdue : dueN o k s = (jac ps us).length := by rw [lays_len, Cnt_due hpc, hpl, hul]
   refine ⟨by decide, ⟨by decide, trivial⟩, many_ok (by omega) hpa ?_⟩
   rw [many_cnt, ← lays_len, hdue]
   walk_at "w"
   rw [beq_self_eq_true]
   walk_at "w"
   by_cases cs : s < 21
   ·rw [if_pos (by omega)]
    have hfew : (jac ps us).length ≤ 1771 := by
     have := ways_few (ps := ps) (ws := us) (by omega) (by omega)
     unfold jac
     exact Nat.le_trans (List.length_filter_le _ _) this
    have hln : ∀ y ∈ jac ps us, y.length = s := fun y m => by
     rw [← hul]
     exact (wbk y (List.mem_filter.mp m).1).2
    have h0 : s = 0 → (jac ps us).length ≤ 1 := fun z => by
     have hu0 : us = [] := List.length_eq_zero_iff.mp (by omega)
     rw [hu0]
     unfold jac
     exact Nat.le_trans (List.length_filter_le _ _) (Nat.le_refl 1)
    have hsort : war (.lst ((jac ps us).map tupI)) = some (.new (.lst ((jac ps us).map tupI))) := sort_ways hln h0 (by omega) (lays_up ps us)
    refine ⟨⟨by decide, trivial⟩, lays_ok (by omega) (by omega) hpa (fun j hj => by
     have := ways_few (ps := ps) (ws := us.take j) (by omega) (by rw [List.length_take]; omega)
     have := Nat.mul_le_mul this (show ps.length + 1 ≤ 5 by omega)
     omega) ?_⟩
    walk_at "w"
    rw [List.length_map, hsort]
    walk_at "w"
    refine ⟨by decide, ?_⟩
    rw [beq_self_eq_true]
    walk_at "w"
    rw [ne_self (lay_shI ps us)]
    walk_at "w"
    exact ⟨_, _, _, _, _, _, _, _, _, _, _, rfl⟩
   ·rw [if_neg (by omega)]
    exact ⟨_, _, _, _, _, _, _, _, _, _, _, rfl⟩
  ·exact hI
 ·obtain ⟨c1, c2, c3, c4, c5, c6, c7, c8, c9, c10, c11, rfl⟩ := hr
  walk_at "w"
end
end LW
theorem PySem.Challenge.cw_wishwords_k18_laid_by_number_holds : PySem.Challenge.rw_wishwords_k18_laid_by_number.Holds :=
 fin_ LW.law_true
